import PyProof.Rows.All
import Wide.All
import OpenK.AllK
import Wide.FinOn
import HandS.ForMost
import HandS.ForExc
import HandS.IsInst
import HandS.Defaults
import HandS.MakeKwOnly
import HandS.MakeKw
import HandS.CallSlots
import HandS.OwnEq
import HandS.Codes
import HandS.Flow
import HandS.Style
import HandS.TupLe
import HandS.TupAny
import HandS.Deep
import HandS.TupMul
import HandS.Ends
import HandS.WordsDict
import HandS.Head0
import HandS.Head1
import HandS.Head2
import HandS.HeadEnd
import HandS.HeadHook1
import HandS.HeadHook2
import HandS.HeadHook3
import HandS.HeadHook4
import KE.KExcInit
import HandS.ExcInit
import HandS.ExcField
import HandS.ExcIs
import HandS.TryMany
import HandS.TryOnly
import KE.KExcIs
import PyProof.ReprRoads
import HandS.RaiseMore
import HandS.DictComp
import KE.GoesEnum
import HandS.NoneIn
import HandS.Star
import HandS.Conv
import KE.KRevSl
import PySem.Challenge.RW_cutofftills_k05_whole_groups
set_option Elab.async false
set_option linter.all false
set_option maxRecDepth 100000
set_option maxHeartbeats 4000000
namespace PyD
open PySem PySem.Spec PyProof.Rows L2

/-! ### plain data -/
inductive D where
  | non | bl (b : Bool) | int (i : Int) | str (x : Str) | ty (n : String)
  | lst (xs : List D) | tup (xs : List D) | scr (ns : List Int)
  | dct (kvs : List (Key × D)) | obj (c : Nat) (fs : List (Str × D)) | cls (c : Nat) | fn (f : Nat)
  /-- own containers with own kids (never frozen as such) -/
  | lstO (xs : List D) | dctO (kvs : List (Key × D)) | objO (c : Nat) (fs : List (Str × D)) | kid (d : D)
instance : Inhabited D := ⟨.non⟩

/-- the program's written part, where its classes and defs stand -/
structure Gx where
  K : PySem.W.Frag
  cl : Nat → Addr
  fa : Nat → Addr

mutual
inductive Dp (G : Gx) (F : Hp) : V → D → Prop
  | non : Dp G F .non .non
  | bl (b : Bool) : Dp G F (.bl b) (.bl b)
  | int (i : Int) : Dp G F (.int i) (.int i)
  | str (x : Str) : Dp G F (.str x) (.str x)
  | ty (n : String) : Dp G F (.ty n) (.ty n)
  | lst {a : Addr} {vs : List V} {ds : List D} : F a = some (.lst vs) → DpL G F vs ds → Dp G F (.ref a) (.lst ds)
  | tup {a : Addr} {vs : List V} {ds : List D} : SqT G.K F a vs → DpL G F vs ds → Dp G F (.ref a) (.tup ds)
  | scr {a : Addr} {ns : List Int} : SqL G.K F a (ns.map V.int) → Dp G F (.ref a) (.scr ns)
  | dct {a : Addr} {kvs : List (Key × V)} {kds : List (Key × D)} : F a = some (.dK kvs) → DpK G F kvs kds → Dp G F (.ref a) (.dct kds)
  | obj {a dx : Addr} {c : Nat} {fs : List (Str × V)} {fds : List (Str × D)} : F a = some (.ins (G.cl c) dx fs) → DpF G F fs fds → Dp G F (.ref a) (.obj c fds)
  | cls (c : Nat) : Dp G F (.ref (G.cl c)) (.cls c)
  | fn (f : Nat) : Dp G F (.ref (G.fa f)) (.fn f)
inductive DpL (G : Gx) (F : Hp) : List V → List D → Prop
  | nil : DpL G F [] []
  | cons {v : V} {d : D} {vs : List V} {ds : List D} : Dp G F v d → DpL G F vs ds → DpL G F (v :: vs) (d :: ds)
inductive DpK (G : Gx) (F : Hp) : List (Key × V) → List (Key × D) → Prop
  | nil : DpK G F [] []
  | cons {k : Key} {v : V} {d : D} {vs : List (Key × V)} {ds : List (Key × D)} : Dp G F v d → DpK G F vs ds → DpK G F ((k, v) :: vs) ((k, d) :: ds)
inductive DpF (G : Gx) (F : Hp) : List (Str × V) → List (Str × D) → Prop
  | nil : DpF G F [] []
  | cons {k : Str} {v : V} {d : D} {vs : List (Str × V)} {ds : List (Str × D)} : Dp G F v d → DpF G F vs ds → DpF G F ((k, v) :: vs) ((k, d) :: ds)
end

theorem sqT_ext {K : PySem.W.Frag} {H H' : Hp} {a : Addr} {xs : List V} (h : SqT K H a xs) (e : Same H H') : SqT K H' a xs := by
  rcases h with (h | ⟨o, h⟩) | h
  · exact .inl (.inl (e _ _ h))
  · exact .inl (.inr ⟨o, e _ _ h⟩)
  · exact .inr h

section
variable {G : Gx} {F F' : Hp}
theorem Dp.mono {v : V} {d : D} (e : Same F F') (h : Dp G F v d) : Dp G F' v d := by
  refine Dp.rec (motive_1 := fun v d _ => Dp G F' v d) (motive_2 := fun v d _ => DpL G F' v d) (motive_3 := fun v d _ => DpK G F' v d) (motive_4 := fun v d _ => DpF G F' v d)
    .non .bl .int .str .ty (fun h _ i => .lst (e _ _ h) i) (fun h _ i => .tup (sqT_ext h e) i) (fun h => .scr (e.seq h)) (fun h _ i => .dct (e _ _ h) i) (fun h _ i => .obj (e _ _ h) i) .cls .fn .nil (fun _ _ i j => .cons i j) .nil (fun _ _ i j => .cons i j) .nil (fun _ _ i j => .cons i j) h
theorem DpL.mono (e : Same F F') : ∀ {vs : List V} {ds : List D}, DpL G F vs ds → DpL G F' vs ds
  | _, _, .nil => .nil
  | _, _, .cons h t => .cons (h.mono e) (DpL.mono e t)
theorem DpK.mono (e : Same F F') : ∀ {vs : List (Key × V)} {ds : List (Key × D)}, DpK G F vs ds → DpK G F' vs ds
  | _, _, .nil => .nil
  | _, _, .cons h t => .cons (h.mono e) (DpK.mono e t)
theorem DpF.mono (e : Same F F') : ∀ {vs : List (Str × V)} {ds : List (Str × D)}, DpF G F vs ds → DpF G F' vs ds
  | _, _, .nil => .nil
  | _, _, .cons h t => .cons (h.mono e) (DpF.mono e t)
theorem DpL.length : ∀ {vs : List V} {ds : List D}, DpL G F vs ds → vs.length = ds.length
  | _, _, .nil => rfl
  | _, _, .cons _ t => by simp [DpL.length t]
theorem DpK.length : ∀ {vs : List (Key × V)} {ds : List (Key × D)}, DpK G F vs ds → vs.length = ds.length
  | _, _, .nil => rfl
  | _, _, .cons _ t => by simp [DpK.length t]
theorem DpF.length : ∀ {vs : List (Str × V)} {ds : List (Str × D)}, DpF G F vs ds → vs.length = ds.length
  | _, _, .nil => rfl
  | _, _, .cons _ t => by simp [DpF.length t]
theorem DpL.get : ∀ {vs : List V} {ds : List D} {i : Nat} {d : D}, DpL G F vs ds → ds[i]? = some d → ∃ v, vs[i]? = some v ∧ Dp G F v d
  | _, _, _, _, .nil, e => by simp at e
  | _, _, 0, _, .cons h _, e => by simp at e; subst e; exact ⟨_, rfl, h⟩
  | _, _, i + 1, d, .cons _ t, e => by
    obtain ⟨v, h1, h2⟩ := DpL.get (i := i) (d := d) t (by simpa using e)
    exact ⟨v, by simpa using h1, h2⟩
theorem DpL.getV : ∀ {vs : List V} {ds : List D} {i : Nat} {v : V}, DpL G F vs ds → vs[i]? = some v → ∃ d, ds[i]? = some d ∧ Dp G F v d
  | _, _, _, _, .nil, e => by simp at e
  | _, _, 0, _, .cons h _, e => by simp at e; subst e; exact ⟨_, rfl, h⟩
  | _, _, i + 1, v, .cons _ t, e => by
    obtain ⟨d, h1, h2⟩ := DpL.getV (i := i) (v := v) t (by simpa using e)
    exact ⟨d, by simpa using h1, h2⟩
theorem DpL.append : ∀ {vs ws : List V} {ds es : List D}, DpL G F vs ds → DpL G F ws es → DpL G F (vs ++ ws) (ds ++ es)
  | _, _, _, _, .nil, s => s
  | _, _, _, _, .cons h t, s => .cons h (DpL.append t s)
theorem DpL.take : ∀ {vs : List V} {ds : List D} (n : Nat), DpL G F vs ds → DpL G F (vs.take n) (ds.take n)
  | _, _, 0, _ => by simp; exact .nil
  | _, _, _ + 1, .nil => .nil
  | _, _, n + 1, .cons h t => .cons h (DpL.take n t)
theorem DpL.drop : ∀ {vs : List V} {ds : List D} (n : Nat), DpL G F vs ds → DpL G F (vs.drop n) (ds.drop n)
  | _, _, 0, h => h
  | _, _, _ + 1, .nil => .nil
  | _, _, n + 1, .cons _ t => DpL.drop n t
theorem DpL.set {v : V} {d : D} (h : Dp G F v d) : ∀ {vs : List V} {ds : List D} (i : Nat), DpL G F vs ds → DpL G F (vs.set i v) (ds.set i d)
  | _, _, _, .nil => .nil
  | _, _, 0, .cons _ t => .cons h t
  | _, _, i + 1, .cons q t => .cons q (DpL.set h i t)
theorem DpL.rep {vs : List V} {ds : List D} (h : DpL G F vs ds) : ∀ k : Nat, DpL G F (List.replicate k vs).flatten (List.replicate k ds).flatten
  | 0 => .nil
  | k + 1 => by
    simp only [List.replicate_succ, List.flatten_cons]
    exact h.append (DpL.rep h k)
theorem DpL.dropLast {vs : List V} {ds : List D} (h : DpL G F vs ds) : DpL G F vs.dropLast ds.dropLast := by
  rw [List.dropLast_eq_take, List.dropLast_eq_take, h.length]
  exact h.take _
theorem DpF.look : ∀ {vs : List (Str × V)} {ds : List (Str × D)} {k : Str} {d : D}, DpF G F vs ds → ds.lookup k = some d → ∃ v, vs.lookup k = some v ∧ Dp G F v d
  | _, _, _, _, .nil, e => by simp at e
  | _, _, k, d, .cons (k := k') h t, e => by
    simp only [List.lookup_cons] at e ⊢
    cases q : (k == k') with
    | true => rw [q] at e; simp at e; subst e; exact ⟨_, rfl, h⟩
    | false => rw [q] at e; exact DpF.look t e
theorem DpF.lookN : ∀ {vs : List (Str × V)} {ds : List (Str × D)} {k : Str}, DpF G F vs ds → ds.lookup k = none → vs.lookup k = none
  | _, _, _, .nil, _ => rfl
  | _, _, k, .cons (k := k') h t, e => by
    simp only [List.lookup_cons] at e ⊢
    cases q : (k == k') with
    | true => rw [q] at e; simp at e
    | false => rw [q] at e; exact DpF.lookN t e
end
/-- a field stored -/
def putD (f : Str) (v : D) : List (Str × D) → List (Str × D)
  | [] => [(f, v)]
  | p :: r => if p.1 = f then (f, v) :: r else p :: putD f v r
end PyD

namespace PyD
open PySem PySem.Spec PyProof.Rows L2

section
variable {G : Gx} {F F' : Hp}
theorem DpF.put {f : Str} {v : V} {d : D} (h : Dp G F v d) : ∀ {vs : List (Str × V)} {ds : List (Str × D)}, DpF G F vs ds → DpF G F (putF f v vs) (putD f d ds)
  | _, _, .nil => .cons h .nil
  | _, _, .cons (k := k) (v := v') (d := d') q t => by
    unfold putF putD
    by_cases e : k = f
    · simp only [e, if_true]; exact .cons h t
    · simp only [e, if_false]; exact .cons q (DpF.put h t)
end

/-! ### slots: a plain value, or a tree of cells (lists, dicts, objects) that this frame alone knows -/
inductive Slot where
  | val (d : D)
  | own (b : Option Nat) (d : D)
  | exn
abbrev St := L2.St
abbrev Rho := List (Option Slot)
/-- x: the exception that an except suite holds; J: what of it is frozen; U: cells that others own -/
structure Gm where
  G : Gx
  β : Nat → Addr
  x : Addr
  J : Hp → Prop
  Jm : ∀ F F', Same F F' → J F → J F'
  U : Addr → Prop
abbrev Gm.of (G : Gx) (β : Nat → Addr) (U : Addr → Prop) : Gm := ⟨G, β, 0, fun _ => True, fun _ _ _ h => h, U⟩

/-- a flat cell: what it holds is frozen -/
def Cell (G : Gx) (F H : Hp) (a : Addr) : D → Prop
  | .lst ds => ∃ vs, H a = some (.lst vs) ∧ DpL G F vs ds
  | .dct kds => ∃ kvs, H a = some (.dK kvs) ∧ DpK G F kvs kds
  | .obj c fds => ∃ dx fs, H a = some (.ins (G.cl c) dx fs) ∧ DpF G F fs fds
  | _ => False
theorem Cell.mono {G : Gx} {F H F' H' : Hp} {a : Addr} {d : D} (e : Same F F') (k : ∀ o, H a = some o → H' a = some o) (c : Cell G F H a d) : Cell G F' H' a d := by
  cases d with
  | lst ds => obtain ⟨vs, h, t⟩ := c; exact ⟨vs, k _ h, t.mono e⟩
  | dct ds => obtain ⟨vs, h, t⟩ := c; exact ⟨vs, k _ h, t.mono e⟩
  | obj c fs => obtain ⟨dx, vs, h, t⟩ := c; exact ⟨dx, vs, k _ h, t.mono e⟩
  | _ => exact c.elim
theorem Cell.there {G : Gx} {F H : Hp} {a : Addr} {d : D} (c : Cell G F H a d) : ∃ o, H a = some o := by
  cases d with
  | lst ds => obtain ⟨vs, h, t⟩ := c; exact ⟨_, h⟩
  | dct ds => obtain ⟨vs, h, t⟩ := c; exact ⟨_, h⟩
  | obj c fs => obtain ⟨dx, vs, h, t⟩ := c; exact ⟨_, h⟩
  | _ => exact c.elim
/-! trees of cells, with their addresses -/
mutual
inductive Kd (G : Gx) (F H : Hp) : V → D → List Addr → Prop
  | fz {v : V} {d : D} : Dp G F v d → Kd G F H v d []
  | ow {a : Addr} {d : D} {L : List Addr} : Ct G F H a d L → Kd G F H (.ref a) (.kid d) L
inductive Ct (G : Gx) (F H : Hp) : Addr → D → List Addr → Prop
  | flat {a : Addr} {d : D} : Cell G F H a d → Ct G F H a d [a]
  | lst {a : Addr} {vs : List V} {ds : List D} {L : List Addr} : H a = some (.lst vs) → KdL G F H vs ds L → a ∉ L → Ct G F H a (.lstO ds) (a :: L)
  | dct {a : Addr} {kvs : List (Key × V)} {kds : List (Key × D)} {L : List Addr} : H a = some (.dK kvs) → kvs.map (·.1) = kds.map (·.1) → KdL G F H (kvs.map (·.2)) (kds.map (·.2)) L → a ∉ L → Ct G F H a (.dctO kds) (a :: L)
  | obj {a dx : Addr} {c : Nat} {fs : List (Str × V)} {fds : List (Str × D)} {L : List Addr} : H a = some (.ins (G.cl c) dx fs) → fs.map (·.1) = fds.map (·.1) → KdL G F H (fs.map (·.2)) (fds.map (·.2)) L → a ∉ L → Ct G F H a (.objO c fds) (a :: L)
inductive KdL (G : Gx) (F H : Hp) : List V → List D → List Addr → Prop
  | nil : KdL G F H [] [] []
  | cons {v : V} {d : D} {vs : List V} {ds : List D} {L1 L2 : List Addr} : Kd G F H v d L1 → KdL G F H vs ds L2 → (∀ a ∈ L1, a ∉ L2) → KdL G F H (v :: vs) (d :: ds) (L1 ++ L2)
end
section
variable {G : Gx} {F H F' H' : Hp}
theorem Ct.mono {a : Addr} {d : D} {L : List Addr} (e : Same F F') (h : Ct G F H a d L) : (∀ b ∈ L, ∀ o, H b = some o → H' b = some o) → Ct G F' H' a d L := by
  refine Ct.rec (motive_1 := fun v d L _ => (∀ b ∈ L, ∀ o, H b = some o → H' b = some o) → Kd G F' H' v d L) (motive_2 := fun a d L _ => (∀ b ∈ L, ∀ o, H b = some o → H' b = some o) → Ct G F' H' a d L) (motive_3 := fun v d L _ => (∀ b ∈ L, ∀ o, H b = some o → H' b = some o) → KdL G F' H' v d L) ?_ ?_ ?_ ?_ ?_ ?_ ?_ ?_ h
  · intro v d h k; exact .fz (h.mono e)
  · intro a d L h i k; exact .ow (i k)
  · intro a d c k; exact .flat (c.mono e fun o q => k a (List.mem_cons_self ..) o q)
  · intro a vs ds L h t n i k; exact .lst (k _ (List.mem_cons_self ..) _ h) (i fun b hb => k b (List.mem_cons_of_mem _ hb)) n
  · intro a vs ds L h e t n i k; exact .dct (k _ (List.mem_cons_self ..) _ h) e (i fun b hb => k b (List.mem_cons_of_mem _ hb)) n
  · intro a dx c vs ds L h e t n i k; exact .obj (k _ (List.mem_cons_self ..) _ h) e (i fun b hb => k b (List.mem_cons_of_mem _ hb)) n
  · intro k; exact .nil
  · intro v d vs ds L1 L2 h t dj i1 i2 k
    exact .cons (i1 fun b hb => k b (List.mem_append_left _ hb)) (i2 fun b hb => k b (List.mem_append_right _ hb)) dj
theorem Kd.mono {v : V} {d : D} {L : List Addr} (e : Same F F') (h : Kd G F H v d L) (k : ∀ b ∈ L, ∀ o, H b = some o → H' b = some o) : Kd G F' H' v d L := by
  cases h with
  | fz h => exact .fz (h.mono e)
  | ow h => exact .ow (h.mono e k)
theorem KdL.mono (e : Same F F') : ∀ {vs : List V} {ds : List D} {L : List Addr}, KdL G F H vs ds L → (∀ b ∈ L, ∀ o, H b = some o → H' b = some o) → KdL G F' H' vs ds L
  | _, _, _, .nil, _ => .nil
  | _, _, _, .cons h t dj, k => .cons (h.mono e fun b hb => k b (List.mem_append_left _ hb)) (KdL.mono e t fun b hb => k b (List.mem_append_right _ hb)) dj
theorem Ct.there {a : Addr} {d : D} {L : List Addr} (h : Ct G F H a d L) : ∀ b ∈ L, ∃ o, H b = some o := by
  refine Ct.rec (motive_1 := fun v d L _ => ∀ b ∈ L, ∃ o, H b = some o) (motive_2 := fun a d L _ => ∀ b ∈ L, ∃ o, H b = some o) (motive_3 := fun v d L _ => ∀ b ∈ L, ∃ o, H b = some o) ?_ ?_ ?_ ?_ ?_ ?_ ?_ ?_ h
  · intro v d h b hb; cases hb
  · intro a d L h i; exact i
  · intro a d c b hb; obtain rfl : b = a := by simpa using hb
    exact c.there
  · intro a vs ds L h t n i b hb; rcases List.mem_cons.mp hb with rfl | hb
    · exact ⟨_, h⟩
    · exact i b hb
  · intro a vs ds L h e t n i b hb; rcases List.mem_cons.mp hb with rfl | hb
    · exact ⟨_, h⟩
    · exact i b hb
  · intro a dx c vs ds L h e t n i b hb; rcases List.mem_cons.mp hb with rfl | hb
    · exact ⟨_, h⟩
    · exact i b hb
  · intro b hb; cases hb
  · intro v d vs ds L1 L2 h t dj i1 i2 b hb
    rcases List.mem_append.mp hb with hb | hb
    · exact i1 b hb
    · exact i2 b hb
theorem Ct.self {a : Addr} {d : D} {L : List Addr} (h : Ct G F H a d L) : a ∈ L := by cases h <;> exact List.mem_cons_self ..
theorem no_kid {v : V} {d : D} (h : Dp G F v (.kid d)) : False := by cases h
theorem Ct.uniq {a : Addr} {d : D} {L : List Addr} (h : Ct G F H a d L) : ∀ {L' : List Addr}, Ct G F H a d L' → L = L' := by
  refine Ct.rec (motive_1 := fun v d L _ => ∀ {L'}, Kd G F H v d L' → L = L') (motive_2 := fun a d L _ => ∀ {L'}, Ct G F H a d L' → L = L') (motive_3 := fun v d L _ => ∀ {L'}, KdL G F H v d L' → L = L') ?_ ?_ ?_ ?_ ?_ ?_ ?_ ?_ h
  · intro v d h L' h'; cases h' with
    | fz h' => rfl
    | ow h' => exact (no_kid h).elim
  · intro a d L h i L' h'; cases h' with
    | fz h' => exact (no_kid h').elim
    | ow h' => exact i h'
  · intro a d c L' h'; cases h' with
    | flat c' => rfl
    | _ => exact c.elim
  · intro a vs ds L h t n i L' h'; cases h' with
    | flat c => exact c.elim
    | lst h2 t2 n2 => rw [h] at h2; cases h2; rw [i t2]
  · intro a vs ds L h e t n i L' h'; cases h' with
    | flat c => exact c.elim
    | dct h2 e2 t2 n2 => rw [h] at h2; cases h2; rw [i t2]
  · intro a dx c vs ds L h e t n i L' h'; cases h' with
    | flat c => exact c.elim
    | obj h2 e2 t2 n2 => rw [h] at h2; cases h2; rw [i t2]
  · intro L' h'; cases h'; rfl
  · intro v d vs ds L1 L2 h t dj i1 i2 L' h'; cases h' with
    | cons h2 t2 dj2 => rw [i1 h2, i2 t2]
end

/-! ### frozen -/
mutual
def strip : D → D
  | .lstO xs => .lst (strips xs)
  | .dctO kvs => .dct (stripK kvs)
  | .objO c fs => .obj c (stripF fs)
  | .kid d => strip d
  | d => d
def strips : List D → List D
  | [] => []
  | d :: ds => strip d :: strips ds
def stripK : List (Key × D) → List (Key × D)
  | [] => []
  | (k, d) :: ds => (k, strip d) :: stripK ds
def stripF : List (Str × D) → List (Str × D)
  | [] => []
  | (k, d) :: ds => (k, strip d) :: stripF ds
end
theorem Dp.strip {G : Gx} {F : Hp} {v : V} {d : D} (h : Dp G F v d) : strip d = d := by cases h <;> simp [PyD.strip]
theorem Cell.strip {G : Gx} {F H : Hp} {a : Addr} {d : D} (h : Cell G F H a d) : strip d = d := by cases d <;> first | exact h.elim | simp [PyD.strip]
def frzH (F H : Hp) (L : List Addr) : Hp := fun b => if b ∈ L then H b else F b
section
variable {G : Gx} {F H : Hp}
theorem frzH_in {L : List Addr} {b : Addr} (h : b ∈ L) : frzH F H L b = H b := by unfold frzH; rw [if_pos h]
theorem frzH_out {L : List Addr} {b : Addr} (h : b ∉ L) : frzH F H L b = F b := by unfold frzH; rw [if_neg h]
theorem frzH_sub {L : List Addr} (n : ∀ b ∈ L, F b = none) : Same F (frzH F H L) := fun b o q => by
  rw [frzH_out fun z => by rw [n b z] at q; cases q]; exact q
theorem frzH_same {L : List Addr} (e : Same F H) : Same (frzH F H L) H := fun b o q => by
  by_cases h : b ∈ L
  · rwa [frzH_in h] at q
  · rw [frzH_out h] at q; exact e b o q
theorem frzH_le {L L' : List Addr} (n : ∀ b ∈ L', F b = none) (s : ∀ b ∈ L, b ∈ L') : Same (frzH F H L) (frzH F H L') := fun b o q => by
  by_cases h : b ∈ L
  · rw [frzH_in h] at q; rw [frzH_in (s b h)]; exact q
  · rw [frzH_out h] at q
    rw [frzH_out fun z => by rw [n b z] at q; cases q]; exact q
theorem dpk_of {kvs : List (Key × V)} : ∀ {kds : List (Key × D)}, kvs.map (·.1) = kds.map (·.1) → DpL G F (kvs.map (·.2)) (strips (kds.map (·.2))) → DpK G F kvs (stripK kds) := by
  induction kvs with
  | nil => intro kds e h; cases kds with
    | nil => simp only [stripK]; exact .nil
    | cons _ _ => simp at e
  | cons p r ih => intro kds e h; cases kds with
    | nil => simp at e
    | cons q s =>
      obtain ⟨k, v⟩ := p; obtain ⟨k', d⟩ := q
      simp only [List.map_cons, List.cons.injEq] at e
      obtain ⟨rfl, e⟩ := e
      simp only [List.map_cons, strips] at h
      simp only [stripK]
      cases h with | cons h1 h2 => exact .cons h1 (ih e h2)
theorem dpf_of {kvs : List (Str × V)} : ∀ {kds : List (Str × D)}, kvs.map (·.1) = kds.map (·.1) → DpL G F (kvs.map (·.2)) (strips (kds.map (·.2))) → DpF G F kvs (stripF kds) := by
  induction kvs with
  | nil => intro kds e h; cases kds with
    | nil => simp only [stripF]; exact .nil
    | cons _ _ => simp at e
  | cons p r ih => intro kds e h; cases kds with
    | nil => simp at e
    | cons q s =>
      obtain ⟨k, v⟩ := p; obtain ⟨k', d⟩ := q
      simp only [List.map_cons, List.cons.injEq] at e
      obtain ⟨rfl, e⟩ := e
      simp only [List.map_cons, strips] at h
      simp only [stripF]
      cases h with | cons h1 h2 => exact .cons h1 (ih e h2)
theorem Ct.freeze {a : Addr} {d : D} {L : List Addr} (h : Ct G F H a d L) : (∀ b ∈ L, F b = none) → Dp G (frzH F H L) (.ref a) (strip d) := by
  refine Ct.rec (motive_1 := fun v d L _ => (∀ b ∈ L, F b = none) → Dp G (frzH F H L) v (strip d)) (motive_2 := fun a d L _ => (∀ b ∈ L, F b = none) → Dp G (frzH F H L) (.ref a) (strip d)) (motive_3 := fun vs ds L _ => (∀ b ∈ L, F b = none) → DpL G (frzH F H L) vs (strips ds)) ?_ ?_ ?_ ?_ ?_ ?_ ?_ ?_ h
  · intro v d h n; rw [h.strip]; exact h.mono (frzH_sub n)
  · intro a d L h i n; simp only [strip]; exact i n
  · intro a d c n
    rw [c.strip]
    have es := frzH_sub (H := H) n
    cases d with
    | lst ds => obtain ⟨vs, h, t⟩ := c; exact .lst (by rw [frzH_in (List.mem_cons_self ..)]; exact h) (t.mono es)
    | dct ds => obtain ⟨vs, h, t⟩ := c; exact .dct (by rw [frzH_in (List.mem_cons_self ..)]; exact h) (t.mono es)
    | obj c fs => obtain ⟨dx, vs, h, t⟩ := c; exact .obj (by rw [frzH_in (List.mem_cons_self ..)]; exact h) (t.mono es)
    | _ => exact c.elim
  · intro a vs ds L h t na i n
    simp only [strip]
    exact .lst (by rw [frzH_in (List.mem_cons_self ..)]; exact h) ((i fun b hb => n b (List.mem_cons_of_mem _ hb)).mono (frzH_le n fun b hb => List.mem_cons_of_mem _ hb))
  · intro a vs ds L h e t na i n
    simp only [strip]
    exact .dct (by rw [frzH_in (List.mem_cons_self ..)]; exact h) (dpk_of e ((i fun b hb => n b (List.mem_cons_of_mem _ hb)).mono (frzH_le n fun b hb => List.mem_cons_of_mem _ hb)))
  · intro a dx c vs ds L h e t na i n
    simp only [strip]
    exact .obj (by rw [frzH_in (List.mem_cons_self ..)]; exact h) (dpf_of e ((i fun b hb => n b (List.mem_cons_of_mem _ hb)).mono (frzH_le n fun b hb => List.mem_cons_of_mem _ hb)))
  · intro n; simp only [strips]; exact .nil
  · intro v d vs ds L1 L2 h t dj i1 i2 n
    simp only [strips]
    exact .cons ((i1 fun b hb => n b (List.mem_append_left _ hb)).mono (frzH_le n fun b hb => List.mem_append_left _ hb)) ((i2 fun b hb => n b (List.mem_append_right _ hb)).mono (frzH_le n fun b hb => List.mem_append_right _ hb))
end

/-! ### the frame -/
def SlotOk (Γ : Gm) (F H : Hp) (v : V) (L : List Addr) : Slot → Prop
  | .val d => Dp Γ.G F v d ∧ L = []
  | .own b d => ∃ a, v = .ref a ∧ Ct Γ.G F H a d L ∧ ∀ k, b = some k → a = Γ.β k
  | .exn => v = .ref Γ.x ∧ L = []
def OwnAt (Γ : Gm) (ρ : Rho) (σ : St) (F H : Hp) (i : Nat) (a : Addr) : Prop := ∃ s v L, ρ[i]? = some (some s) ∧ σ[i]? = some (some v) ∧ SlotOk Γ F H v L s ∧ a ∈ L
def Own (Γ : Gm) (ρ : Rho) (σ : St) (F H : Hp) (a : Addr) : Prop := ∃ i, OwnAt Γ ρ σ F H i a
structure Rel (Γ : Gm) (ρ : Rho) (σ : St) (F H : Hp) : Prop where
  sub : Same F H
  slot : ∀ (i : Nat) s, ρ[i]? = some (some s) → ∃ v L, σ[i]? = some (some v) ∧ SlotOk Γ F H v L s
  inj : ∀ i j a, OwnAt Γ ρ σ F H i a → OwnAt Γ ρ σ F H j a → i = j
  own : ∀ i a, OwnAt Γ ρ σ F H i a → F a = none ∧ ¬ Γ.U a
  len : ρ.length = σ.length
  inv : Γ.J F
  ali : ∀ a, Γ.U a → F a = none ∧ ∃ o, H a = some o
structure Stp (Γ : Gm) (ρ : Rho) (σ : St) (F H : Hp) (ρ' : Rho) (σ' : St) (F' H' : Hp) : Prop where
  rel : Rel Γ ρ' σ' F' H'
  subF : Same F F'
  keep : ∀ a, Γ.U a → H' a = H a
  there : ∀ a o, H a = some o → ∃ o', H' a = some o'
theorem SlotOk.uniq {Γ : Gm} {F H : Hp} {v : V} {L L' : List Addr} {s : Slot} (h : SlotOk Γ F H v L s) (h' : SlotOk Γ F H v L' s) : L = L' := by
  cases s with
  | val d => rw [h.2, h'.2]
  | exn => rw [h.2, h'.2]
  | own b d =>
    obtain ⟨a, e, c, _⟩ := h
    obtain ⟨a', e', c', _⟩ := h'
    rw [e] at e'; cases e'
    exact c.uniq c'
theorem SlotOk.mono {Γ : Gm} {F H F' H' : Hp} {v : V} {L : List Addr} {s : Slot} (e : Same F F') (k : ∀ b ∈ L, ∀ o, H b = some o → H' b = some o) (h : SlotOk Γ F H v L s) : SlotOk Γ F' H' v L s := by
  cases s with
  | val d => exact ⟨h.1.mono e, h.2⟩
  | exn => exact h
  | own b d => obtain ⟨a, z, c, hb⟩ := h; exact ⟨a, z, c.mono e k, hb⟩
theorem SlotOk.there {Γ : Gm} {F H : Hp} {v : V} {L : List Addr} {s : Slot} (h : SlotOk Γ F H v L s) : ∀ b ∈ L, ∃ o, H b = some o := by
  cases s with
  | val d => rw [h.2]; intro b hb; cases hb
  | exn => rw [h.2]; intro b hb; cases hb
  | own b d => obtain ⟨a, z, c, hb⟩ := h; exact c.there
/-- the addresses of a slot, told -/
theorem OwnAt.of {Γ : Gm} {ρ : Rho} {σ : St} {F H : Hp} {i : Nat} {a : Addr} {s : Slot} {v : V} {L : List Addr} (o : OwnAt Γ ρ σ F H i a) (h1 : ρ[i]? = some (some s)) (h2 : σ[i]? = some (some v)) (h3 : SlotOk Γ F H v L s) : a ∈ L := by
  obtain ⟨s', v', L', q1, q2, q3, q4⟩ := o
  rw [h1] at q1; cases q1
  rw [h2] at q2; cases q2
  rw [h3.uniq q3]; exact q4
theorem Rel.ownH {Γ : Gm} {ρ : Rho} {σ : St} {F H : Hp} {i : Nat} {a : Addr} (o : OwnAt Γ ρ σ F H i a) : ∃ u, H a = some u := by
  obtain ⟨s, v, L, h1, h2, h3, h4⟩ := o
  exact h3.there a h4
/-- a slot kept as it is -/
theorem own_back {Γ : Gm} {ρ ρ' : Rho} {σ σ' : St} {F H F' H' : Hp} (R : Rel Γ ρ σ F H) (e : Same F F') (j : Nat) (hρ : ∀ s, ρ'[j]? = some (some s) → ρ[j]? = some (some s)) (hσ : σ'[j]? = σ[j]?) (k : ∀ b, OwnAt Γ ρ σ F H j b → ∀ o, H b = some o → H' b = some o) {a : Addr} (o : OwnAt Γ ρ' σ' F' H' j a) : OwnAt Γ ρ σ F H j a := by
  obtain ⟨s, v, L', q1, q2, q3, q4⟩ := o
  have q1' := hρ s q1
  obtain ⟨v', L, g1, g2⟩ := R.slot j s q1'
  rw [hσ, g1] at q2; cases q2
  have g3 : SlotOk Γ F' H' v L s := g2.mono e fun b hb => k b ⟨s, v, L, q1', g1, g2, hb⟩
  exact ⟨s, v, L, q1', g1, g2, by rw [g3.uniq q3]; exact q4⟩
theorem slot_keep {Γ : Gm} {ρ : Rho} {σ σ' : St} {F H F' H' : Hp} (R : Rel Γ ρ σ F H) (e : Same F F') (j : Nat) {s : Slot} (hρ : ρ[j]? = some (some s)) (hσ : σ'[j]? = σ[j]?) (k : ∀ b, OwnAt Γ ρ σ F H j b → ∀ o, H b = some o → H' b = some o) : ∃ v L, σ'[j]? = some (some v) ∧ SlotOk Γ F' H' v L s := by
  obtain ⟨v, L, g1, g2⟩ := R.slot j s hρ
  exact ⟨v, L, by rw [hσ]; exact g1, g2.mono e fun b hb => k b ⟨s, v, L, hρ, g1, g2, hb⟩⟩
theorem Rel.slotV {Γ : Gm} {ρ : Rho} {σ : St} {F H : Hp} (R : Rel Γ ρ σ F H) {i : Nat} {d : D} (h : ρ[i]? = some (some (.val d))) : ∃ v, σ[i]? = some (some v) ∧ Dp Γ.G F v d := by
  obtain ⟨v, L, h1, h2, _⟩ := R.slot i _ h
  exact ⟨v, h1, h2⟩
theorem Rel.slotO {Γ : Gm} {ρ : Rho} {σ : St} {F H : Hp} (R : Rel Γ ρ σ F H) {i : Nat} {b : Option Nat} {d : D} {v : V} (h : ρ[i]? = some (some (.own b d))) (hv : σ[i]? = some (some v)) : ∃ a L, v = .ref a ∧ Ct Γ.G F H a d L ∧ (∀ k, b = some k → a = Γ.β k) ∧ ∀ c ∈ L, OwnAt Γ ρ σ F H i c := by
  obtain ⟨v', L, h1, a, z, c, hb⟩ := R.slot i _ h
  rw [hv] at h1; cases h1
  exact ⟨a, L, z, c, hb, fun e he => ⟨_, v, L, h, hv, ⟨a, z, c, hb⟩, he⟩⟩
theorem Stp.refl {Γ : Gm} {ρ : Rho} {σ : St} {F H : Hp} (r : Rel Γ ρ σ F H) : Stp Γ ρ σ F H ρ σ F H :=
  ⟨r, Same.refl _, fun _ _ => rfl, fun _ o h => ⟨o, h⟩⟩
theorem Stp.trans {Γ : Gm} {ρ ρ1 ρ2 : Rho} {σ σ1 σ2 : St} {F H F1 H1 F2 H2 : Hp} (a : Stp Γ ρ σ F H ρ1 σ1 F1 H1) (b : Stp Γ ρ1 σ1 F1 H1 ρ2 σ2 F2 H2) : Stp Γ ρ σ F H ρ2 σ2 F2 H2 :=
  ⟨b.rel, a.subF.trans b.subF, fun c h => (b.keep c h).trans (a.keep c h), fun c o h => by
    obtain ⟨o', e⟩ := a.there c o h
    exact b.there c o' e⟩

/-- new objects alone -/
structure Alc (F H F' H' : Hp) : Prop where
  subF : Same F F'
  subH : Same H H'
  fh : Same F' H'
  frn : ∀ a o, H a = some o → F a = none → F' a = none
theorem Alc.refl {F H : Hp} (h : Same F H) : Alc F H F H := ⟨Same.refl _, Same.refl _, h, fun _ _ _ h => h⟩
theorem Alc.own {Γ : Gm} {ρ : Rho} {σ : St} {F H F' H' : Hp} (r : Rel Γ ρ σ F H) (a : Alc F H F' H') {j : Nat} {c : Addr} (o : OwnAt Γ ρ σ F' H' j c) : OwnAt Γ ρ σ F H j c :=
  own_back r a.subF j (fun _ q => q) rfl (fun b _ u q => a.subH b u q) o
theorem Alc.stp {Γ : Gm} {ρ : Rho} {σ : St} {F H F' H' : Hp} (r : Rel Γ ρ σ F H) (a : Alc F H F' H') : Stp Γ ρ σ F H ρ σ F' H' := by
  refine ⟨⟨a.fh, fun i s h => slot_keep r a.subF i h rfl fun b _ u q => a.subH b u q, fun i j c h1 h2 => r.inj i j c (a.own r h1) (a.own r h2), fun i c h => ?_, r.len, Γ.Jm _ _ a.subF r.inv, fun c h => ?_⟩, a.subF, fun c h => ?_, fun c o h => ⟨o, a.subH c o h⟩⟩
  · have o := a.own r h
    obtain ⟨h1, h2⟩ := r.own i c o
    obtain ⟨u, hu⟩ := Rel.ownH o
    exact ⟨a.frn c u hu h1, h2⟩
  · obtain ⟨h1, o, h2⟩ := r.ali c h
    exact ⟨a.frn c o h2 h1, o, a.subH c o h2⟩
  · obtain ⟨h1, o, h2⟩ := r.ali c h
    rw [h2, a.subH c o h2]

/-! ### results -/
inductive Res where
  | val (d : D)
  | new (d : D)
  | at (i : Nat)
/-- an exception: its class, its attributes -/
inductive ECl where
  | own (c : Nat)
  | blt (n : String)
structure Exc where
  c : ECl
  fs : List (Str × D)
inductive Out (α : Type) where
  | ok (a : α) (ρ : Rho)
  | exc (x : Exc) (ρ : Rho)
  | stuck
def ecV (G : Gx) : ECl → Value
  | .own c => .ref (G.cl c)
  | .blt n => .type n
def ExcRep (G : Gx) (F H : Hp) (x : Exc) : Option Addr → Prop
  | none => x.fs = []
  | some a => ∃ fvs, F a = some (.xd fvs) ∧ DpF G F fvs x.fs
/-- what is read: frozen, or a tree of cells -/
def View (G : Gx) (F H : Hp) (v : V) (d : D) : Prop := Dp G F v d ∨ ∃ a L, v = .ref a ∧ Ct G F H a d L
theorem View.of {G : Gx} {F H : Hp} {v : V} {d : D} (h : Dp G F v d) : View G F H v d := .inl h
theorem View.mono {G : Gx} {F H F' H' : Hp} {v : V} {d : D} (e : Same F F') (k : Same H H') (h : View G F H v d) : View G F' H' v d := by
  rcases h with h | ⟨a, L, r, c⟩
  · exact .inl (h.mono e)
  · exact .inr ⟨a, L, r, c.mono e fun b _ o q => k b o q⟩
/-- cells that no slot knows, none of others' -/
def Fresh (Γ : Gm) (ρ : Rho) (σ : St) (F H : Hp) (L : List Addr) : Prop := ∀ b ∈ L, F b = none ∧ ¬ Γ.U b ∧ ¬ Own Γ ρ σ F H b
/-- ρ F H: behind -/
def RepRes (Γ : Gm) (σ : St) (ρ : Rho) (F H : Hp) (v : V) : Res → Prop
  | .val d => Dp Γ.G F v d
  | .new d => ∃ a L, v = .ref a ∧ Ct Γ.G F H a d L ∧ Fresh Γ ρ σ F H L
  | .at i => σ[i]? = some (some v)
def Post (Γ : Gm) (W : WX) (o : Out Res) (ρ : Rho) (σ : St) (F H : Hp) (Q : VK) : Prop :=
  match o with
  | .ok r ρ' => ∀ v F' H', Stp Γ ρ σ F H ρ' σ F' H' → RepRes Γ σ ρ' F' H' v r → Q v H'
  | .exc x ρ' => ∀ d F' H', Stp Γ ρ σ F H ρ' σ F' H' → ExcRep Γ.G F' H' x d → W (ecV Γ.G x.c) d σ H'
  | .stuck => False
abbrev M := Rho → Out Res
def tM (Γ : Gm) (W : WX) (m : M) : TE := fun σ H Q => ∃ ρ F, Rel Γ ρ σ F H ∧ Post Γ W (m ρ) ρ σ F H Q
theorem _root_.L2.PE.imp {X : Cx} {e : Expr} {t t' : TE} (h : PE X e t) (i : ∀ σ H Q, t' σ H Q → t σ H Q) : PE X e t' := ⟨fun pins s σ H Q I q => h.run pins s σ H Q I (i _ _ _ q)⟩
theorem _root_.L2.PT.imp {X : Cx} {e : Expr} {t t' : TT} (h : PT X e t) (i : ∀ σ H Q, t' σ H Q → t σ H Q) : PT X e t' := ⟨fun pins s σ H Q I q => h.run pins s σ H Q I (i _ _ _ q)⟩
theorem _root_.L2.PA.imp {X : Cx} {e : List Expr} {t t' : TA} (h : PA X e t) (i : ∀ σ H Q, t' σ H Q → t σ H Q) : PA X e t' := ⟨fun pos pins s σ H Q I q => h.run pos pins s σ H Q I (i _ _ _ q)⟩
theorem _root_.L2.PS.imp {X : Cx} {e : Stmt} {t t' : TS} (h : PS X e t) (i : ∀ D σ H, t' D σ H → t D σ H) : PS X e t' := ⟨fun pins s σ H D I q => h.run pins s σ H D I (i _ _ _ q)⟩
theorem _root_.L2.PSs.imp {X : Cx} {e : List Stmt} {t t' : TS} (h : PSs X e t) (i : ∀ D σ H, t' D σ H → t D σ H) : PSs X e t' := ⟨fun pins s σ H D I q => h.run pins s σ H D I (i _ _ _ q)⟩

/-- what is new is frozen -/
def Res.frz : Res → Res
  | .new d => .val (strip d)
  | r => r
def frz (m : M) : M := fun ρ => match m ρ with
  | .ok r ρ' => .ok r.frz ρ'
  | .exc x ρ' => .exc x ρ'
  | .stuck => .stuck
/-- cells L are frozen -/
theorem Rel.freeze {Γ : Gm} {ρ : Rho} {σ : St} {F H : Hp} {L : List Addr} (r : Rel Γ ρ σ F H) (n : ∀ b ∈ L, F b = none ∧ ¬ Γ.U b) (no : ∀ b ∈ L, ¬ Own Γ ρ σ F H b) : Stp Γ ρ σ F H ρ σ (frzH F H L) H := by
  have e : Same F (frzH F H L) := frzH_sub fun b hb => (n b hb).1
  have bk : ∀ j c, OwnAt Γ ρ σ (frzH F H L) H j c → OwnAt Γ ρ σ F H j c := fun j c o => own_back r e j (fun _ q => q) rfl (fun _ _ _ q => q) o
  refine ⟨⟨frzH_same r.sub, fun i s h => slot_keep r e i h rfl fun _ _ _ q => q, fun i j c h1 h2 => r.inj i j c (bk i c h1) (bk j c h2), fun i c h => ?_, r.len, Γ.Jm _ _ e r.inv, fun c h => ?_⟩, e, fun _ _ => rfl, fun c o h => ⟨o, h⟩⟩
  · obtain ⟨h1, h2⟩ := r.own i c (bk i c h)
    exact ⟨by rw [frzH_out fun z => no c z ⟨i, bk i c h⟩]; exact h1, h2⟩
  · obtain ⟨h1, h2⟩ := r.ali c h
    exact ⟨by rw [frzH_out fun z => (n c z).2 h]; exact h1, h2⟩
theorem Post.frz {Γ : Gm} {W : WX} {o : Out Res} {ρ : Rho} {σ : St} {F H : Hp} {Q : VK} (h : Post Γ W (match o with | .ok r ρ' => .ok r.frz ρ' | .exc x ρ' => .exc x ρ' | .stuck => .stuck) ρ σ F H Q) : Post Γ W o ρ σ F H Q := by
  cases o with
  | ok r ρ' =>
    cases r with
    | new d =>
      intro v F' H' s r
      obtain ⟨a, L, rfl, c, fr⟩ := r
      have s2 := s.rel.freeze (L := L) (fun b hb => ⟨(fr b hb).1, (fr b hb).2.1⟩) (fun b hb => (fr b hb).2.2)
      exact h _ _ _ (s.trans s2) (c.freeze fun b hb => (fr b hb).1)
    | val d => exact h
    | «at» i => exact h
  | exc x ρ' => exact h
  | stuck => exact h
theorem je_frz {X : Cx} {Γ : Gm} {W : WX} {e : Expr} {m : M} (h : PE X e (tM Γ W m)) : PE X e (tM Γ W (frz m)) := h.imp fun σ H Q ⟨ρ, F, r, p⟩ => ⟨ρ, F, r, Post.frz p⟩

/-- what a result (no new one) is -/
def resolve (ρ : Rho) : Res → Option D
  | .val d => some d
  | .new d => none
  | .at i => match ρ[i]? with
    | some (some (.val d)) => some d
    | some (some (.own _ d)) => some d
    | _ => none
theorem resolve_view {Γ : Gm} {ρ : Rho} {σ : St} {F H : Hp} {v : V} {r : Res} {d : D} (R : Rel Γ ρ σ F H) (h : RepRes Γ σ ρ F H v r) (e : resolve ρ r = some d) : View Γ.G F H v d := by
  cases r with
  | val d' => simp only [resolve, Option.some.injEq] at e; subst e; exact .inl h
  | new d' => simp [resolve] at e
  | «at» i =>
    simp only [resolve] at e
    have h : σ[i]? = some (some v) := h
    split at e
    · rename_i d' q
      cases e
      obtain ⟨v', L, h1, h2⟩ := R.slot i _ q
      rw [h] at h1; cases h1
      exact .inl h2.1
    · rename_i b d' q
      cases e
      obtain ⟨v', L, h1, a, z, c, hb⟩ := R.slot i _ q
      rw [h] at h1; cases h1
      exact .inr ⟨a, L, z, c⟩
    · cases e
end PyD

namespace PyD
open PySem PySem.Spec PyProof.Rows L2

/-! ### frozen results -/
def RepF (G : Gx) (σ : St) (F : Hp) (v : V) : Res → Prop
  | .val d => Dp G F v d
  | .new _ => False
  | .at i => σ[i]? = some (some v)
theorem RepF.mono {G : Gx} {σ : St} {F F' : Hp} {v : V} {r : Res} (e : Same F F') (h : RepF G σ F v r) : RepF G σ F' v r := by
  cases r with
  | val d => exact Dp.mono e h
  | new d => exact h
  | «at» i => exact h
theorem RepF.view {Γ : Gm} {ρ : Rho} {σ : St} {F H : Hp} {v : V} {r : Res} {d : D} (R : Rel Γ ρ σ F H) (h : RepF Γ.G σ F v r) (e : resolve ρ r = some d) : View Γ.G F H v d := by
  refine resolve_view R ?_ e
  cases r with
  | val d => exact h
  | new d => exact h.elim
  | «at» i => exact h
def PostF (Γ : Gm) (W : WX) (o : Out Res) (ρ : Rho) (σ : St) (F H : Hp) (Q : VK) : Prop :=
  match o with
  | .ok r ρ' => ∀ v F' H', Stp Γ ρ σ F H ρ' σ F' H' → RepF Γ.G σ F' v r.frz → Q v H'
  | .exc x ρ' => ∀ d F' H', Stp Γ ρ σ F H ρ' σ F' H' → ExcRep Γ.G F' H' x d → W (ecV Γ.G x.c) d σ H'
  | .stuck => False
theorem PostF.post {Γ : Gm} {W : WX} {o : Out Res} {ρ : Rho} {σ : St} {F H : Hp} {Q : VK} (h : PostF Γ W o ρ σ F H Q) : Post Γ W o ρ σ F H Q := by
  apply Post.frz
  cases o with
  | ok r ρ' =>
    intro v F' H' s q
    refine h v F' H' s ?_
    cases r with
    | val d => exact q
    | new d => exact q
    | «at» i => exact q
  | exc x ρ' => exact h
  | stuck => exact h
def tF (Γ : Gm) (W : WX) (m : M) : TE := fun σ H Q => ∃ ρ F, Rel Γ ρ σ F H ∧ PostF Γ W (m ρ) ρ σ F H Q
theorem je_f {X : Cx} {Γ : Gm} {W : WX} {e : Expr} {m : M} (h : PE X e (tM Γ W m)) : PE X e (tF Γ W m) := h.imp fun σ H Q ⟨ρ, F, r, p⟩ => ⟨ρ, F, r, p.post⟩

/-- behind the first steps -/
theorem Post.shift {Γ : Gm} {W : WX} {o : Out Res} {ρ ρ2 : Rho} {σ : St} {F H F2 H2 : Hp} {Q : VK} (s : Stp Γ ρ σ F H ρ2 σ F2 H2) (h : Post Γ W o ρ σ F H Q) : Post Γ W o ρ2 σ F2 H2 Q := by
  cases o with
  | ok r ρ' => exact fun v F' H' s2 q => h v F' H' (s.trans s2) q
  | exc x ρ' => exact fun d F' H' s2 q => h d F' H' (s.trans s2) q
  | stuck => exact h
def bindO {α β : Type} (o : Out α) (k : α → Rho → Out β) : Out β := match o with
  | .ok a ρ => k a ρ
  | .exc x ρ => .exc x ρ
  | .stuck => .stuck
/-- first o (frozen), then k -/
def bindF {β : Type} (o : Out Res) (k : Res → Rho → Out β) : Out β := match o with
  | .ok a ρ => k a.frz ρ
  | .exc x ρ => .exc x ρ
  | .stuck => .stuck
theorem Post.bindF {Γ : Gm} {W : WX} {o : Out Res} {k : Res → Rho → Out Res} {ρ : Rho} {σ : St} {F H : Hp} {Q Q1 : VK} (h : Post Γ W (bindF o k) ρ σ F H Q)
    (hk : ∀ r ρ1 v F1 H1, Stp Γ ρ σ F H ρ1 σ F1 H1 → RepF Γ.G σ F1 v r → Post Γ W (k r ρ1) ρ1 σ F1 H1 Q → Q1 v H1) : PostF Γ W o ρ σ F H Q1 := by
  cases o with
  | ok r ρ' => exact fun v F' H' s q => hk r.frz ρ' v F' H' s q (h.shift s)
  | exc x ρ' => exact h
  | stuck => exact h

/-! ### operators on values -/
def RepNew (G : Gx) (H F' H' : Hp) (v : V) : Res → Prop
  | .val d => Dp G F' v d
  | .new d => ∃ a, v = .ref a ∧ F' a = none ∧ Cell G F' H' a d ∧ H a = none
  | .at _ => False
def BinOk (G : Gx) (r : R2) (f : D → D → Option Res) : Prop := ∀ F H x y dx dy res Q, Same F H → View G F H x dx → View G F H y dy → f dx dy = some res →
  (∀ v F' H', Alc F H F' H' → RepNew G H F' H' v res → Q v H') → r x y H Q
def UnOk (G : Gx) (r : V → Hp → VK → Prop) (f : D → Option Res) : Prop := ∀ F H x dx res Q, Same F H → View G F H x dx → f dx = some res →
  (∀ v F' H', Alc F H F' H' → RepNew G H F' H' v res → Q v H') → r x H Q
theorem fresh_new {Γ : Gm} {ρ : Rho} {σ : St} {F H F' H' : Hp} {a : Addr} (R : Rel Γ ρ σ F H) (al : Alc F H F' H') (n : F' a = none) (hn : H a = none) : Fresh Γ ρ σ F' H' [a] := fun b hb => by
  obtain rfl : b = a := by simpa using hb
  refine ⟨n, fun z => ?_, fun ⟨j, z⟩ => ?_⟩
  · obtain ⟨_, o, h⟩ := R.ali b z; rw [hn] at h; cases h
  · obtain ⟨u, hu⟩ := Rel.ownH (al.own R z); rw [hn] at hu; cases hu
theorem fin_new {Γ : Gm} {W : WX} {ρ : Rho} {σ : St} {F H : Hp} {Q : VK} {res : Res} (R : Rel Γ ρ σ F H) (h : Post Γ W (.ok res ρ) ρ σ F H Q) : ∀ v F' H', Alc F H F' H' → RepNew Γ.G H F' H' v res → Q v H' := fun v F' H' al q => by
  refine h v F' H' (al.stp R) ?_
  cases res with
  | val d => exact q
  | «at» i => exact q.elim
  | new d =>
    obtain ⟨a, e, n, c, hn⟩ := q
    exact ⟨a, [a], e, .flat c, fresh_new R al n hn⟩
def op1 (f : D → Option Res) (a : Res) (ρ : Rho) : Out Res := match resolve ρ a with
  | some x => (match f x with | some r => .ok r ρ | none => .stuck)
  | none => .stuck
def op2 (f : D → D → Option Res) (a b : Res) (ρ : Rho) : Out Res := match resolve ρ a, resolve ρ b with
  | some x, some y => (match f x y with | some r => .ok r ρ | none => .stuck)
  | _, _ => .stuck
theorem op2_ok {Γ : Gm} {W : WX} {r : R2} {f : D → D → Option Res} {a b : Res} {ρ : Rho} {σ : St} {F H : Hp} {Q : VK} {x y : V} (hf : BinOk Γ.G r f) (R : Rel Γ ρ σ F H) (ha : RepF Γ.G σ F x a) (hb : RepF Γ.G σ F y b) (h : Post Γ W (op2 f a b ρ) ρ σ F H Q) : r x y H Q := by
  unfold op2 at h
  split at h
  · rename_i dx dy e1 e2
    split at h
    · rename_i res e3
      exact hf F H x y dx dy res Q R.sub (ha.view R e1) (hb.view R e2) e3 (fin_new R h)
    · exact h.elim
  · exact h.elim
theorem op1_ok {Γ : Gm} {W : WX} {r : V → Hp → VK → Prop} {f : D → Option Res} {a : Res} {ρ : Rho} {σ : St} {F H : Hp} {Q : VK} {x : V} (hf : UnOk Γ.G r f) (R : Rel Γ ρ σ F H) (ha : RepF Γ.G σ F x a) (h : Post Γ W (op1 f a ρ) ρ σ F H Q) : r x H Q := by
  unfold op1 at h
  split at h
  · rename_i dx e1
    split at h
    · rename_i res e3
      exact hf F H x dx res Q R.sub (ha.view R e1) e3 (fin_new R h)
    · exact h.elim
  · exact h.elim
def mBin (f : D → D → Option Res) (ma mb : M) : M := fun ρ => bindF (ma ρ) fun a ρ1 => bindF (mb ρ1) fun b ρ2 => op2 f a b ρ2
def mUn (f : D → Option Res) (ma : M) : M := fun ρ => bindF (ma ρ) fun a ρ1 => op1 f a ρ1
theorem tOp_ok {Γ : Gm} {W : WX} {r : R2} {f : D → D → Option Res} {ma mb : M} (hf : BinOk Γ.G r f) : ∀ σ H Q, tM Γ W (mBin f ma mb) σ H Q → tOp r (tF Γ W ma) (tF Γ W mb) σ H Q := by
  intro σ H Q ⟨ρ, F, R, p⟩
  refine ⟨ρ, F, R, p.bindF fun a ρ1 x F1 H1 s1 ha p1 => ⟨ρ1, F1, s1.rel, p1.bindF fun b ρ2 y F2 H2 s2 hb p2 => ?_⟩⟩
  exact op2_ok hf s2.rel (ha.mono s2.subF) hb p2
theorem tUn_ok {Γ : Gm} {W : WX} {r : V → Hp → VK → Prop} {f : D → Option Res} {ma : M} (hf : UnOk Γ.G r f) : ∀ σ H Q, tM Γ W (mUn f ma) σ H Q → tUn r (tF Γ W ma) σ H Q := by
  intro σ H Q ⟨ρ, F, R, p⟩
  exact ⟨ρ, F, R, p.bindF fun a ρ1 x F1 H1 s1 ha p1 => op1_ok hf s1.rel ha p1⟩
section
variable {X : Cx} {Γ : Gm} {W : WX} {a b : Expr} {ma mb : M} {pos : Pos}
theorem je_bin {op : Operator} {r : R2} {f : D → D → Option Res} (ho : OpR X (binaryOp op) r) (hf : BinOk Γ.G r f) (ha : PE X a (tM Γ W ma)) (hb : PE X b (tM Γ W mb)) : PE X (.BinOp a op b pos) (tM Γ W (mBin f ma mb)) :=
  (pe_op ho (je_f ha) (je_f hb)).imp (tOp_ok hf)
theorem je_cmp {op : CmpOp} {r : R2} {f : D → D → Option Res} (ho : OpR X (compareOp op) r) (hf : BinOk Γ.G r f) (ha : PE X a (tM Γ W ma)) (hb : PE X b (tM Γ W mb)) (hm : behindInMarks op b = false) : PE X (.Compare a [op] [b] pos) (tM Γ W (mBin f ma mb)) :=
  (pe_cmpR ho (je_f ha) (je_f hb) hm).imp (tOp_ok hf)
theorem je_un {op : UnaryOp} {r : V → Hp → VK → Prop} {f : D → Option Res} (ho : UnR X (unaryOp op) r) (hf : UnOk Γ.G r f) (ha : PE X a (tM Γ W ma)) : PE X (.UnaryOp op a pos) (tM Γ W (mUn f ma)) :=
  (pe_un ho (je_f ha)).imp (tUn_ok hf)
end

/-! ### the operators -/
def OrR (r r' : R2) : R2 := fun x y H Q => r x y H Q ∨ r' x y H Q
def orF (f g : D → D → Option Res) : D → D → Option Res := fun a b => match f a b with
  | some r => some r
  | none => g a b
theorem BinOk.or {G : Gx} {r r' : R2} {f g : D → D → Option Res} (h : BinOk G r f) (h' : BinOk G r' g) : BinOk G (OrR r r') (orF f g) := fun F H x y dx dy res Q e vx vy q k => by
  unfold orF at q
  split at q
  · rename_i z w
    cases q
    exact .inl (h F H x y dx dy _ Q e vx vy w k)
  · exact .inr (h' F H x y dx dy res Q e vx vy q k)
theorem Alc.tup {F H : Hp} {p : Addr} {o : HO} (e : Same F H) (n : H p = none) : Alc F H (upd F p o) (upd H p o) := by
  have nF : F p = none := Same.free e n
  refine ⟨fun b u q => by rw [upd_ne (ne_of_none q nF)]; exact q, fun b u q => by rw [upd_ne (ne_of_none q n)]; exact q, fun b u q => ?_, fun b u q f => by rw [upd_ne (ne_of_none q n)]; exact f⟩
  by_cases z : b = p
  · subst z; rw [upd_same] at q ⊢; exact q
  · rw [upd_ne z] at q ⊢; exact e b u q
theorem Alc.cell {F H : Hp} {p : Addr} {o : HO} (e : Same F H) (n : H p = none) : Alc F H F (upd H p o) :=
  ⟨Same.refl _, fun b u q => by rw [upd_ne (ne_of_none q n)]; exact q, fun b u q => by rw [upd_ne (ne_of_none (e b u q) n)]; exact e b u q, fun _ _ _ f => f⟩
/-- what is read of a view -/
theorem View.int {G : Gx} {F H : Hp} {v : V} {i : Int} (h : View G F H v (.int i)) : v = .int i := by
  rcases h with h | ⟨a, L, e, c⟩
  · cases h; rfl
  · cases c with | flat c => exact c.elim
theorem View.bl {G : Gx} {F H : Hp} {v : V} {i : Bool} (h : View G F H v (.bl i)) : v = .bl i := by
  rcases h with h | ⟨a, L, e, c⟩
  · cases h; rfl
  · cases c with | flat c => exact c.elim
theorem View.str {G : Gx} {F H : Hp} {v : V} {i : Str} (h : View G F H v (.str i)) : v = .str i := by
  rcases h with h | ⟨a, L, e, c⟩
  · cases h; rfl
  · cases c with | flat c => exact c.elim
theorem View.non {G : Gx} {F H : Hp} {v : V} (h : View G F H v .non) : v = .non := by
  rcases h with h | ⟨a, L, e, c⟩
  · cases h; rfl
  · cases c with | flat c => exact c.elim
theorem View.lst {G : Gx} {F H : Hp} {v : V} {ds : List D} (s : Same F H) (h : View G F H v (.lst ds)) : ∃ a vs, v = .ref a ∧ H a = some (.lst vs) ∧ DpL G F vs ds := by
  rcases h with h | ⟨a, L, e, c⟩
  · cases h with | lst h t => exact ⟨_, _, rfl, s _ _ h, t⟩
  · cases c with | flat c => obtain ⟨vs, c, t⟩ := c; exact ⟨a, vs, e, c, t⟩
theorem View.tup {G : Gx} {F H : Hp} {v : V} {ds : List D} (s : Same F H) (h : View G F H v (.tup ds)) : ∃ a vs, v = .ref a ∧ SqT G.K H a vs ∧ DpL G F vs ds := by
  rcases h with h | ⟨a, L, e, c⟩
  · cases h with | tup h t => exact ⟨_, _, rfl, sqT_ext h s, t⟩
  · cases c with | flat c => exact c.elim
theorem View.scr {G : Gx} {F H : Hp} {v : V} {ns : List Int} (s : Same F H) (h : View G F H v (.scr ns)) : ∃ a, v = .ref a ∧ SqL G.K H a (ns.map V.int) := by
  rcases h with h | ⟨a, L, e, c⟩
  · cases h with | scr h => exact ⟨_, rfl, s.seq h⟩
  · cases c with | flat c => exact c.elim
theorem View.dct {G : Gx} {F H : Hp} {v : V} {ds : List (Key × D)} (s : Same F H) (h : View G F H v (.dct ds)) : ∃ a vs, v = .ref a ∧ H a = some (.dK vs) ∧ DpK G F vs ds := by
  rcases h with h | ⟨a, L, e, c⟩
  · cases h with | dct h t => exact ⟨_, _, rfl, s _ _ h, t⟩
  · cases c with | flat c => obtain ⟨vs, c, t⟩ := c; exact ⟨a, vs, e, c, t⟩
theorem View.obj {G : Gx} {F H : Hp} {v : V} {c : Nat} {ds : List (Str × D)} (s : Same F H) (h : View G F H v (.obj c ds)) : ∃ a dx vs, v = .ref a ∧ H a = some (.ins (G.cl c) dx vs) ∧ DpF G F vs ds := by
  rcases h with h | ⟨a, L, e, c⟩
  · cases h with | obj h t => exact ⟨_, _, _, rfl, s _ _ h, t⟩
  · cases c with | flat c => obtain ⟨dx, vs, c, t⟩ := c; exact ⟨a, dx, vs, e, c, t⟩

def fII (C : Int → Int → Bool) (g : Int → Int → D) : D → D → Option Res
  | .int i, .int j => if C i j then some (.val (g i j)) else none
  | _, _ => none
theorem bin_II {G : Gx} {C : Int → Int → Prop} {c : Int → Int → Bool} {g : Int → Int → V} {g' : Int → Int → D} (hc : ∀ i j, c i j = true → C i j) (hg : ∀ i j F, Dp G F (g i j) (g' i j)) : BinOk G (rI C g) (fII c g') := by
  intro F H x y dx dy res Q e vx vy q k
  unfold fII at q
  split at q
  · split at q
    · rename_i i j w
      cases q
      exact ⟨i, j, vx.int, vy.int, hc i j w, k _ F H (.refl e) (hg i j F)⟩
    · cases q
  · cases q
theorem bin_I0 {G : Gx} {g : Int → Int → V} {g' : Int → Int → D} (hg : ∀ i j F, Dp G F (g i j) (g' i j)) : BinOk G (rI0 g) (fII (fun _ _ => true) g') := by
  intro F H x y dx dy res Q e vx vy q k
  unfold fII at q
  split at q
  · rename_i i j
    simp only [if_true, Option.some.injEq] at q
    cases q
    exact ⟨i, j, vx.int, vy.int, k _ F H (.refl e) (hg i j F)⟩
  · cases q
/-! + -/
def fAddS : D → D → Option Res
  | .str i, .str j => if i.length + j.length ≤ sizeLine then some (.val (.str (i ++ j))) else none
  | _, _ => none
def fAddL : D → D → Option Res
  | .lst i, .lst j => if i.length + j.length ≤ sizeLine then some (.new (.lst (i ++ j))) else none
  | _, _ => none
def fAddT : D → D → Option Res
  | .tup i, .tup j => if i.length + j.length ≤ sizeLine then some (.val (.tup (i ++ j))) else none
  | _, _ => none
end PyD

namespace PyD
open PySem PySem.Spec PyProof.Rows L2

/-! ### tests -/
abbrev MB := Rho → Out Bool
def PostB (Γ : Gm) (W : WX) (o : Out Bool) (ρ : Rho) (σ : St) (F H : Hp) (Q : Bool → Hp → Prop) : Prop :=
  match o with
  | .ok b ρ' => ∀ F' H', Stp Γ ρ σ F H ρ' σ F' H' → Q b H'
  | .exc x ρ' => ∀ d F' H', Stp Γ ρ σ F H ρ' σ F' H' → ExcRep Γ.G F' H' x d → W (ecV Γ.G x.c) d σ H'
  | .stuck => False
def tMB (Γ : Gm) (W : WX) (m : MB) : TT := fun σ H Q => ∃ ρ F, Rel Γ ρ σ F H ∧ PostB Γ W (m ρ) ρ σ F H Q
theorem PostB.shift {Γ : Gm} {W : WX} {o : Out Bool} {ρ ρ2 : Rho} {σ : St} {F H F2 H2 : Hp} {Q : Bool → Hp → Prop} (s : Stp Γ ρ σ F H ρ2 σ F2 H2) (h : PostB Γ W o ρ σ F H Q) : PostB Γ W o ρ2 σ F2 H2 Q := by
  cases o with
  | ok r ρ' => exact fun F' H' s2 => h F' H' (s.trans s2)
  | exc x ρ' => exact fun d F' H' s2 q => h d F' H' (s.trans s2) q
  | stuck => exact h
theorem PostB.bindF {Γ : Gm} {W : WX} {o : Out Res} {k : Res → Rho → Out Bool} {ρ : Rho} {σ : St} {F H : Hp} {Q : Bool → Hp → Prop} {Q1 : VK} (h : PostB Γ W (bindF o k) ρ σ F H Q)
    (hk : ∀ r ρ1 v F1 H1, Stp Γ ρ σ F H ρ1 σ F1 H1 → RepF Γ.G σ F1 v r → PostB Γ W (k r ρ1) ρ1 σ F1 H1 Q → Q1 v H1) : PostF Γ W o ρ σ F H Q1 := by
  cases o with
  | ok r ρ' => exact fun v F' H' s q => hk r.frz ρ' v F' H' s q (h.shift s)
  | exc x ρ' => exact h
  | stuck => exact h
theorem PostB.bindB {Γ : Gm} {W : WX} {o : Out Bool} {k : Bool → Rho → Out Bool} {ρ : Rho} {σ : St} {F H : Hp} {Q Q1 : Bool → Hp → Prop} (h : PostB Γ W (bindO o k) ρ σ F H Q)
    (hk : ∀ r ρ1 F1 H1, Stp Γ ρ σ F H ρ1 σ F1 H1 → PostB Γ W (k r ρ1) ρ1 σ F1 H1 Q → Q1 r H1) : PostB Γ W o ρ σ F H Q1 := by
  cases o with
  | ok r ρ' => exact fun F' H' s => hk r ρ' F' H' s (h.shift s)
  | exc x ρ' => exact h
  | stuck => exact h
theorem Post.bindB {Γ : Gm} {W : WX} {o : Out Bool} {k : Bool → Rho → Out Res} {ρ : Rho} {σ : St} {F H : Hp} {Q : VK} {Q1 : Bool → Hp → Prop} (h : Post Γ W (bindO o k) ρ σ F H Q)
    (hk : ∀ r ρ1 F1 H1, Stp Γ ρ σ F H ρ1 σ F1 H1 → Post Γ W (k r ρ1) ρ1 σ F1 H1 Q → Q1 r H1) : PostB Γ W o ρ σ F H Q1 := by
  cases o with
  | ok r ρ' => exact fun F' H' s => hk r ρ' F' H' s (h.shift s)
  | exc x ρ' => exact h
  | stuck => exact h
/-- truth of data -/
def truD : D → Option Bool
  | .non => some false
  | .bl b => some b
  | .int i => some (i != 0)
  | .str y => if y.length ≤ sizeLine then some ((y.length : Int) != 0) else none
  | .lst xs => some (!xs.isEmpty)
  | .tup xs => some (!xs.isEmpty)
  | .dct xs => some (!xs.isEmpty)
  | _ => none
theorem DpL.isEmpty {G : Gx} {F : Hp} {vs : List V} {ds : List D} (h : DpL G F vs ds) : ds.isEmpty = vs.isEmpty := by cases h <;> rfl
theorem DpK.isEmpty {G : Gx} {F : Hp} {vs : List (Key × V)} {ds : List (Key × D)} (h : DpK G F vs ds) : ds.isEmpty = vs.isEmpty := by cases h <;> rfl
theorem truD_ok {G : Gx} {F H : Hp} {v : V} {d : D} {k : Bool} (s : Same F H) (h : View G F H v d) (e : truD d = some k) : TruV G.K v H k := by
  cases d with
  | non => rw [h.non]; simpa [truD, eq_comm, TruV] using e
  | bl b => rw [h.bl]; simpa [truD, eq_comm, TruV] using e
  | int i => rw [h.int]; simp only [truD, Option.some.injEq] at e; exact e.symm
  | str y =>
    rw [h.str]
    simp only [truD] at e
    split at e
    · cases e; exact ⟨by assumption, rfl⟩
    · cases e
  | lst xs =>
    obtain ⟨a, vs, rfl, h1, h2⟩ := h.lst s
    simp only [truD, Option.some.injEq] at e
    exact .inl ⟨vs, SqL.of h1, by rw [← e, h2.isEmpty]⟩
  | tup xs =>
    obtain ⟨a, vs, rfl, h1, h2⟩ := h.tup s
    simp only [truD, Option.some.injEq] at e
    exact .inr (.inl ⟨vs, h1, by rw [← e, h2.isEmpty]⟩)
  | dct xs =>
    obtain ⟨a, vs, rfl, h1, h2⟩ := h.dct s
    simp only [truD, Option.some.injEq] at e
    exact .inr (.inr ⟨vs, h1, by rw [← e, h2.isEmpty]⟩)
  | _ => simp [truD] at e
def truR (a : Res) (ρ : Rho) : Out Bool := match resolve ρ a with
  | some d => (match truD d with | some k => .ok k ρ | none => .stuck)
  | none => .stuck
def mTru (m : M) : MB := fun ρ => bindF (m ρ) fun a ρ1 => truR a ρ1
def blR (a : Res) (ρ : Rho) : Out Bool := match a with
  | .val (.bl k) => .ok k ρ
  | .at i => (match ρ[i]? with | some (some (.val (.bl k))) => .ok k ρ | _ => .stuck)
  | _ => .stuck
def mBl (m : M) : MB := fun ρ => bindF (m ρ) fun a ρ1 => blR a ρ1
theorem blR_ok {Γ : Gm} {W : WX} {a : Res} {ρ : Rho} {σ : St} {F H : Hp} {Q : Bool → Hp → Prop} {v : V} (R : Rel Γ ρ σ F H) (ha : RepF Γ.G σ F v a) (h : PostB Γ W (blR a ρ) ρ σ F H Q) : ∃ k, v = .bl k ∧ Q k H := by
  unfold blR at h
  split at h
  · rename_i k
    cases ha
    exact ⟨k, rfl, h F H (.refl R)⟩
  · rename_i i
    split at h
    · rename_i k e
      obtain ⟨v', h1, h2⟩ := R.slotV e
      have ha : σ[i]? = some (some v) := ha
      rw [ha] at h1; cases h1
      cases h2
      exact ⟨k, rfl, h F H (.refl R)⟩
    · exact h.elim
  · exact h.elim
section
variable {X : Cx} {Γ : Gm} {W : WX} {a b c : Expr} {ma mb mc : M} {ta tb : MB} {pos : Pos} {rest : List Expr}
theorem jt_tru (hK : X.K = Γ.G.K) (ha : PE X a (tM Γ W ma)) (he : ∀ whole, isTrue a X.env whole = (do let v ← whole; standAt a.pos; holding [v] (truthy v)) := by intro _; rfl) : PT X a (tMB Γ W (mTru ma)) :=
  (pt_truth (je_f ha) he).imp fun σ H Q ⟨ρ, F, R, p⟩ => ⟨ρ, F, R, p.bindF fun r ρ1 v F1 H1 s1 hr p1 => by
    unfold truR at p1
    split at p1
    · rename_i d e
      split at p1
      · rename_i k e2
        exact ⟨k, by rw [hK]; exact truD_ok s1.rel.sub (hr.view s1.rel e) e2, p1 F1 H1 (.refl s1.rel)⟩
      · exact p1.elim
    · exact p1.elim⟩
/-- an expression whose value is a bool -/
theorem jt_bl (ha : PE X a (tM Γ W ma)) (he : ∀ whole, isTrue a X.env whole = (do let v ← whole; standAt a.pos; holding [v] (truthy v)) := by intro _; rfl) : PT X a (tMB Γ W (mBl ma)) :=
  (pt_val (je_f ha) he).imp fun σ H Q ⟨ρ, F, R, p⟩ => ⟨ρ, F, R, p.bindF fun r ρ1 v F1 H1 s1 hr p1 => blR_ok s1.rel hr p1⟩
def mBinB (f : D → D → Option Res) (ma mb : M) : MB := mBl (mBin f ma mb)
theorem fin_bl' {Γ : Gm} {W : WX} {o : Out Res} {ρ : Rho} {σ : St} {F H : Hp} {Q : Bool → Hp → Prop} (h : PostB Γ W (PyD.bindF o fun a ρ1 => blR a ρ1) ρ σ F H Q) : Post Γ W o ρ σ F H (fun z H3 => ∃ k, z = .bl k ∧ Q k H3) :=
  (PostB.bindF h fun r ρ1 v F1 H1 s1 hr p1 => blR_ok s1.rel hr p1).post
theorem jt_cmp {op : CmpOp} {r : R2} {f : D → D → Option Res} (ho : OpR X (compareOp op) r) (hf : BinOk Γ.G r f) (ha : PE X a (tM Γ W ma)) (hb : PE X b (tM Γ W mb)) (hm : behindInMarks op b = false) : PT X (.Compare a [op] [b] pos) (tMB Γ W (mBinB f ma mb)) :=
  (pt_cmpR ho (je_f ha) (je_f hb) hm).imp fun σ H Q ⟨ρ, F, R, p⟩ => tOp_ok hf σ H _ ⟨ρ, F, R, fin_bl' p⟩
def mChain (f g : D → D → Option Res) (ma mb mc : M) : M := fun ρ => bindF (ma ρ) fun a ρ1 => bindF (mb ρ1) fun b ρ2 => bindF (op2 f a b ρ2) fun z ρ3 => bindO (blR z ρ3) fun k ρ3 =>
  if k = true then bindF (mc ρ3) fun c ρ4 => op2 g b c ρ4 else .ok (.val (.bl false)) ρ3
theorem chain_ok {r r' : R2} {f g : D → D → Option Res} (hf : BinOk Γ.G r f) (hg : BinOk Γ.G r' g) : ∀ σ H Q, tM Γ W (mChain f g ma mb mc) σ H Q → tChain r r' (tF Γ W ma) (tF Γ W mb) (tF Γ W mc) σ H Q := by
  intro σ H Q ⟨ρ, F, R, p⟩
  refine ⟨ρ, F, R, p.bindF fun a ρ1 x F1 H1 s1 ha p1 => ⟨ρ1, F1, s1.rel, p1.bindF fun b ρ2 y F2 H2 s2 hb p2 => ?_⟩⟩
  refine op2_ok (W := W) hf s2.rel (ha.mono s2.subF) hb (PostF.post (p2.bindF fun z ρ3 v F3 H3 s3 hz p3 => ?_))
  obtain ⟨k, e, q⟩ := blR_ok s3.rel hz (p3.bindB (Q1 := fun k H' => if k = true then tF Γ W mc σ H' fun w' H4 => r' y w' H4 Q else Q (.bl false) H') fun k ρ4 F4 H4 s4 p4 => by
    by_cases hk : k = true
    · simp only [hk, if_true] at p4 ⊢
      exact ⟨ρ4, F4, s4.rel, p4.bindF fun c ρ5 w F5 H5 s5 hc p5 => op2_ok hg s5.rel ((hb.mono s3.subF).mono (s4.subF.trans s5.subF)) hc p5⟩
    · simp only [hk] at p4 ⊢
      exact p4 _ F4 H4 (.refl s4.rel) (.bl false))
  exact ⟨k, e, q⟩
theorem je_chain {op op' : CmpOp} {r r' : R2} {f g : D → D → Option Res} (ho : OpR X (compareOp op) r) (ho' : OpR X (compareOp op') r') (hf : BinOk Γ.G r f) (hg : BinOk Γ.G r' g) (ha : PE X a (tM Γ W ma)) (hb : PE X b (tM Γ W mb)) (hc : PE X c (tM Γ W mc))
    (hm : lastMarks [op, op'] [b, c] = false := by with_unfolding_all rfl) : PE X (.Compare a [op, op'] [b, c] pos) (tM Γ W (mChain f g ma mb mc)) :=
  (pe_chain ho ho' (je_f ha) (je_f hb) (je_f hc) hm).imp (chain_ok hf hg)
theorem jt_chain {op op' : CmpOp} {r r' : R2} {f g : D → D → Option Res} (ho : OpR X (compareOp op) r) (ho' : OpR X (compareOp op') r') (hf : BinOk Γ.G r f) (hg : BinOk Γ.G r' g) (ha : PE X a (tM Γ W ma)) (hb : PE X b (tM Γ W mb)) (hc : PE X c (tM Γ W mc))
    (hm : lastMarks [op, op'] [b, c] = false := by with_unfolding_all rfl) : PT X (.Compare a [op, op'] [b, c] pos) (tMB Γ W (mBl (mChain f g ma mb mc))) :=
  (pt_chain ho ho' (je_f ha) (je_f hb) (je_f hc) hm).imp fun σ H Q ⟨ρ, F, R, p⟩ => chain_ok hf hg σ H _ ⟨ρ, F, R, fin_bl' p⟩
/-! and, or, not -/
def mAndB (ta tb : MB) : MB := fun ρ => bindO (ta ρ) fun k ρ1 => if k = true then tb ρ1 else .ok false ρ1
def mOrB (ta tb : MB) : MB := fun ρ => bindO (ta ρ) fun k ρ1 => if k = true then .ok true ρ1 else tb ρ1
def mNotB (ta : MB) : MB := fun ρ => bindO (ta ρ) fun k ρ1 => .ok (!k) ρ1
theorem _root_.L2.PW.imp {X : Cx} {e : Expr} {t t' : TT} (h : PW X e t) (i : ∀ σ H Q, t' σ H Q → t σ H Q) : PW X e t' := ⟨fun wh pins s σ H Q I q => h.run wh pins s σ H Q I (i _ _ _ q)⟩
theorem jw_and (ha : PT X a (tMB Γ W ta)) (hb : PW X (.BoolOp .And (b :: rest) pos) (tMB Γ W tb)) : PW X (.BoolOp .And (a :: b :: rest) pos) (tMB Γ W (mAndB ta tb)) :=
  (pw_and ha hb).imp fun σ H Q ⟨ρ, F, R, p⟩ => ⟨ρ, F, R, PostB.bindB p fun k ρ1 F1 H1 s1 p1 => by
    by_cases hk : k = true
    · simp only [hk, if_true] at p1 ⊢; exact ⟨ρ1, F1, s1.rel, p1⟩
    · simp only [hk] at p1 ⊢; exact p1 F1 H1 (.refl s1.rel)⟩
theorem jw_or (ha : PT X a (tMB Γ W ta)) (hb : PW X (.BoolOp .Or (b :: rest) pos) (tMB Γ W tb)) : PW X (.BoolOp .Or (a :: b :: rest) pos) (tMB Γ W (mOrB ta tb)) :=
  (pw_or ha hb).imp fun σ H Q ⟨ρ, F, R, p⟩ => ⟨ρ, F, R, PostB.bindB p fun k ρ1 F1 H1 s1 p1 => by
    by_cases hk : k = true
    · simp only [hk, if_true] at p1 ⊢; exact p1 F1 H1 (.refl s1.rel)
    · simp only [hk] at p1 ⊢; exact ⟨ρ1, F1, s1.rel, p1⟩⟩
theorem jt_not (ha : PT X a (tMB Γ W ta)) : PT X (.UnaryOp .Not a pos) (tMB Γ W (mNotB ta)) :=
  (pt_not ha).imp fun σ H Q ⟨ρ, F, R, p⟩ => ⟨ρ, F, R, PostB.bindB p fun k ρ1 F1 H1 s1 p1 => p1 F1 H1 (.refl s1.rel)⟩
/-! .. as values -/
def mAndV (ma mb : M) : M := fun ρ => bindF (ma ρ) fun a ρ1 => bindO (blR a ρ1) fun k ρ1 => if k = true then mb ρ1 else .ok (.val (.bl false)) ρ1
def mOrV (ma mb : M) : M := fun ρ => bindF (ma ρ) fun a ρ1 => bindO (blR a ρ1) fun k ρ1 => if k = true then .ok (.val (.bl true)) ρ1 else mb ρ1
def mNotV (ma : M) : M := fun ρ => bindF (ma ρ) fun a ρ1 => bindO (blR a ρ1) fun k ρ1 => .ok (.val (.bl (!k))) ρ1
theorem je_and (ha : PE X a (tM Γ W ma)) (hb : PE X (.BoolOp .And (b :: rest) pos) (tM Γ W mb)) : PE X (.BoolOp .And (a :: b :: rest) pos) (tM Γ W (mAndV ma mb)) :=
  (pe_and (je_f ha) hb).imp fun σ H Q ⟨ρ, F, R, p⟩ => ⟨ρ, F, R, p.bindF fun r ρ1 v F1 H1 s1 hr p1 => blR_ok s1.rel hr (p1.bindB (Q1 := fun c H1 => if c = true then tM Γ W mb σ H1 Q else Q (V.bl false) H1) fun k ρ2 F2 H2 s2 p2 => by
    by_cases hk : k = true
    · simp only [hk, if_true] at p2 ⊢; exact ⟨ρ2, F2, s2.rel, p2⟩
    · simp only [hk] at p2 ⊢; exact p2 _ F2 H2 (.refl s2.rel) (.bl false))⟩
theorem je_or (ha : PE X a (tM Γ W ma)) (hb : PE X (.BoolOp .Or (b :: rest) pos) (tM Γ W mb)) : PE X (.BoolOp .Or (a :: b :: rest) pos) (tM Γ W (mOrV ma mb)) :=
  (pe_or (je_f ha) hb).imp fun σ H Q ⟨ρ, F, R, p⟩ => ⟨ρ, F, R, p.bindF fun r ρ1 v F1 H1 s1 hr p1 => blR_ok s1.rel hr (p1.bindB (Q1 := fun c H1 => if c = true then Q (V.bl true) H1 else tM Γ W mb σ H1 Q) fun k ρ2 F2 H2 s2 p2 => by
    by_cases hk : k = true
    · simp only [hk, if_true] at p2 ⊢; exact p2 _ F2 H2 (.refl s2.rel) (.bl true)
    · simp only [hk] at p2 ⊢; exact ⟨ρ2, F2, s2.rel, p2⟩)⟩
theorem je_not (ha : PE X a (tM Γ W ma)) : PE X (.UnaryOp .Not a pos) (tM Γ W (mNotV ma)) :=
  (pe_not (je_f ha)).imp fun σ H Q ⟨ρ, F, R, p⟩ => ⟨ρ, F, R, p.bindF fun r ρ1 v F1 H1 s1 hr p1 => blR_ok s1.rel hr (p1.bindB fun k ρ2 F2 H2 s2 p2 => p2 _ F2 H2 (.refl s2.rel) (.bl _))⟩
def mIf (t : MB) (ma mb : M) : M := fun ρ => bindO (t ρ) fun k ρ1 => if k = true then ma ρ1 else mb ρ1
theorem je_if {c : Expr} (hc : PT X c (tMB Γ W ta)) (ha : PE X a (tM Γ W ma)) (hb : PE X b (tM Γ W mb)) : PE X (.IfExp c a b pos) (tM Γ W (mIf ta ma mb)) :=
  (pe_ifExp hc ha hb).imp fun σ H Q ⟨ρ, F, R, p⟩ => ⟨ρ, F, R, Post.bindB p fun k ρ1 F1 H1 s1 p1 => by
    by_cases hk : k = true
    · simp only [hk, if_true] at p1 ⊢; exact ⟨ρ1, F1, s1.rel, p1⟩
    · simp only [hk] at p1 ⊢; exact ⟨ρ1, F1, s1.rel, p1⟩⟩
/-! names, constants -/
def mVar (i : Nat) : M := fun ρ => match ρ[i]? with
  | some (some (.val d)) => .ok (.val d) ρ
  | some (some (.own _ _)) => .ok (.at i) ρ
  | _ => .stuck
def mC (d : D) : M := fun ρ => .ok (.val d) ρ
theorem je_const {e : Expr} {v : V} {d : D} (h : PE X e (tC v)) (hd : ∀ F, Dp Γ.G F v d) : PE X e (tM Γ W (mC d)) := h.imp fun σ H Q ⟨ρ, F, R, p⟩ => p v F H (.refl R) (hd F)
theorem je_int {i : Int} {j pos} : PE X (.Constant (.int i) j pos) (tM Γ W (mC (.int i))) := je_const pe_int fun _ => .int i
theorem je_bl {i : Bool} {j pos} : PE X (.Constant (.bool i) j pos) (tM Γ W (mC (.bl i))) := je_const pe_bl fun _ => .bl i
theorem je_str {i : Str} {j pos} : PE X (.Constant (.str i) j pos) (tM Γ W (mC (.str i))) := je_const pe_str fun _ => .str i
theorem je_non {j pos} : PE X (.Constant .none j pos) (tM Γ W (mC .non)) := je_const pe_non fun _ => .non
theorem je_var (i : Nat) {x : Str} (hN : X.N[i]? = some x := by rfl) (hv : Vis X.env.scope x := by first | exact Or.inl rfl | exact Or.inr (Or.inl rfl) | exact Or.inr (Or.inr rfl)) (hd : (x == ("__debug__" : Str)) = false := by decide)
    (hcd : (x == ("__classdict__" : Str)) = false := by decide) : PE X (.Name x pos) (tM Γ W (mVar i)) := (pe_var hN hv hd hcd).imp fun σ H Q ⟨ρ, F, R, p⟩ => by
  unfold mVar at p
  split at p
  · rename_i d e
    obtain ⟨v, h1, h2⟩ := R.slotV e
    exact ⟨v, h1, p v F H (.refl R) h2⟩
  · rename_i b d e
    obtain ⟨v, L, h1, h2⟩ := R.slot i _ e
    exact ⟨v, h1, p v F H (.refl R) h1⟩
  · exact p.elim
end
end PyD

namespace PyD
open PySem PySem.Spec PyProof.Rows L2

/-! ### + - * // % ** -/
theorem addS_ok {G : Gx} : BinOk G (fun x y H Q => ∃ i j, x = .str i ∧ y = .str j ∧ i.length + j.length ≤ sizeLine ∧ Q (.str (i ++ j)) H) fAddS := by
  intro F H x y dx dy res Q e vx vy q k
  unfold fAddS at q
  split at q
  · split at q
    · rename_i i j w
      cases q
      exact ⟨i, j, vx.str, vy.str, w, k _ F H (.refl e) (.str _)⟩
    · cases q
  · cases q
theorem addL_ok {G : Gx} : BinOk G rCat fAddL := by
  intro F H x y dx dy res Q e vx vy q k
  unfold fAddL at q
  split at q
  · split at q
    · rename_i i j w
      cases q
      obtain ⟨a, vs, rfl, h1, t1⟩ := vx.lst e
      obtain ⟨b, ws, rfl, h2, t2⟩ := vy.lst e
      exact ⟨a, b, vs, ws, rfl, rfl, h1, h2, by rw [t1.length, t2.length]; exact w, fun p hp => k _ F _ (.cell e hp) ⟨p, rfl, Same.free e hp, ⟨_, upd_same, t1.append t2⟩, hp⟩⟩
    · cases q
  · cases q
theorem addT_ok {G : Gx} : BinOk G (rCatA G.K) fAddT := by
  intro F H x y dx dy res Q e vx vy q k
  unfold fAddT at q
  split at q
  · split at q
    · rename_i i j w
      cases q
      obtain ⟨a, vs, rfl, h1, t1⟩ := vx.tup e
      obtain ⟨b, ws, rfl, h2, t2⟩ := vy.tup e
      have hx : Dp G F (.ref a) (.tup i) := by
        rcases vx with h | ⟨_, _, _, c⟩
        · exact h
        · cases c with | flat c => exact c.elim
      have hy : Dp G F (.ref b) (.tup j) := by
        rcases vy with h | ⟨_, _, _, c⟩
        · exact h
        · cases c with | flat c => exact c.elim
      refine ⟨a, b, vs, ws, rfl, rfl, h1, h2, by rw [t1.length, t2.length]; exact w, fun z => ?_, fun _ z => ?_, fun _ _ p hp => ?_⟩
      · subst z; cases t1; exact k _ F H (.refl e) hy
      · subst z; cases t2; rw [List.append_nil]  at k; exact k _ F H (.refl e) hx
      · exact k _ _ _ (.tup e hp) (.tup (SqT.of upd_same) ((t1.append t2).mono (Alc.tup e hp).subF))
    · cases q
  · cases q
def addD : D → D → Option Res := orF (fII (fun _ _ => true) fun i j => .int (i + j)) (orF fAddS (orF fAddT fAddL))
def rAddD (K : PySem.W.Frag) : R2 := OrR (rI0 fun i j => .int (i + j)) (OrR (fun x y H Q => ∃ i j, x = .str i ∧ y = .str j ∧ i.length + j.length ≤ sizeLine ∧ Q (.str (i ++ j)) H) (OrR (rCatA K) rCat))
theorem addD_ok {G : Gx} : BinOk G (rAddD G.K) addD := (bin_I0 fun _ _ _ => .int _).or (addS_ok.or (addT_ok.or addL_ok))
theorem op_addD {X : Cx} : OpR X (binaryOp .Add) (rAddD X.K) := op_add.or (op_add_str.or (op_catA.or op_cat))
def subD : D → D → Option Res := fII (fun _ _ => true) fun i j => .int (i - j)
theorem subD_ok {G : Gx} : BinOk G (rI0 fun i j => .int (i - j)) subD := bin_I0 fun _ _ _ => .int _
def mulC (i j : Int) : Bool := (decide (-(2 ^ 64) < i) && decide (i < 2 ^ 64)) || (decide (-(2 ^ 64) < j) && decide (j < 2 ^ 64))
theorem mulC_ok (i j : Int) (h : mulC i j = true) : CMul i j := by
  unfold mulC at h
  rcases Bool.or_eq_true_iff.mp h with z | z
  · have w := Bool.and_eq_true_iff.mp z; exact .inl ⟨of_decide_eq_true w.1, of_decide_eq_true w.2⟩
  · have w := Bool.and_eq_true_iff.mp z; exact .inr ⟨of_decide_eq_true w.1, of_decide_eq_true w.2⟩
def fRepL : D → D → Option Res
  | .lst xs, .int k => if decide (-(2 ^ 63) ≤ k) && decide (k < 2 ^ 63) && decide (xs.length * k.toNat ≤ sizeLine) then some (.new (.lst (List.replicate k.toNat xs).flatten)) else none
  | _, _ => none
def fRepT : D → D → Option Res
  | .tup xs, .int k => if decide (2 ≤ k) && decide (k ≤ 1000) && decide (xs.length ≤ 1000) && !xs.isEmpty then some (.val (.tup (List.replicate k.toNat xs).flatten)) else none
  | _, _ => none
theorem repL_ok {G : Gx} : BinOk G rRep fRepL := by
  intro F H x y dx dy res Q e vx vy q k
  unfold fRepL at q
  split at q
  · split at q
    · rename_i i j w
      cases q
      obtain ⟨a, vs, rfl, h1, t1⟩ := vx.lst e
      have w1 := Bool.and_eq_true_iff.mp w
      have w2 := Bool.and_eq_true_iff.mp w1.1
      refine ⟨a, j, vs, rfl, vy.int, h1, of_decide_eq_true w2.1, of_decide_eq_true w2.2, by rw [t1.length]; exact of_decide_eq_true w1.2, fun p hp => k _ F _ (.cell e hp) ⟨p, rfl, Same.free e hp, ⟨_, upd_same, t1.rep _⟩, hp⟩⟩
    · cases q
  · cases q
theorem repT_ok {G : Gx} : BinOk G (rRepT G.K) fRepT := by
  intro F H x y dx dy res Q e vx vy q k
  unfold fRepT at q
  split at q
  · split at q
    · rename_i i j w
      cases q
      obtain ⟨a, vs, rfl, h1, t1⟩ := vx.tup e
      have w1 := Bool.and_eq_true_iff.mp w
      have w2 := Bool.and_eq_true_iff.mp w1.1
      have w3 := Bool.and_eq_true_iff.mp w2.1
      refine ⟨a, j, vs, rfl, vy.int, h1, ?_, of_decide_eq_true w3.1, of_decide_eq_true w3.2, by rw [t1.length]; exact of_decide_eq_true w2.2, fun p hp => k _ _ _ (.tup e hp) (.tup (SqT.of upd_same) ((t1.rep _).mono (Alc.tup e hp).subF))⟩
      intro z; subst z; cases t1; exact absurd w1.2 (by simp)
    · cases q
  · cases q
def mulD : D → D → Option Res := orF (fII mulC fun i j => .int (i * j)) (orF fRepL fRepT)
def rMulD (K : PySem.W.Frag) : R2 := OrR (rI CMul fun i j => .int (i * j)) (OrR rRep (rRepT K))
theorem mulD_ok {G : Gx} : BinOk G (rMulD G.K) mulD := (bin_II mulC_ok fun _ _ _ => .int _).or (repL_ok.or repT_ok)
theorem op_mulD {X : Cx} : OpR X (binaryOp .Mult) (rMulD X.K) := op_mul.or (op_rep.or op_repT)
def divC (i j : Int) : Bool := decide (0 < j) && decide (j < 1073741824)
def fdivD : D → D → Option Res := fII divC fun i j => .int (i / j)
theorem fdivD_ok {G : Gx} : BinOk G (rI CDiv fun i j => .int (i / j)) fdivD := bin_II (fun i j h => ⟨of_decide_eq_true (Bool.and_eq_true_iff.mp h).1, of_decide_eq_true (Bool.and_eq_true_iff.mp h).2⟩) fun _ _ _ => .int _
def modD : D → D → Option Res := fII (fun _ j => decide (0 < j)) fun i j => .int (i % j)
theorem modD_ok {G : Gx} : BinOk G (rI (fun _ j => 0 < j) fun i j => .int (i % j)) modD := bin_II (fun i j h => of_decide_eq_true h) fun _ _ _ => .int _
def powC (i j : Int) : Bool := decide (0 ≤ j) && (decide (j ≤ 1000000) && decide (i.natAbs < 2 ^ 64))
def powD : D → D → Option Res := fII powC fun i j => .int (i ^ j.toNat)
theorem powD_ok {G : Gx} : BinOk G (rI CPow fun i j => .int (i ^ j.toNat)) powD := bin_II (fun i j h => by
  have w := Bool.and_eq_true_iff.mp h
  have w2 := Bool.and_eq_true_iff.mp w.2
  exact ⟨of_decide_eq_true w.1, of_decide_eq_true w2.1, of_decide_eq_true w2.2⟩) fun _ _ _ => .int _
def negD : D → Option Res
  | .int i => some (.val (.int (-i)))
  | _ => none
theorem negD_ok {G : Gx} : UnOk G (rU fun i => .int (-i)) negD := by
  intro F H x dx res Q e vx q k
  unfold negD at q
  split at q
  · rename_i i
    cases q
    exact ⟨i, vx.int, k _ F H (.refl e) (.int _)⟩
  · cases q

/-! ### comparisons -/
mutual
def toPy : D → Option PyData
  | .non => some .none
  | .bl b => some (.bool b)
  | .int i => some (.int i)
  | .str x => some (.str x)
  | .lst xs => (toPys xs).map .list
  | .tup xs => (toPys xs).map .tuple
  | _ => none
def toPys : List D → Option (List PyData)
  | [] => some []
  | d :: ds => match toPy d, toPys ds with
    | some p, some ps => some (p :: ps)
    | _, _ => none
end
section
variable {G : Gx} {F H : Hp}
theorem Dp.py (s : Same F H) {v : V} {d : D} (h : Dp G F v d) : ∀ p, toPy d = some p → L2.Dp G.K H v p := by
  refine Dp.rec (motive_1 := fun v d _ => ∀ p, toPy d = some p → L2.Dp G.K H v p) (motive_2 := fun vs ds _ => ∀ ps, toPys ds = some ps → L2.DpAll G.K H vs ps) (motive_3 := fun v d _ => True) (motive_4 := fun v d _ => True)
    ?_ ?_ ?_ ?_ ?_ ?_ ?_ ?_ ?_ ?_ ?_ ?_ ?_ ?_ ?_ ?_ ?_ ?_ h
  · intro p e; simp [toPy] at e; subst e; exact .non
  · intro b p e; simp [toPy] at e; subst e; exact .bl b
  · intro b p e; simp [toPy] at e; subst e; exact .int b
  · intro b p e; simp [toPy] at e; subst e; exact .str b
  · intro b p e; simp [toPy] at e
  · intro a vs ds h t i p e
    simp only [toPy, Option.map_eq_some_iff] at e
    obtain ⟨ps, e1, rfl⟩ := e
    exact .lst (SqL.of (s _ _ h)) (i ps e1)
  · intro a vs ds h t i p e
    simp only [toPy, Option.map_eq_some_iff] at e
    obtain ⟨ps, e1, rfl⟩ := e
    exact .tup (sqT_ext h s) (i ps e1)
  · intro a ns h p e; simp [toPy] at e
  · intro a vs ds h t i p e; simp [toPy] at e
  · intro a dx c vs ds h t i p e; simp [toPy] at e
  · intro c p e; simp [toPy] at e
  · intro c p e; simp [toPy] at e
  · intro ps e; simp [toPys] at e; subst e; exact .nil
  · intro v d vs ds h t i1 i2 ps e
    simp only [toPys] at e
    split at e
    · rename_i p ps' e1 e2
      cases e
      exact .cons (i1 p e1) (i2 ps' e2)
    · cases e
  all_goals intros; trivial
theorem DpL.py (s : Same F H) : ∀ {vs : List V} {ds : List D}, DpL G F vs ds → ∀ ps, toPys ds = some ps → L2.DpAll G.K H vs ps
  | _, _, .nil => fun ps e => by simp [toPys] at e; subst e; exact .nil
  | _, _, .cons h t => fun ps e => by
    simp only [toPys] at e
    split at e
    · rename_i p ps' e1 e2
      cases e
      exact .cons (h.py s p e1) (DpL.py s t ps' e2)
    · cases e
theorem View.py (s : Same F H) {v : V} {d : D} (h : View G F H v d) {p : PyData} (e : toPy d = some p) : L2.Dp G.K H v p := by
  rcases h with h | ⟨a, L, r, c⟩
  · exact h.py s p e
  · cases c with
    | lst _ _ _ => simp [toPy] at e
    | dct _ _ _ _ => simp [toPy] at e
    | obj _ _ _ _ => simp [toPy] at e
    | flat c =>
    cases d with
    | lst ds =>
      obtain ⟨vs, h1, t⟩ := c
      simp only [toPy, Option.map_eq_some_iff] at e
      obtain ⟨ps, e1, rfl⟩ := e
      rw [r]
      exact .lst (SqL.of h1) (t.py s ps e1)
    | dct ds => simp [toPy] at e
    | obj c ds => simp [toPy] at e
    | _ => exact c.elim
end
def eqB (x y : D) : Option Bool := match toPy x, toPy y with
  | some a, some b => if SeqAt.shaped a && SeqAt.shaped b then some (PyData.eqv a b) else none
  | _, _ => none
def eqD0 (x y : D) : Option Res := (eqB x y).map fun b => .val (.bl b)
def neD0 (x y : D) : Option Res := (eqB x y).map fun b => .val (.bl (!b))
theorem eqB_some {x y : D} {b : Bool} (h : eqB x y = some b) : ∃ p q, toPy x = some p ∧ toPy y = some q ∧ SeqAt.shaped p = true ∧ SeqAt.shaped q = true ∧ b = PyData.eqv p q := by
  unfold eqB at h
  split at h
  · rename_i p q e1 e2
    split at h
    · rename_i w
      have w := Bool.and_eq_true_iff.mp w
      cases h
      exact ⟨p, q, e1, e2, w.1, w.2, rfl⟩
    · cases h
  · cases h
theorem eqD0_ok {G : Gx} : BinOk G (rEqD G.K) eqD0 := by
  intro F H x y dx dy res Q e vx vy q k
  simp only [eqD0, Option.map_eq_some_iff] at q
  obtain ⟨b, h, rfl⟩ := q
  obtain ⟨p, p', e1, e2, s1, s2, rfl⟩ := eqB_some h
  exact ⟨p, p', vx.py e e1, vy.py e e2, s1, s2, k _ F H (.refl e) (.bl _)⟩
theorem neD0_ok {G : Gx} : BinOk G (rNeD G.K) neD0 := by
  intro F H x y dx dy res Q e vx vy q k
  simp only [neD0, Option.map_eq_some_iff] at q
  obtain ⟨b, h, rfl⟩ := q
  obtain ⟨p, p', e1, e2, s1, s2, rfl⟩ := eqB_some h
  exact ⟨p, p', vx.py e e1, vy.py e e2, s1, s2, k _ F H (.refl e) (.bl _)⟩
/-- flat values -/
def eqF : D → D → Option Bool
  | .str a, .str b => some (decide (a = b))
  | .int a, .int b => some (decide (a = b))
  | .bl a, .bl b => some (decide (a = b))
  | .non, .non => some true
  | .non, .int _ => some false
  | .int _, .non => some false
  | .non, .bl _ => some false
  | .bl _, .non => some false
  | .non, .str _ => some false
  | .str _, .non => some false
  | .int _, .str _ => some false
  | .str _, .int _ => some false
  | .bl _, .str _ => some false
  | .str _, .bl _ => some false
  | _, _ => none
theorem eqF_ok {G : Gx} {F H : Hp} {x y : V} {dx dy : D} {b : Bool} (vx : View G F H x dx) (vy : View G F H y dy) (h : eqF dx dy = some b) : scal x y = true ∧ decide (x = y) = b := by
  unfold eqF at h
  split at h <;> first
    | (cases h; rw [vx.str, vy.str]; simp [scal])
    | (cases h; rw [vx.int, vy.int]; simp [scal])
    | (cases h; rw [vx.bl, vy.bl]; simp [scal])
    | (cases h; rw [vx.non, vy.non]; simp [scal])
    | (cases h; rw [vx.non, vy.int]; simp [scal])
    | (cases h; rw [vx.int, vy.non]; simp [scal])
    | (cases h; rw [vx.non, vy.bl]; simp [scal])
    | (cases h; rw [vx.bl, vy.non]; simp [scal])
    | (cases h; rw [vx.non, vy.str]; simp [scal])
    | (cases h; rw [vx.str, vy.non]; simp [scal])
    | (cases h; rw [vx.int, vy.str]; simp [scal])
    | (cases h; rw [vx.str, vy.int]; simp [scal])
    | (cases h; rw [vx.bl, vy.str]; simp [scal])
    | (cases h; rw [vx.str, vy.bl]; simp [scal])
    | cases h
def eqD : D → D → Option Res := orF (fun x y => (eqF x y).map fun b => .val (.bl b)) eqD0
def neD : D → D → Option Res := orF (fun x y => (eqF x y).map fun b => .val (.bl (!b))) neD0
theorem eqD_ok {G : Gx} : BinOk G (OrR rEq (rEqD G.K)) eqD := BinOk.or (fun F H x y dx dy res Q e vx vy q k => by
  obtain ⟨b, h, rfl⟩ := Option.map_eq_some_iff.mp q
  obtain ⟨h1, h2⟩ := eqF_ok vx vy h
  exact ⟨h1, h2 ▸ k _ F H (.refl e) (h2 ▸ .bl _)⟩) eqD0_ok
theorem neD_ok {G : Gx} : BinOk G (OrR rNe (rNeD G.K)) neD := BinOk.or (fun F H x y dx dy res Q e vx vy q k => by
  obtain ⟨b, h, rfl⟩ := Option.map_eq_some_iff.mp q
  obtain ⟨h1, h2⟩ := eqF_ok vx vy h
  exact ⟨h1, h2 ▸ k _ F H (.refl e) (h2 ▸ .bl _)⟩) neD0_ok
theorem op_eqAll {X : Cx} (hu : X.A.units + 64 < cLine) : OpR X (compareOp .Eq) (OrR rEq (rEqD X.K)) := op_eq.or (op_eqD hu)
theorem op_neAll {X : Cx} (hu : X.A.units + 64 < cLine) : OpR X (compareOp .NotEq) (OrR rNe (rNeD X.K)) := op_ne.or (op_neD hu)
def fCmpS (p : Str → Str → Bool) : D → D → Option Res
  | .str i, .str j => some (.val (.bl (p i j)))
  | _, _ => none
theorem cmpS_ok {G : Gx} {p : Str → Str → Bool} : BinOk G (fun x y H Q => ∃ i j, x = .str i ∧ y = .str j ∧ Q (.bl (p i j)) H) (fCmpS p) := by
  intro F H x y dx dy res Q e vx vy q k
  unfold fCmpS at q
  split at q
  · rename_i i j
    cases q
    exact ⟨i, j, vx.str, vy.str, k _ F H (.refl e) (.bl _)⟩
  · cases q
def ltD : D → D → Option Res := orF (fII (fun _ _ => true) fun i j => .bl (decide (i < j))) (fCmpS fun i j => decide (i.cps.toList < j.cps.toList))
def leD : D → D → Option Res := fII (fun _ _ => true) fun i j => .bl (decide (i ≤ j))
def gtD : D → D → Option Res := fII (fun _ _ => true) fun i j => .bl (decide (j < i))
def geD : D → D → Option Res := fII (fun _ _ => true) fun i j => .bl (decide (j ≤ i))
def rLtD : R2 := OrR (rI0 fun i j => .bl (decide (i < j))) (fun x y H Q => ∃ i j, x = .str i ∧ y = .str j ∧ Q (.bl (decide (i.cps.toList < j.cps.toList))) H)
theorem ltD_ok {G : Gx} : BinOk G rLtD ltD := (bin_I0 fun _ _ _ => .bl _).or cmpS_ok
theorem op_ltD {X : Cx} : OpR X (compareOp .Lt) rLtD := op_lt.or op_lt_str
theorem leD_ok {G : Gx} : BinOk G (rI0 fun i j => .bl (decide (i ≤ j))) leD := bin_I0 fun _ _ _ => .bl _
theorem gtD_ok {G : Gx} : BinOk G (rI0 fun i j => .bl (decide (j < i))) gtD := bin_I0 fun _ _ _ => .bl _
theorem geD_ok {G : Gx} : BinOk G (rI0 fun i j => .bl (decide (j ≤ i))) geD := bin_I0 fun _ _ _ => .bl _
/-! is None, is True -/
def isN : D → Bool
  | .non => true
  | _ => false
def fIsN (neg : Bool) : D → D → Option Res
  | x, .non => some (.val (.bl (neg != isN x)))
  | _, _ => none
def fIsB (neg : Bool) : D → D → Option Res
  | .bl a, .bl b => some (.val (.bl (neg != decide (a = b))))
  | _, _ => none
theorem Dp.isN {G : Gx} {F H : Hp} {v : V} {d : D} (h : View G F H v d) : decide (v = V.non) = PyD.isN d := by
  rcases h with h | ⟨a, L, e, c⟩
  · cases h <;> simp [PyD.isN]
  · rw [e]
    cases c with
    | flat c => cases d <;> first | exact c.elim | simp [PyD.isN]
    | _ => simp [PyD.isN]
theorem isN_ok {G : Gx} : BinOk G (fun x y H Q => y = .non ∧ Q (.bl (decide (x = .non))) H) (fIsN false) := by
  intro F H x y dx dy res Q e vx vy q k
  unfold fIsN at q
  split at q
  · cases q
    exact ⟨vy.non, k _ F H (.refl e) (by rw [Dp.isN vx]; simp; exact .bl _)⟩
  · cases q
theorem notN_ok {G : Gx} : BinOk G (fun x y H Q => y = .non ∧ Q (.bl (!decide (x = .non))) H) (fIsN true) := by
  intro F H x y dx dy res Q e vx vy q k
  unfold fIsN at q
  split at q
  · cases q
    exact ⟨vy.non, k _ F H (.refl e) (by rw [Dp.isN vx]; simp; exact .bl _)⟩
  · cases q
theorem isB_ok {G : Gx} : BinOk G rIsB (fIsB false) := by
  intro F H x y dx dy res Q e vx vy q k
  unfold fIsB at q
  split at q
  · rename_i a b
    cases q
    exact ⟨a, b, vx.bl, vy.bl, k _ F H (.refl e) (by simp; exact .bl _)⟩
  · cases q
theorem notB_ok {G : Gx} : BinOk G rNotB (fIsB true) := by
  intro F H x y dx dy res Q e vx vy q k
  unfold fIsB at q
  split at q
  · rename_i a b
    cases q
    exact ⟨a, b, vx.bl, vy.bl, k _ F H (.refl e) (by simp; exact .bl _)⟩
  · cases q
def isD : D → D → Option Res := orF (fIsB false) (fIsN false)
def isNotD : D → D → Option Res := orF (fIsB true) (fIsN true)
theorem isD_ok {G : Gx} : BinOk G (OrR rIsB (fun x y H Q => y = .non ∧ Q (.bl (decide (x = .non))) H)) isD := isB_ok.or isN_ok
theorem isNotD_ok {G : Gx} : BinOk G (OrR rNotB (fun x y H Q => y = .non ∧ Q (.bl (!decide (x = .non))) H)) isNotD := notB_ok.or notN_ok
theorem op_isD {X : Cx} : OpR X (compareOp .Is) (OrR rIsB (fun x y H Q => y = .non ∧ Q (.bl (decide (x = .non))) H)) := op_isBl.or op_isN
theorem op_isNotD {X : Cx} : OpR X (compareOp .IsNot) (OrR rNotB (fun x y H Q => y = .non ∧ Q (.bl (!decide (x = .non))) H)) := op_notBl.or op_notN
end PyD

namespace PyD
open PySem PySem.Spec PyProof.Rows L2

/-! ### in -/
def keyD : D → Option Key
  | .int i => some (.inl i)
  | .str x => some (.inr x)
  | _ => none
theorem keyD_ok {G : Gx} {F H : Hp} {v : V} {d : D} {k : Key} (h : View G F H v d) (e : keyD d = some k) : v = kV k := by
  cases d with
  | int i => simp [keyD] at e; subst e; exact h.int
  | str i => simp [keyD] at e; subst e; exact h.str
  | _ => simp [keyD] at e
def valK (kvs : List (Key × D)) (k : Key) : Option D := (kvs.find? fun kv => decide (kv.1 = k)).map (·.2)
theorem DpK.val {G : Gx} {F : Hp} {k : Key} : ∀ {vs : List (Key × V)} {ds : List (Key × D)}, DpK G F vs ds → (valK ds k = none ∧ valV vs k = none) ∨ ∃ v d, valK ds k = some d ∧ valV vs k = some v ∧ Dp G F v d
  | _, _, .nil => .inl ⟨rfl, rfl⟩
  | _, _, .cons (k := k') (v := v') (d := d') h t => by
    by_cases e : k' = k
    · refine .inr ⟨v', d', ?_, ?_, h⟩ <;> simp [valK, valV, e]
    · rcases DpK.val (k := k) t with ⟨h1, h2⟩ | ⟨v, d, h1, h2, h3⟩
      · refine .inl ⟨?_, ?_⟩
        · rw [← h1]; simp [valK, e]
        · rw [← h2]; simp [valV, e]
      · refine .inr ⟨v, d, ?_, ?_, h3⟩
        · rw [← h1]; simp [valK, e]
        · rw [← h2]; simp [valV, e]
theorem op_inDT {X : Cx} (hu : X.A.units + 65 < cLine) : OpR X (compareOp .In) (fun x y H Q => ∃ d ds, L2.Dp X.K H x d ∧ L2.Dp X.K H y (.tuple ds) ∧ SeqAt.shaped d = true ∧ SeqAt.shaped (.tuple ds) = true ∧ Q (.bl (ds.any fun z => PyData.eqv z d)) H) := by
  intro pins s σ H x y v u Q I rx ry h
  obtain ⟨d, ds, hd, he, sd, se, q⟩ := h
  obtain ⟨as, r1⟩ := Dp.reads I d x v hd rx
  obtain ⟨bs, r2⟩ := Dp.reads I (.tuple ds) y u he ry
  exact SeqAt.in_tuple_reads r2 r1 (SeqAt.canLay_of_shaped se) (SeqAt.canLay_of_shaped sd) (room_in_shaped sd hu) ⟨.bl _, H, I, rfl, q⟩
theorem op_notInDT {X : Cx} (hu : X.A.units + 65 < cLine) : OpR X (compareOp .NotIn) (fun x y H Q => ∃ d ds, L2.Dp X.K H x d ∧ L2.Dp X.K H y (.tuple ds) ∧ SeqAt.shaped d = true ∧ SeqAt.shaped (.tuple ds) = true ∧ Q (.bl (!ds.any fun z => PyData.eqv z d)) H) := by
  intro pins s σ H x y v u Q I rx ry h
  obtain ⟨d, ds, hd, he, sd, se, q⟩ := h
  obtain ⟨as, r1⟩ := Dp.reads I d x v hd rx
  obtain ⟨bs, r2⟩ := Dp.reads I (.tuple ds) y u he ry
  exact SeqAt.notIn_tuple_reads r2 r1 (SeqAt.canLay_of_shaped se) (SeqAt.canLay_of_shaped sd) (room_in_shaped sd hu) ⟨.bl _, H, I, rfl, q⟩
theorem op_dictIn {X : Cx} (hu : X.A.units + 1 < cLine) : OpR X (compareOp .In) (fun y x H Q => ∃ a o, x = .ref a ∧ DGet H a y o ∧ Q (.bl o.isSome) H) := by
  intro pins s σ H y x u v Q I ry rx h
  obtain ⟨a, o, rfl, g, q⟩ := h
  obtain rfl : v = Value.ref a := rx
  exact d_in hu I g ry fun s3 I3 => ⟨.bl o.isSome, H, I3, rfl, q⟩
theorem op_dictNotIn {X : Cx} (hu : X.A.units + 1 < cLine) : OpR X (compareOp .NotIn) (fun y x H Q => ∃ a o, x = .ref a ∧ DGet H a y o ∧ Q (.bl (!o.isSome)) H) := by
  intro pins s σ H y x u v Q I ry rx h
  obtain ⟨a, o, rfl, g, q⟩ := h
  obtain rfl : v = Value.ref a := rx
  exact d_notIn hu I g ry fun s3 I3 => ⟨.bl (!o.isSome), H, I3, rfl, q⟩
/-- whether it is in; none: not reckoned here -/
def inB : D → D → Option Bool
  | .str i, .str j => match i.cps.toList with
    | [c] => some (decide (c ∈ j.cps.toList))
    | _ => none
  | x, .dct kvs => (keyD x).map fun k => (valK kvs k).isSome
  | x, .lst ys => match toPy x, toPys ys with
    | some p, some ps => if SeqAt.shaped p && SeqAt.shaped (.list ps) then some (ps.any fun z => PyData.eqv z p) else none
    | _, _ => none
  | x, .tup ys => match toPy x, toPys ys with
    | some p, some ps => if SeqAt.shaped p && SeqAt.shaped (.tuple ps) then some (ps.any fun z => PyData.eqv z p) else none
    | _, _ => none
  | _, _ => none
def rInB (neg : Bool) (K : PySem.W.Frag) : R2 := OrR (fun x y H Q => ∃ (c : Nat) (z : Str), x = .str ⟨#[c]⟩ ∧ y = .str z ∧ Q (.bl (neg != decide (c ∈ z.cps.toList))) H)
  (OrR (fun y x H Q => ∃ a o, x = .ref a ∧ DGet H a y o ∧ Q (.bl (neg != o.isSome)) H)
  (OrR (fun x y H Q => ∃ d ds, L2.Dp K H x d ∧ L2.Dp K H y (.list ds) ∧ SeqAt.shaped d = true ∧ SeqAt.shaped (.list ds) = true ∧ Q (.bl (neg != ds.any fun z => PyData.eqv z d)) H)
    (fun x y H Q => ∃ d ds, L2.Dp K H x d ∧ L2.Dp K H y (.tuple ds) ∧ SeqAt.shaped d = true ∧ SeqAt.shaped (.tuple ds) = true ∧ Q (.bl (neg != ds.any fun z => PyData.eqv z d)) H)))
theorem op_inB {X : Cx} (hu : X.A.units + 65 < cLine) : OpR X (compareOp .In) (rInB false X.K) := by
  have e : ∀ b : Bool, (false != b) = b := by decide
  unfold rInB; simp only [e]
  exact op_in_sign.or ((op_dictIn (by omega)).or ((op_inD hu).or (op_inDT hu)))
theorem op_notInB {X : Cx} (hu : X.A.units + 65 < cLine) : OpR X (compareOp .NotIn) (rInB true X.K) := by
  have e : ∀ b : Bool, (true != b) = !b := by decide
  unfold rInB; simp only [e]
  exact op_notIn_sign.or ((op_dictNotIn (by omega)).or ((op_notInD hu).or (op_notInDT hu)))
def inD (neg : Bool) (x y : D) : Option Res := (inB x y).map fun b => .val (.bl (neg != b))
theorem inD_ok {neg : Bool} {G : Gx} : BinOk G (rInB neg G.K) (inD neg) := by
  intro F H x y dx dy res Q e vx vy q k
  simp only [inD, Option.map_eq_some_iff] at q
  obtain ⟨b, h, rfl⟩ := q
  have k' : ∀ b', b' = b → Q (.bl (neg != b')) H := fun b' z => k _ F H (.refl e) (by rw [z]; exact .bl _)
  unfold inB at h
  split at h
  · rename_i i j
    split at h
    · rename_i c ec
      cases h
      refine .inl ⟨c, j, ?_, vy.str, k' _ rfl⟩
      rw [vx.str]
      obtain ⟨ic⟩ := i
      have : ic = #[c] := by simpa using congrArg List.toArray ec
      rw [this]
    · cases h
  · rename_i kvs _
    simp only [Option.map_eq_some_iff] at h
    obtain ⟨kk, h1, h2⟩ := h
    obtain ⟨a, vs, rfl, hH, t⟩ := vy.dct e
    have hx := keyD_ok vx h1
    subst hx
    refine .inr (.inl ⟨a, valV vs kk, rfl, DGet.k hH, k' _ ?_⟩)
    rw [← h2]
    rcases t.val (k := kk) with ⟨w1, w2⟩ | ⟨v, d, w1, w2, w3⟩
    · rw [w1, w2]; rfl
    · rw [w1, w2]; rfl
  · rename_i ys _
    split at h
    · rename_i p ps e1 e2
      split at h
      · rename_i w
        have w := Bool.and_eq_true_iff.mp w
        cases h
        exact .inr (.inr (.inl ⟨p, ps, vx.py e e1, vy.py e (by simp [toPy, e2]), w.1, w.2, k' _ rfl⟩))
      · cases h
    · cases h
  · rename_i ys _
    split at h
    · rename_i p ps e1 e2
      split at h
      · rename_i w
        have w := Bool.and_eq_true_iff.mp w
        cases h
        exact .inr (.inr (.inr ⟨p, ps, vx.py e e1, vy.py e (by simp [toPy, e2]), w.1, w.2, k' _ rfl⟩))
      · cases h
    · cases h
  · cases h

/-! ### subscripts -/
theorem ix_dict {X : Cx} (hu : X.A.units + 1 < cLine) : IxR X (fun x y H Q => ∃ a v, x = .ref a ∧ DGet H a y (some v) ∧ Q v H) := by
  intro value slice pins s σ H x y u iv Q I rx ry h hs
  obtain ⟨a, v, rfl, g, q⟩ := h
  obtain rfl : u = Value.ref a := rx
  have hT := dict_typeIs I g
  unfold subscriptTail
  refine wpAny_bind ?_
  rw [getitemInPython_of_ne hT.not_modules]
  refine wpAny_bind (wpAny_specialOf hT PySem.F.slot_dict_getitem.lookup ?_)
  have fin : wpAny (model X.prog X.w) X.A (subscripted slice false (.ref a) iv) (fun r s₃ => wpAny (model X.prog X.w) X.A (letTemporaryGo value (.ref a) r >>= fun _ => pure r) (EP X pins σ Q) X.xe s₃) X.xe s := by
    rw [hs]
    exact wpAny_operating (wpAny_mono (d_getItem hu I g ry fun w' s3 I3 rw' => (⟨v, H, I3, rw', q⟩ : EP X pins σ Q w' s3)) (fun r s₃ h₃ => wpAny_bind (wpAny_letTemporaryGo (wpAny_pure h₃))) fun _ _ x => x)
  first
    | exact wpAny_pure (wpAny_bind fin)
    | exact wpAny_bind (wpAny_pure (wpAny_bind fin))
    | exact wpAny_bind fin
def ixD : D → D → Option Res
  | .lst xs, .int i => (atI xs i).map .val
  | .tup xs, .int i => (atI xs i).map .val
  | .scr ns, .int i => (atI ns i).map fun n => .val (.int n)
  | .str z, .int i => if z.length ≤ sizeLine then (atI z.cps.toList i).map fun c => .val (.str ⟨#[c]⟩) else none
  | .dct kvs, x => (keyD x).bind fun k => (valK kvs k).map .val
  | _, _ => none
def rIxD (K : PySem.W.Frag) : R2 := OrR (rIxL K) (OrR (rIxT K) (OrR rIxS (fun x y H Q => ∃ a v, x = .ref a ∧ DGet H a y (some v) ∧ Q v H)))
theorem ix_D {X : Cx} (hu : X.A.units + 1 < cLine) : IxR X (rIxD X.K) := ix_list.or (ix_tup.or (ix_str.or (ix_dict hu)))
theorem DpL.atI {G : Gx} {F : Hp} {vs : List V} {ds : List D} {i : Int} {d : D} (t : DpL G F vs ds) (h : L2.atI ds i = some d) : ∃ v, L2.atI vs i = some v ∧ Dp G F v d := by
  unfold L2.atI at h ⊢
  rw [t.length]
  cases e : ixN ds.length i with
  | none => rw [e] at h; cases h
  | some j =>
    rw [e] at h
    exact t.get h
theorem atI_map {α β : Type} (f : α → β) (xs : List α) (i : Int) : L2.atI (xs.map f) i = (L2.atI xs i).map f := by
  unfold L2.atI
  rw [List.length_map]
  cases ixN xs.length i with
  | none => rfl
  | some j => simp
theorem ixD_ok {G : Gx} : BinOk G (rIxD G.K) ixD := by
  intro F H x y dx dy res Q e vx vy q k
  unfold ixD at q
  split at q
  · rename_i xs i
    obtain ⟨d, h, rfl⟩ := Option.map_eq_some_iff.mp q
    obtain ⟨a, vs, rfl, hH, t⟩ := vx.lst e
    obtain ⟨v, h1, h2⟩ := t.atI h
    exact .inl ⟨a, vs, i, v, rfl, vy.int, SqL.of hH, h1, k _ F H (.refl e) h2⟩
  · rename_i xs i
    obtain ⟨d, h, rfl⟩ := Option.map_eq_some_iff.mp q
    obtain ⟨a, vs, rfl, hH, t⟩ := vx.tup e
    obtain ⟨v, h1, h2⟩ := t.atI h
    exact .inr (.inl ⟨a, vs, i, v, rfl, vy.int, hH, h1, k _ F H (.refl e) h2⟩)
  · rename_i ns i
    obtain ⟨n, h, rfl⟩ := Option.map_eq_some_iff.mp q
    obtain ⟨a, rfl, hH⟩ := vx.scr e
    exact .inl ⟨a, _, i, .int n, rfl, vy.int, hH, by rw [atI_map, h]; rfl, k _ F H (.refl e) (.int n)⟩
  · rename_i z i
    split at q
    · rename_i w
      obtain ⟨n, h, rfl⟩ := Option.map_eq_some_iff.mp q
      exact .inr (.inr (.inl ⟨z, i, n, vx.str, vy.int, w, h, k _ F H (.refl e) (.str _)⟩))
    · cases q
  · rename_i kvs _
    obtain ⟨kk, h1, h2⟩ := Option.bind_eq_some_iff.mp q
    obtain ⟨d, h3, rfl⟩ := Option.map_eq_some_iff.mp h2
    obtain ⟨a, vs, rfl, hH, t⟩ := vx.dct e
    have hx := keyD_ok vy h1
    subst hx
    rcases t.val (k := kk) with ⟨w1, w2⟩ | ⟨v, d', w1, w2, w3⟩
    · rw [w1] at h3; cases h3
    · rw [w1] at h3; cases h3
      exact .inr (.inr (.inr ⟨a, v, rfl, w2 ▸ DGet.k hH, k _ F H (.refl e) w3⟩))
  · cases q
section
variable {X : Cx} {Γ : Gm} {W : WX} {a b e : Expr} {ma mb : M} {pos p2 : Pos} {es : List Expr}
theorem je_ix (hK : X.K = Γ.G.K) (hu : X.A.units + 1 < cLine) (ha : PE X a (tM Γ W ma)) (hb : PE X b (tM Γ W mb)) (hs : PlainIx b := by exact fun _ _ => rfl) : PE X (.Subscript a b pos) (tM Γ W (mBin ixD ma mb)) :=
  (pe_ix (ix_D hu) (je_f ha) (je_f hb) hs).imp (hK ▸ tOp_ok ixD_ok)

/-! ### slices -/
def cutD {α : Type} (xs : List α) (lo hi : Option Int) : List α := (xs.drop (HT.sIx xs.length 0 lo)).take (HT.sIx xs.length xs.length hi - HT.sIx xs.length 0 lo)
end
def slD : D → Option Int → Option Int → Option Res
  | .lst xs, lo, hi => some (.new (.lst (cutD xs lo hi)))
  | .scr xs, lo, hi => some (.new (.lst ((cutD xs lo hi).map D.int)))
  | .tup xs, lo, hi => some (.val (.tup (cutD xs lo hi)))
  | .str z, lo, hi => if z.length ≤ sizeLine then some (.val (.str (cutS z lo hi))) else none
  | _, _, _ => none
def rSlD (K : PySem.W.Frag) : V → Option Int → Option Int → Hp → VK → Prop := fun x lo hi H Q => rSlL K x lo hi H Q ∨ (fun x lo hi H Q => rSlA K x lo hi H Q ∨ rSlS x lo hi H Q) x lo hi H Q
theorem sl_D {X : Cx} : SlR X (rSlD X.K) := sl_list.or (sl_tupA.or sl_str)
theorem DpL.cut {G : Gx} {F : Hp} {vs : List V} {ds : List D} (t : DpL G F vs ds) (lo hi : Option Int) : DpL G F (cutV vs lo hi) (cutD ds lo hi) := by
  unfold cutV cutD
  rw [t.length]
  exact (t.drop _).take _
theorem ints_dpl {G : Gx} {F : Hp} : ∀ ns : List Int, DpL G F (ns.map V.int) (ns.map D.int)
  | [] => .nil
  | n :: ns => .cons (.int n) (ints_dpl ns)
theorem slD_ok {G : Gx} {F H : Hp} {x : V} {dx : D} {lo hi : Option Int} {res : Res} {Q : VK} (e : Same F H) (vx : View G F H x dx) (q : slD dx lo hi = some res)
    (k : ∀ v F' H', Alc F H F' H' → RepNew G H F' H' v res → Q v H') : rSlD G.K x lo hi H Q := by
  unfold slD at q
  split at q
  · rename_i xs
    cases q
    obtain ⟨a, vs, rfl, hH, t⟩ := vx.lst e
    exact .inl ⟨a, vs, rfl, SqL.of hH, fun p hp => k _ F _ (.cell e hp) ⟨p, rfl, Same.free e hp, ⟨_, upd_same, t.cut _ _⟩, hp⟩⟩
  · rename_i xs
    cases q
    obtain ⟨a, rfl, hH⟩ := vx.scr e
    refine .inl ⟨a, _, rfl, hH, fun p hp => k _ F _ (.cell e hp) ⟨p, rfl, Same.free e hp, ⟨_, upd_same, ?_⟩, hp⟩⟩
    have h := (ints_dpl (G := G) (F := F) xs).cut lo hi
    have z : cutD (xs.map D.int) lo hi = (cutD xs lo hi).map D.int := by unfold cutD; simp [List.map_take, List.map_drop]
    rw [← z]; exact h
  · rename_i xs
    cases q
    have hx : Dp G F x (.tup xs) := by
      rcases vx with h | ⟨_, _, _, c⟩
      · exact h
      · cases c with | flat c => exact c.elim
    obtain ⟨a, vs, rfl, hH, t⟩ := vx.tup e
    refine .inr (.inl ⟨a, vs, rfl, hH, fun z => ?_, fun _ p hp => k _ _ _ (.tup e hp) (.tup (SqT.of upd_same) ((t.cut _ _).mono (Alc.tup e hp).subF))⟩)
    have w : cutD xs lo hi = xs := by
      unfold cutD
      rw [← t.length, z.1, z.2, t.length]
      simp
    rw [w] at k
    exact k _ F H (.refl e) hx
  · rename_i z
    split at q
    · rename_i w
      cases q
      exact .inr (.inr ⟨z, vx.str, w, k _ F H (.refl e) (.str _)⟩)
    · cases q
  · cases q
def opSl (a : Res) (lo hi : Option Int) (ρ : Rho) : Out Res := match resolve ρ a with
  | some x => (match slD x lo hi with | some r => .ok r ρ | none => .stuck)
  | none => .stuck
def part {β : Type} (m : Option M) (ρ : Rho) (k : Option Int → Rho → Out β) : Out β := match m with
  | none => k none ρ
  | some m => bindF (m ρ) fun r ρ1 => match resolve ρ1 r with
    | some (.int i) => k (some i) ρ1
    | _ => .stuck
def mSl (ma : M) (lo hi : Option M) : M := fun ρ => bindF (ma ρ) fun a ρ1 => part lo ρ1 fun l ρ2 => part hi ρ2 fun h ρ3 => opSl a l h ρ3
def tO (Γ : Gm) (W : WX) : Option M → TO
  | none => tNoPart
  | some m => tPart (tF Γ W m)
inductive JO (X : Cx) (Γ : Gm) (W : WX) : Option Expr → Option M → Prop
  | none : JO X Γ W none none
  | some {e : Expr} {m : M} : PE X e (tM Γ W m) → JO X Γ W (some e) (some m)
theorem JO.po {X : Cx} {Γ : Gm} {W : WX} {e : Option Expr} {m : Option M} (h : JO X Γ W e m) : PO X e (tO Γ W m) := by
  cases h with
  | none => exact po_none
  | some h => exact po_some (je_f h)
theorem part_ok {X : Cx} {Γ : Gm} {W : WX} {m : Option M} {ρ : Rho} {k : Option Int → Rho → Out Res} {σ : St} {F H : Hp} {Q : VK} {R : Option Int → Hp → Prop} (r : Rel Γ ρ σ F H) (h : Post Γ W (part m ρ k) ρ σ F H Q)
    (hk : ∀ o ρ1 F1 H1, Stp Γ ρ σ F H ρ1 σ F1 H1 → Post Γ W (k o ρ1) ρ1 σ F1 H1 Q → R o H1) : tO Γ W m σ H R := by
  cases m with
  | none => exact hk none ρ F H (.refl r) h
  | some m =>
    simp only [part] at h
    refine ⟨ρ, F, r, Post.bindF h fun r ρ1 v F1 H1 s1 hr p1 => ?_⟩
    split at p1
    · rename_i i ei
      exact ⟨i, (hr.view s1.rel ei).int, hk _ ρ1 F1 H1 s1 p1⟩
    · exact p1.elim
section
variable {X : Cx} {Γ : Gm} {W : WX} {a b e : Expr} {ma mb : M} {lo hi : Option Expr} {ml mh : Option M} {pos p2 : Pos} {es : List Expr}
theorem je_sl (hK : X.K = Γ.G.K) (ha : PE X a (tM Γ W ma)) (hl : JO X Γ W lo ml) (hh : JO X Γ W hi mh) : PE X (.Subscript a (.Slice lo hi none p2) pos) (tM Γ W (mSl ma ml mh)) :=
  (pe_slice sl_D (je_f ha) hl.po hh.po).imp fun σ H Q ⟨ρ, F, R, p⟩ => ⟨ρ, F, R, p.bindF fun r ρ1 x F1 H1 s1 hr p1 => part_ok (X := X) s1.rel p1 fun l ρ2 F2 H2 s2 p2 => part_ok (X := X) s2.rel p2 fun h ρ3 F3 H3 s3 p3 => by
    unfold opSl at p3
    split at p3
    · rename_i d ed
      split at p3
      · rename_i res er
        rw [hK]
        exact slD_ok s3.rel.sub ((hr.mono (s2.subF.trans s3.subF)).view s3.rel ed) er (fin_new s3.rel p3)
      · exact p3.elim
    · exact p3.elim⟩

/-! ### arguments -/
inductive RepFs (G : Gx) (σ : St) (F : Hp) : List V → List Res → Prop
  | nil : RepFs G σ F [] []
  | cons {v : V} {r : Res} {vs : List V} {rs : List Res} : RepF G σ F v r → RepFs G σ F vs rs → RepFs G σ F (v :: vs) (r :: rs)
end
abbrev MA := Rho → Out (List Res)
def PostA (Γ : Gm) (W : WX) (o : Out (List Res)) (ρ : Rho) (σ : St) (F H : Hp) (Q : List V → Hp → Prop) : Prop :=
  match o with
  | .ok rs ρ' => ∀ vs F' H', Stp Γ ρ σ F H ρ' σ F' H' → RepFs Γ.G σ F' vs rs → Q vs H'
  | .exc x ρ' => ∀ d F' H', Stp Γ ρ σ F H ρ' σ F' H' → ExcRep Γ.G F' H' x d → W (ecV Γ.G x.c) d σ H'
  | .stuck => False
def tMA (Γ : Gm) (W : WX) (m : MA) : TA := fun σ H Q => ∃ ρ F, Rel Γ ρ σ F H ∧ PostA Γ W (m ρ) ρ σ F H Q
theorem RepFs.mono {G : Gx} {σ : St} {F F' : Hp} (e : Same F F') : ∀ {vs : List V} {rs : List Res}, RepFs G σ F vs rs → RepFs G σ F' vs rs
  | _, _, .nil => .nil
  | _, _, .cons h t => .cons (h.mono e) (RepFs.mono e t)
theorem PostA.shift {Γ : Gm} {W : WX} {o : Out (List Res)} {ρ ρ2 : Rho} {σ : St} {F H F2 H2 : Hp} {Q : List V → Hp → Prop} (s : Stp Γ ρ σ F H ρ2 σ F2 H2) (h : PostA Γ W o ρ σ F H Q) : PostA Γ W o ρ2 σ F2 H2 Q := by
  cases o with
  | ok r ρ' => exact fun v F' H' s2 q => h v F' H' (s.trans s2) q
  | exc x ρ' => exact fun d F' H' s2 q => h d F' H' (s.trans s2) q
  | stuck => exact h
theorem PostA.bindF {Γ : Gm} {W : WX} {o : Out Res} {k : Res → Rho → Out (List Res)} {ρ : Rho} {σ : St} {F H : Hp} {Q : List V → Hp → Prop} {Q1 : VK} (h : PostA Γ W (PyD.bindF o k) ρ σ F H Q)
    (hk : ∀ r ρ1 v F1 H1, Stp Γ ρ σ F H ρ1 σ F1 H1 → RepF Γ.G σ F1 v r → PostA Γ W (k r ρ1) ρ1 σ F1 H1 Q → Q1 v H1) : PostF Γ W o ρ σ F H Q1 := by
  cases o with
  | ok r ρ' => exact fun v F' H' s q => hk r.frz ρ' v F' H' s q (h.shift s)
  | exc x ρ' => exact h
  | stuck => exact h
theorem PostA.bindA {Γ : Gm} {W : WX} {o : Out (List Res)} {k : List Res → Rho → Out (List Res)} {ρ : Rho} {σ : St} {F H : Hp} {Q Q1 : List V → Hp → Prop} (h : PostA Γ W (bindO o k) ρ σ F H Q)
    (hk : ∀ r ρ1 v F1 H1, Stp Γ ρ σ F H ρ1 σ F1 H1 → RepFs Γ.G σ F1 v r → PostA Γ W (k r ρ1) ρ1 σ F1 H1 Q → Q1 v H1) : PostA Γ W o ρ σ F H Q1 := by
  cases o with
  | ok r ρ' => exact fun v F' H' s q => hk r ρ' v F' H' s q (h.shift s)
  | exc x ρ' => exact h
  | stuck => exact h
theorem Post.bindA {Γ : Gm} {W : WX} {o : Out (List Res)} {k : List Res → Rho → Out Res} {ρ : Rho} {σ : St} {F H : Hp} {Q : VK} {Q1 : List V → Hp → Prop} (h : Post Γ W (bindO o k) ρ σ F H Q)
    (hk : ∀ r ρ1 v F1 H1, Stp Γ ρ σ F H ρ1 σ F1 H1 → RepFs Γ.G σ F1 v r → Post Γ W (k r ρ1) ρ1 σ F1 H1 Q → Q1 v H1) : PostA Γ W o ρ σ F H Q1 := by
  cases o with
  | ok r ρ' => exact fun v F' H' s q => hk r ρ' v F' H' s q (h.shift s)
  | exc x ρ' => exact h
  | stuck => exact h
def mNil : MA := fun ρ => .ok [] ρ
def mCons (ma : M) (mr : MA) : MA := fun ρ => bindF (ma ρ) fun a ρ1 => bindO (mr ρ1) fun as ρ2 => .ok (a :: as) ρ2
section
variable {X : Cx} {Γ : Gm} {W : WX} {e : Expr} {ma : M} {mr : MA} {pos p : Pos} {es : List Expr}
theorem ja_nil : PA X [] (tMA Γ W mNil) := pa_nil.imp fun σ H Q ⟨ρ, F, R, p⟩ => p [] F H (.refl R) .nil
theorem tCons_ok : ∀ σ H Q, tMA Γ W (mCons ma mr) σ H Q → tCons (tF Γ W ma) (tMA Γ W mr) σ H Q := fun σ H Q ⟨ρ, F, R, p⟩ => ⟨ρ, F, R, p.bindF fun r ρ1 v F1 H1 s1 hr p1 => ⟨ρ1, F1, s1.rel, p1.bindA fun rs ρ2 vs F2 H2 s2 hrs p2 =>
  p2 (v :: vs) F2 H2 (.refl s2.rel) (.cons (hr.mono s2.subF) hrs)⟩⟩
theorem ja_cons (ha : PE X e (tM Γ W ma)) (hr : PA X es (tMA Γ W mr)) (hs : starEach (e :: es) X.env = (false, eval e X.env) :: starEach es X.env := by rfl) : PA X (e :: es) (tMA Γ W (mCons ma mr)) :=
  (pa_cons (je_f ha) hr hs).imp tCons_ok
end
/-- the data of arguments -/
def resolves (ρ : Rho) : List Res → Option (List D)
  | [] => some []
  | r :: rs => match resolve ρ r, resolves ρ rs with
    | some d, some ds => some (d :: ds)
    | _, _ => none
inductive Views (G : Gx) (F H : Hp) : List V → List D → Prop
  | nil : Views G F H [] []
  | cons {v : V} {d : D} {vs : List V} {ds : List D} : View G F H v d → Views G F H vs ds → Views G F H (v :: vs) (d :: ds)
theorem RepFs.views {Γ : Gm} {ρ : Rho} {σ : St} {F H : Hp} (R : Rel Γ ρ σ F H) : ∀ {vs : List V} {rs : List Res} {ds : List D}, RepFs Γ.G σ F vs rs → resolves ρ rs = some ds → Views Γ.G F H vs ds
  | _, _, _, .nil, e => by simp [resolves] at e; subst e; exact .nil
  | _, _, _, .cons h t, e => by
    simp only [resolves] at e
    split at e
    · rename_i d ds e1 e2
      cases e
      exact .cons (h.view R e1) (RepFs.views R t e2)
    · cases e
def CallOk (G : Gx) (r : List V → Hp → VK → Prop) (f : List D → Option Res) : Prop := ∀ F H xs ds res Q, Same F H → Views G F H xs ds → f ds = some res →
  (∀ v F' H', Alc F H F' H' → RepNew G H F' H' v res → Q v H') → r xs H Q
def opN (f : List D → Option Res) (as : List Res) (ρ : Rho) : Out Res := match resolves ρ as with
  | some ds => (match f ds with | some r => .ok r ρ | none => .stuck)
  | none => .stuck
def mCB (f : List D → Option Res) (ma : MA) : M := fun ρ => bindO (ma ρ) fun as ρ1 => opN f as ρ1
theorem opN_ok {Γ : Gm} {W : WX} {r : List V → Hp → VK → Prop} {f : List D → Option Res} {as : List Res} {ρ : Rho} {σ : St} {F H : Hp} {Q : VK} {xs : List V} (hf : CallOk Γ.G r f) (R : Rel Γ ρ σ F H) (ha : RepFs Γ.G σ F xs as) (h : Post Γ W (opN f as ρ) ρ σ F H Q) : r xs H Q := by
  unfold opN at h
  split at h
  · rename_i ds e1
    split at h
    · rename_i res e3
      exact hf F H xs ds res Q R.sub (ha.views R e1) e3 (fin_new R h)
    · exact h.elim
  · exact h.elim
theorem tCB_ok {Γ : Gm} {W : WX} {r : List V → Hp → VK → Prop} {f : List D → Option Res} {ma : MA} (hf : CallOk Γ.G r f) : ∀ σ H Q, tM Γ W (mCB f ma) σ H Q → tCB r (tMA Γ W ma) σ H Q := fun σ H Q ⟨ρ, F, R, p⟩ => ⟨ρ, F, R, p.bindA fun rs ρ1 vs F1 H1 s1 hr p1 => opN_ok hf s1.rel hr p1⟩
section
variable {X : Cx} {Γ : Gm} {W : WX} {e : Expr} {ma : MA} {pos p : Pos} {es : List Expr} {r : List V → Hp → VK → Prop} {f : List D → Option Res} {x : Str} {id T : String}
theorem je_callB (hc : CallR X (.builtin id) r) (hf : CallOk Γ.G r f) (hm : X.mg x = none) (hv : bootBuiltins x = some (.builtin id)) (ha : PA X (e :: es) (tMA Γ W ma)) (hg : Gl X x := by rfl) (hn : x ≠ "__name__" := by decide) (hdb : (x == ("__debug__" : Str)) = false := by decide)
    (he : starEach (e :: es) X.env = (false, eval e X.env) :: starEach es X.env := by rfl) (hpl : (backTo pos (starEach es X.env)).any (·.1) = false := by rfl) : PE X (.Call (.Name x p) (e :: es) [] pos) (tM Γ W (mCB f ma)) :=
  (pe_callB hc hg hm hv ha hn hdb he hpl).imp (tCB_ok hf)
theorem je_callTy (hc : CallR X (.type T) r) (hf : CallOk Γ.G r f) (hm : X.mg x = none) (hv : bootBuiltins x = some (.type T)) (ha : PA X (e :: es) (tMA Γ W ma)) (hg : Gl X x := by rfl) (hn : x ≠ "__name__" := by decide) (hdb : (x == ("__debug__" : Str)) = false := by decide)
    (he : starEach (e :: es) X.env = (false, eval e X.env) :: starEach es X.env := by rfl) (hpl : (backTo pos (starEach es X.env)).any (·.1) = false := by rfl) : PE X (.Call (.Name x p) (e :: es) [] pos) (tM Γ W (mCB f ma)) :=
  (pe_callTy hc hg hm hv ha hn hdb he hpl).imp (tCB_ok hf)
end
/-! ### slots changed -/
theorem get_set {α : Type} {l : List α} {i j : Nat} {x y : α} (h : (l.set i x)[j]? = some y) : (i = j ∧ y = x ∧ i < l.length) ∨ (i ≠ j ∧ l[j]? = some y) := by
  by_cases e : i = j
  · subst e
    rcases Nat.lt_or_ge i l.length with z | z
    · rw [List.getElem?_set_self z] at h; exact .inl ⟨rfl, (Option.some.inj h).symm, z⟩
    · rw [List.getElem?_eq_none (by simpa using z)] at h; cases h
  · rw [List.getElem?_set_ne e] at h; exact .inr ⟨e, h⟩
/-- slot i holds sl from now on -/
theorem Rel.put {Γ : Gm} {ρ : Rho} {σ σ' : St} {F H : Hp} {i : Nat} {sl : Slot} {v : V} {L : List Addr} (R : Rel Γ ρ σ F H) (hi : i < ρ.length) (h1 : σ'[i]? = some (some v)) (h2 : ∀ j, j ≠ i → σ'[j]? = σ[j]?) (hl : σ'.length = σ.length) (ok : SlotOk Γ F H v L sl)
    (new : ∀ b ∈ L, F b = none ∧ ¬ Γ.U b ∧ ∀ j, j ≠ i → ¬ OwnAt Γ ρ σ F H j b) : Rel Γ (ρ.set i (some sl)) σ' F H ∧ (∀ j a, OwnAt Γ (ρ.set i (some sl)) σ' F H j a → (j = i ∧ a ∈ L) ∨ (j ≠ i ∧ OwnAt Γ ρ σ F H j a)) := by
  have back : ∀ j a, OwnAt Γ (ρ.set i (some sl)) σ' F H j a → (j = i ∧ a ∈ L) ∨ (j ≠ i ∧ OwnAt Γ ρ σ F H j a) := fun j a o => by
    by_cases e : j = i
    · subst e; exact .inl ⟨rfl, o.of (by rw [List.getElem?_set_self hi]) h1 ok⟩
    · exact .inr ⟨e, own_back R (Same.refl _) j (fun s q => by rwa [List.getElem?_set_ne (Ne.symm e)] at q) (h2 j e) (fun _ _ _ q => q) o⟩
  refine ⟨⟨R.sub, fun j s q => ?_, fun j k a o1 o2 => ?_, fun j a o => ?_, by simp [R.len, hl], R.inv, R.ali⟩, back⟩
  · rcases get_set q with ⟨e, e2, _⟩ | ⟨e, q⟩
    · subst e; cases e2; exact ⟨v, L, h1, ok⟩
    · exact slot_keep R (Same.refl _) j q (h2 j (Ne.symm e)) fun _ _ _ q => q
  · rcases back j a o1 with ⟨e1, m1⟩ | ⟨e1, m1⟩
    · rcases back k a o2 with ⟨e2, m2⟩ | ⟨e2, m2⟩
      · rw [e1, e2]
      · exact absurd m2 ((new a m1).2.2 k e2)
    · rcases back k a o2 with ⟨e2, m2⟩ | ⟨e2, m2⟩
      · exact absurd m1 ((new a m2).2.2 j e1)
      · exact R.inj j k a m1 m2
  · rcases back j a o with ⟨e1, m1⟩ | ⟨e1, m1⟩
    · exact ⟨(new a m1).1, (new a m1).2.1⟩
    · exact R.own j a m1
theorem Stp.set {Γ : Gm} {ρ₀ ρ : Rho} {σ₀ σ : St} {F₀ H₀ F H : Hp} {i : Nat} {sl : Slot} {v : V} {L : List Addr} (s : Stp Γ ρ₀ σ₀ F₀ H₀ ρ σ F H) (hi : i < ρ.length) (ok : SlotOk Γ F H v L sl) (new : Fresh Γ ρ σ F H L) : Stp Γ ρ₀ σ₀ F₀ H₀ (ρ.set i (some sl)) (σ.set i (some v)) F H :=
  ⟨(s.rel.put hi (by rw [List.getElem?_set_self (by rw [← s.rel.len]; exact hi)]) (fun j e => by rw [List.getElem?_set_ne (Ne.symm e)]) (by simp) ok fun b hb => ⟨(new b hb).1, (new b hb).2.1, fun j _ o => (new b hb).2.2 ⟨j, o⟩⟩).1, s.subF, s.keep, s.there⟩
theorem fresh_nil {Γ : Gm} {ρ : Rho} {σ : St} {F H : Hp} : Fresh Γ ρ σ F H [] := fun b hb => by cases hb
theorem Stp.setV {Γ : Gm} {ρ₀ ρ : Rho} {σ₀ σ : St} {F₀ H₀ F H : Hp} {i : Nat} {d : D} {v : V} (s : Stp Γ ρ₀ σ₀ F₀ H₀ ρ σ F H) (hi : i < ρ.length) (ok : Dp Γ.G F v d) : Stp Γ ρ₀ σ₀ F₀ H₀ (ρ.set i (some (.val d))) (σ.set i (some v)) F H :=
  s.set (L := []) hi ⟨ok, rfl⟩ fresh_nil
/-- what a slot held is forgotten -/
theorem Rel.drop {Γ : Gm} {ρ : Rho} {σ σ' : St} {F H : Hp} (R : Rel Γ ρ σ F H) (i : Nat) (h2 : ∀ j, j ≠ i → σ'[j]? = σ[j]?) (hl : σ'.length = σ.length) : Rel Γ (ρ.set i none) σ' F H ∧ ∀ j a, OwnAt Γ (ρ.set i none) σ' F H j a → j ≠ i ∧ OwnAt Γ ρ σ F H j a := by
  have back : ∀ j a, OwnAt Γ (ρ.set i none) σ' F H j a → j ≠ i ∧ OwnAt Γ ρ σ F H j a := fun j a o => by
    have e : j ≠ i := fun e => by
      obtain ⟨s, v, L, q, _⟩ := o
      rcases get_set q with ⟨_, e2, _⟩ | ⟨e1, _⟩
      · cases e2
      · exact e1 e.symm
    exact ⟨e, own_back R (Same.refl _) j (fun s q => by rwa [List.getElem?_set_ne (Ne.symm e)] at q) (h2 j e) (fun _ _ _ q => q) o⟩
  refine ⟨⟨R.sub, fun j s q => ?_, fun j k a o1 o2 => R.inj j k a (back j a o1).2 (back k a o2).2, fun j a o => R.own j a (back j a o).2, by simp [R.len, hl], R.inv, R.ali⟩, back⟩
  rcases get_set q with ⟨e, e2, _⟩ | ⟨e, q⟩
  · cases e2
  · exact slot_keep R (Same.refl _) j q (h2 j (Ne.symm e)) fun _ _ _ q => q
theorem Stp.drop {Γ : Gm} {ρ₀ ρ : Rho} {σ₀ σ : St} {F₀ H₀ F H : Hp} (s : Stp Γ ρ₀ σ₀ F₀ H₀ ρ σ F H) (i : Nat) : Stp Γ ρ₀ σ₀ F₀ H₀ (ρ.set i none) σ F H :=
  ⟨(s.rel.drop i (fun _ _ => rfl) rfl).1, s.subF, s.keep, s.there⟩
/-! ### settled: what is held elsewhere from now on -/
def settle (r : Res) (ρ : Rho) : Option (D × Rho) := match r with
  | .val d => some (d, ρ)
  | .new _ => none
  | .at i => match ρ[i]? with
    | some (some (.val d)) => some (d, ρ)
    | some (some (.own none d)) => some (strip d, ρ.set i (some (.val (strip d))))
    | _ => none
def settles (rs : List Res) (ρ : Rho) : Option (List D × Rho) := match rs with
  | [] => some ([], ρ)
  | r :: rs => match settle r ρ with
    | some (d, ρ1) => (match settles rs ρ1 with
      | some (ds, ρ2) => some (d :: ds, ρ2)
      | none => none)
    | none => none
theorem lt_of_get {α : Type} {l : List α} {i : Nat} {x : α} (q : l[i]? = some x) : i < l.length := by
  rcases Nat.lt_or_ge i l.length with y | y
  · exact y
  · rw [List.getElem?_eq_none y] at q; cases q
theorem settle_ok {Γ : Gm} {ρ ρ' : Rho} {σ : St} {F H : Hp} {v : V} {r : Res} {d : D} (R : Rel Γ ρ σ F H) (h : RepF Γ.G σ F v r) (e : settle r ρ = some (d, ρ')) : ∃ F', Stp Γ ρ σ F H ρ' σ F' H ∧ Dp Γ.G F' v d := by
  cases r with
  | val d' => simp only [settle, Option.some.injEq, Prod.mk.injEq] at e; obtain ⟨rfl, rfl⟩ := e; exact ⟨F, .refl R, h⟩
  | new d' => exact h.elim
  | «at» i =>
    have h : σ[i]? = some (some v) := h
    simp only [settle] at e
    split at e
    · rename_i d' q
      simp only [Option.some.injEq, Prod.mk.injEq] at e
      obtain ⟨rfl, rfl⟩ := e
      obtain ⟨v', h1, h2⟩ := R.slotV q
      rw [h] at h1; cases h1
      exact ⟨F, .refl R, h2⟩
    · rename_i d' q
      simp only [Option.some.injEq, Prod.mk.injEq] at e
      obtain ⟨rfl, rfl⟩ := e
      obtain ⟨a, L, z, c, hb, ow⟩ := R.slotO q h
      obtain ⟨R1, bk⟩ := R.drop (σ' := σ) i (fun _ _ => rfl) rfl
      have s2 := R1.freeze (L := L) (fun b hb => R.own i b (ow b hb)) (fun b hb ⟨j, o⟩ => (bk j b o).1 (R.inj j i b (bk j b o).2 (ow b hb)))
      have dp : Dp Γ.G (frzH F H L) v (strip d') := by rw [z]; exact c.freeze fun b hb => (R.own i b (ow b hb)).1
      obtain ⟨R3, _⟩ := s2.rel.put (σ' := σ) (i := i) (L := []) (sl := .val (strip d')) (by simpa using lt_of_get q) h (fun _ _ => rfl) rfl ⟨dp, rfl⟩ (fun b hb => by cases hb)
      rw [List.set_set] at R3
      exact ⟨frzH F H L, ⟨R3, s2.subF, s2.keep, s2.there⟩, dp⟩
    · cases e
theorem settles_ok {Γ : Gm} : ∀ {rs : List Res} {ρ ρ' : Rho} {σ : St} {F H : Hp} {vs : List V} {ds : List D}, Rel Γ ρ σ F H → RepFs Γ.G σ F vs rs → settles rs ρ = some (ds, ρ') → ∃ F', Stp Γ ρ σ F H ρ' σ F' H ∧ DpL Γ.G F' vs ds
  | [], _, _, _, F, _, _, _, R, .nil, e => by
    simp only [settles, Option.some.injEq, Prod.mk.injEq] at e
    obtain ⟨rfl, rfl⟩ := e
    exact ⟨F, .refl R, .nil⟩
  | r :: rs, _, _, _, _, _, _, _, R, .cons h t, e => by
    simp only [settles] at e
    split at e
    · rename_i d ρ1 e1
      split at e
      · rename_i ds ρ2 e2
        simp only [Option.some.injEq, Prod.mk.injEq] at e
        obtain ⟨rfl, rfl⟩ := e
        obtain ⟨F1, s1, p1⟩ := settle_ok R h e1
        obtain ⟨F2, s2, p2⟩ := settles_ok s1.rel (t.mono s1.subF) e2
        exact ⟨F2, s1.trans s2, .cons (p1.mono s2.subF) p2⟩
      · cases e
    · cases e
/-! displays -/
def opS (f : List D → Option Res) (as : List Res) (ρ : Rho) : Out Res := match settles as ρ with
  | some (ds, ρ1) => (match f ds with | some r => .ok r ρ1 | none => .stuck)
  | none => .stuck
/-- the arguments' data are held by what is made -/
def SetOk (G : Gx) (r : List V → Hp → VK → Prop) (f : List D → Option Res) : Prop := ∀ F H xs ds res Q, Same F H → DpL G F xs ds → f ds = some res →
  (∀ v F' H', Alc F H F' H' → RepNew G H F' H' v res → Q v H') → r xs H Q
theorem opS_ok {Γ : Gm} {W : WX} {r : List V → Hp → VK → Prop} {f : List D → Option Res} {as : List Res} {ρ : Rho} {σ : St} {F H : Hp} {Q : VK} {xs : List V} (hf : SetOk Γ.G r f) (R : Rel Γ ρ σ F H) (ha : RepFs Γ.G σ F xs as) (h : Post Γ W (opS f as ρ) ρ σ F H Q) : r xs H Q := by
  unfold opS at h
  split at h
  · rename_i ds ρ1 e1
    split at h
    · rename_i res e3
      obtain ⟨F1, s1, p1⟩ := settles_ok R ha e1
      exact hf F1 H xs ds res Q s1.rel.sub p1 e3 (fin_new s1.rel (h.shift s1))
    · exact h.elim
  · exact h.elim
def mCS (f : List D → Option Res) (ma : MA) : M := fun ρ => bindO (ma ρ) fun as ρ1 => opS f as ρ1
def tupD (ds : List D) : Option Res := if ds.length ≤ sizeLine then some (.val (.tup ds)) else none
def lstD (ds : List D) : Option Res := if ds.length ≤ sizeLine then some (.new (.lst ds)) else none
theorem tupD_ok {G : Gx} : SetOk G (fun xs H1 Q => xs.length ≤ sizeLine ∧ ∀ p, H1 p = none → Q (.ref p) (upd H1 p (.tup xs))) tupD := by
  intro F H xs ds res Q e t q k
  unfold tupD at q
  split at q
  · cases q
    exact ⟨by rw [t.length]; assumption, fun p hp => k _ _ _ (.tup e hp) (.tup (SqT.of upd_same) (t.mono (Alc.tup e hp).subF))⟩
  · cases q
theorem lstD_ok {G : Gx} : SetOk G (fun xs H1 Q => xs.length ≤ sizeLine ∧ ∀ p, H1 p = none → Q (.ref p) (upd H1 p (.lst xs))) lstD := by
  intro F H xs ds res Q e t q k
  unfold lstD at q
  split at q
  · cases q
    exact ⟨by rw [t.length]; assumption, fun p hp => k _ _ _ (.cell e hp) ⟨p, rfl, Same.free e hp, ⟨_, upd_same, t⟩, hp⟩⟩
  · cases q
theorem tCS_ok {Γ : Gm} {W : WX} {r : List V → Hp → VK → Prop} {f : List D → Option Res} {ma : MA} (hf : SetOk Γ.G r f) : ∀ σ H Q, tM Γ W (mCS f ma) σ H Q → tCB r (tMA Γ W ma) σ H Q := fun σ H Q ⟨ρ, F, R, p⟩ => ⟨ρ, F, R, p.bindA fun rs ρ1 vs F1 H1 s1 hr p1 => opS_ok hf s1.rel hr p1⟩
section
variable {X : Cx} {Γ : Gm} {W : WX} {e : Expr} {ma : MA} {pos p : Pos} {es : List Expr} {r : List V → Hp → VK → Prop} {f : List D → Option Res} {x : Str} {id T : String}
theorem je_tup {x1} (h : PA X es (tMA Γ W ma)) : PE X (.Tuple es x1 pos) (tM Γ W (mCS tupD ma)) := (pe_tup h).imp (tCS_ok tupD_ok)
theorem je_lst (h : PA X es (tMA Γ W ma)) : PE X (.List es pos) (tM Γ W (mCS lstD ma)) := (pe_lst h).imp (tCS_ok lstD_ok)
theorem je_callTyS (hc : CallR X (.type T) r) (hf : SetOk Γ.G r f) (hm : X.mg x = none) (hv : bootBuiltins x = some (.type T)) (ha : PA X (e :: es) (tMA Γ W ma)) (hg : Gl X x := by rfl) (hn : x ≠ "__name__" := by decide) (hdb : (x == ("__debug__" : Str)) = false := by decide)
    (he : starEach (e :: es) X.env = (false, eval e X.env) :: starEach es X.env := by rfl) (hpl : (backTo pos (starEach es X.env)).any (·.1) = false := by rfl) : PE X (.Call (.Name x p) (e :: es) [] pos) (tM Γ W (mCS f ma)) :=
  (pe_callTy hc hg hm hv ha hn hdb he hpl).imp (tCS_ok hf)
end
end PyD

namespace PyD
open PySem PySem.Spec PyProof.Rows L2

/-! ### statements -/
inductive SOut where
  | nx (ρ : Rho)
  | ret (r : Res) (ρ : Rho)
  | bk (ρ : Rho)
  | ct (ρ : Rho)
  | exc (x : Exc) (ρ : Rho)
  | stuck
abbrev MS := Rho → SOut
def RepOut (Γ : Gm) (ρ : Rho) (σ : St) (F H : Hp) (v : V) : Res → Prop
  | .val d => Dp Γ.G F v d
  | .new d => ∃ a L, v = .ref a ∧ Ct Γ.G F H a d L ∧ Fresh Γ ρ σ F H L
  | .at _ => False
def PostS (Γ : Gm) (W : WX) (o : SOut) (ρ : Rho) (σ : St) (F H : Hp) (D : Ends) : Prop :=
  match o with
  | .nx ρ' => ∀ σ' F' H', Stp Γ ρ σ F H ρ' σ' F' H' → D.nx σ' H'
  | .ret r ρ' => ∀ v σ' F' H', Stp Γ ρ σ F H ρ' σ' F' H' → RepOut Γ ρ' σ' F' H' v r → D.rt v H'
  | .bk ρ' => ∀ σ' F' H', Stp Γ ρ σ F H ρ' σ' F' H' → D.bk σ' H'
  | .ct ρ' => ∀ σ' F' H', Stp Γ ρ σ F H ρ' σ' F' H' → D.ct σ' H'
  | .exc x ρ' => ∀ d σ' F' H', Stp Γ ρ σ F H ρ' σ' F' H' → ExcRep Γ.G F' H' x d → W (ecV Γ.G x.c) d σ' H'
  | .stuck => False
def tMS (Γ : Gm) (W : WX) (m : MS) : TS := fun D σ H => ∃ ρ F, Rel Γ ρ σ F H ∧ PostS Γ W (m ρ) ρ σ F H D
theorem PostS.shift {Γ : Gm} {W : WX} {o : SOut} {ρ ρ2 : Rho} {σ σ2 : St} {F H F2 H2 : Hp} {D : Ends} (s : Stp Γ ρ σ F H ρ2 σ2 F2 H2) (h : PostS Γ W o ρ σ F H D) : PostS Γ W o ρ2 σ2 F2 H2 D := by
  cases o with
  | nx ρ' => exact fun σ' F' H' s2 => h σ' F' H' (s.trans s2)
  | ret r ρ' => exact fun v σ' F' H' s2 q => h v σ' F' H' (s.trans s2) q
  | bk ρ' => exact fun σ' F' H' s2 => h σ' F' H' (s.trans s2)
  | ct ρ' => exact fun σ' F' H' s2 => h σ' F' H' (s.trans s2)
  | exc x ρ' => exact fun d σ' F' H' s2 q => h d σ' F' H' (s.trans s2) q
  | stuck => exact h
/-- an expression (frozen), then a statement -/
def bindSF (o : Out Res) (k : Res → Rho → SOut) : SOut := match o with
  | .ok a ρ => k a.frz ρ
  | .exc x ρ => .exc x ρ
  | .stuck => .stuck
def bindSO {α : Type} (o : Out α) (k : α → Rho → SOut) : SOut := match o with
  | .ok a ρ => k a ρ
  | .exc x ρ => .exc x ρ
  | .stuck => .stuck
theorem PostS.bindF {Γ : Gm} {W : WX} {o : Out Res} {k : Res → Rho → SOut} {ρ : Rho} {σ : St} {F H : Hp} {D : Ends} {Q1 : VK} (h : PostS Γ W (bindSF o k) ρ σ F H D)
    (hk : ∀ r ρ1 v F1 H1, Stp Γ ρ σ F H ρ1 σ F1 H1 → RepF Γ.G σ F1 v r → PostS Γ W (k r ρ1) ρ1 σ F1 H1 D → Q1 v H1) : PostF Γ W o ρ σ F H Q1 := by
  cases o with
  | ok r ρ' => exact fun v F' H' s q => hk r.frz ρ' v F' H' s q (h.shift s)
  | exc x ρ' => exact fun d F' H' s q => h d σ F' H' s q
  | stuck => exact h
theorem PostS.bindM {Γ : Gm} {W : WX} {o : Out Res} {k : Res → Rho → SOut} {ρ : Rho} {σ : St} {F H : Hp} {D : Ends} {Q1 : VK} (h : PostS Γ W (bindSO o k) ρ σ F H D)
    (hk : ∀ r ρ1 v F1 H1, Stp Γ ρ σ F H ρ1 σ F1 H1 → RepRes Γ σ ρ1 F1 H1 v r → PostS Γ W (k r ρ1) ρ σ F H D → Q1 v H1) : Post Γ W o ρ σ F H Q1 := by
  cases o with
  | ok r ρ' => exact fun v F' H' s q => hk r ρ' v F' H' s q h
  | exc x ρ' => exact fun d F' H' s q => h d σ F' H' s q
  | stuck => exact h
theorem PostS.bindB {Γ : Gm} {W : WX} {o : Out Bool} {k : Bool → Rho → SOut} {ρ : Rho} {σ : St} {F H : Hp} {D : Ends} {Q1 : Bool → Hp → Prop} (h : PostS Γ W (bindSO o k) ρ σ F H D)
    (hk : ∀ r ρ1 F1 H1, Stp Γ ρ σ F H ρ1 σ F1 H1 → PostS Γ W (k r ρ1) ρ1 σ F1 H1 D → Q1 r H1) : PostB Γ W o ρ σ F H Q1 := by
  cases o with
  | ok r ρ' => exact fun F' H' s => hk r ρ' F' H' s (h.shift s)
  | exc x ρ' => exact fun d F' H' s q => h d σ F' H' s q
  | stuck => exact h
def mNext : MS := fun ρ => .nx ρ
def mSeq (m1 m2 : MS) : MS := fun ρ => match m1 ρ with
  | .nx ρ1 => m2 ρ1
  | o => o
/-- x = e, x in slot i -/
def setR (i : Nat) (r : Res) (ρ : Rho) : SOut := if i < ρ.length then (match r with
  | .val d => .nx (ρ.set i (some (.val d)))
  | .new d => .nx (ρ.set i (some (.own none d)))
  | .at j => match settle (.at j) ρ with
    | some (d, ρ1) => .nx (ρ1.set i (some (.val d)))
    | none => .stuck) else .stuck
def mSet (i : Nat) (m : M) : MS := fun ρ => bindSO (m ρ) fun r ρ1 => setR i r ρ1
def mExpr (m : M) : MS := fun ρ => bindSO (m ρ) fun _ ρ1 => .nx ρ1
def retR (r : Res) (ρ : Rho) : SOut := match r with
  | .val d => .ret (.val d) ρ
  | .new d => .ret (.new d) ρ
  | .at j => match ρ[j]? with
    | some (some (.val d)) => .ret (.val d) ρ
    | some (some (.own none d)) => .ret (.new d) (ρ.set j none)
    | _ => .stuck
def mRet (m : M) : MS := fun ρ => bindSO (m ρ) fun r ρ1 => retR r ρ1
def mIfS (t : MB) (m1 m2 : MS) : MS := fun ρ => bindSO (t ρ) fun k ρ1 => if k = true then m1 ρ1 else m2 ρ1
theorem settle_len {r : Res} {ρ ρ' : Rho} {d : D} (e : settle r ρ = some (d, ρ')) : ρ'.length = ρ.length := by
  cases r with
  | val d' => simp only [settle, Option.some.injEq, Prod.mk.injEq] at e; rw [← e.2]
  | new d' => simp [settle] at e
  | «at» i =>
    simp only [settle] at e
    split at e
    · simp only [Option.some.injEq, Prod.mk.injEq] at e; rw [← e.2]
    · simp only [Option.some.injEq, Prod.mk.injEq] at e; rw [← e.2]; simp
    · cases e
section
variable {X : Cx} {Γ : Gm} {W : WX} {e : Expr} {m : M} {pos pos' : Pos} {st : Stmt} {rest a b : List Stmt} {m1 m2 : MS} {t : MB}
theorem js_nil : PSs X [] (tMS Γ W mNext) := pss_nil.imp fun D σ H ⟨ρ, F, R, p⟩ => p σ F H (.refl R)
theorem js_cons (h1 : PS X st (tMS Γ W m1)) (h2 : PSs X rest (tMS Γ W m2)) : PSs X (st :: rest) (tMS Γ W (mSeq m1 m2)) := (pss_cons h1 h2).imp fun D σ H ⟨ρ, F, R, p⟩ => by
  refine ⟨ρ, F, R, ?_⟩
  unfold mSeq at p
  cases e : m1 ρ with
  | nx ρ1 => rw [e] at p; exact fun σ' F' H' s => ⟨ρ1, F', s.rel, p.shift s⟩
  | ret r ρ1 => rw [e] at p; exact p
  | bk ρ1 => rw [e] at p; exact p
  | ct ρ1 => rw [e] at p; exact p
  | exc x ρ1 => rw [e] at p; exact p
  | stuck => rw [e] at p; exact p.elim
theorem js_one (h1 : PS X st (tMS Γ W m1)) : PSs X [st] (tMS Γ W m1) := pss_one h1
theorem js_pass : PS X (.Pass pos) (tMS Γ W mNext) := ps_pass.imp fun D σ H ⟨ρ, F, R, p⟩ => p σ F H (.refl R)
theorem js_break : PS X (.Break pos) (tMS Γ W fun ρ => .bk ρ) := ps_break.imp fun D σ H ⟨ρ, F, R, p⟩ => p σ F H (.refl R)
theorem js_continue : PS X (.Continue pos) (tMS Γ W fun ρ => .ct ρ) := ps_continue.imp fun D σ H ⟨ρ, F, R, p⟩ => p σ F H (.refl R)
theorem set_go {ρ ρ1 : Rho} {σ : St} {F H F1 H1 : Hp} {D : Ends} {i : Nat} {r : Res} {v : V} (s : Stp Γ ρ σ F H ρ1 σ F1 H1) (hr : RepRes Γ σ ρ1 F1 H1 v r) (p : PostS Γ W (setR i r ρ1) ρ σ F H D) : D.nx (σ.set i (some v)) H1 := by
  unfold setR at p
  split at p
  · rename_i hi
    cases r with
    | val d => exact p _ F1 H1 (s.setV hi hr)
    | new d =>
      obtain ⟨a, L, rfl, c, fr⟩ := hr
      exact p _ F1 H1 (s.set hi ⟨a, rfl, c, fun k z => nomatch z⟩ fr)
    | «at» j =>
      simp only at p
      split at p
      · rename_i d ρ2 e
        obtain ⟨F2, s2, q⟩ := settle_ok s.rel (show RepF Γ.G σ F1 v (.at j) from hr) e
        exact p _ F2 H1 ((s.trans s2).setV (by rw [settle_len e]; exact hi) q)
      · exact p.elim
  · exact p.elim
theorem js_set {i : Nat} {x : Str} (hN : X.N.Nodup) (hx : Loc X.env.scope x) (he : PE X e (tM Γ W m)) (hi : X.N[i]? = some x := by rfl) (hs : swapsWith e (some (.Name x pos')) pos.line X.env = pure false := by rfl)
    (hf : X.fn x = true ∨ X.env.scope.names.lookup x = some .local := by first | exact .inl rfl | exact .inr rfl | assumption) :
    PS X (.Assign [.Name x pos'] e pos) (tMS Γ W (mSet i m)) :=
  (ps_set hN hi hx he hs hf).imp fun D σ H ⟨ρ, F, R, p⟩ => ⟨ρ, F, R, p.bindM fun r ρ1 v F1 H1 s1 hr p1 => set_go s1 hr p1⟩
theorem js_expr (he : PE X e (tM Γ W m)) (hs : swapsWith e none pos.line X.env = pure false := by rfl) : PS X (.Expr e pos) (tMS Γ W (mExpr m)) :=
  (ps_expr he hs).imp fun D σ H ⟨ρ, F, R, p⟩ => ⟨ρ, F, R, p.bindM fun r ρ1 v F1 H1 s1 hr p1 => p1 σ F1 H1 s1⟩
theorem js_ret (he : PE X e (tM Γ W m)) : PS X (.Return (some e) pos) (tMS Γ W (mRet m)) :=
  (ps_ret he).imp fun D σ H ⟨ρ, F, R, p⟩ => ⟨ρ, F, R, p.bindM fun r ρ1 v F1 H1 s1 hr p1 => by
    unfold retR at p1
    cases r with
    | val d => exact p1 v σ F1 H1 s1 hr
    | new d => exact p1 v σ F1 H1 s1 hr
    | «at» j =>
      have hr : σ[j]? = some (some v) := hr
      simp only at p1
      split at p1
      · rename_i d q
        obtain ⟨v', h1, h2⟩ := s1.rel.slotV q
        rw [hr] at h1; cases h1
        exact p1 v σ F1 H1 s1 h2
      · rename_i d q
        obtain ⟨a, L, z, c, hb, ow⟩ := s1.rel.slotO q hr
        obtain ⟨R2, bk⟩ := s1.rel.drop (σ' := σ) j (fun _ _ => rfl) rfl
        exact p1 v σ F1 H1 (s1.drop j) ⟨a, L, z, c, fun b hb => ⟨(s1.rel.own j b (ow b hb)).1, (s1.rel.own j b (ow b hb)).2, fun ⟨k, o⟩ => (bk k b o).1 (s1.rel.inj k j b (bk k b o).2 (ow b hb))⟩⟩
      · exact p1.elim⟩
theorem js_retN : PS X (.Return none pos) (tMS Γ W fun ρ => .ret (.val .non) ρ) := ps_retN.imp fun D σ H ⟨ρ, F, R, p⟩ => p .non σ F H (.refl R) .non
theorem js_if {c : Expr} (hc : PT X c (tMB Γ W t)) (ha : PSs X a (tMS Γ W m1)) (hb : PSs X b (tMS Γ W m2)) : PS X (.If c a b pos) (tMS Γ W (mIfS t m1 m2)) :=
  (ps_if hc ha hb).imp fun D σ H ⟨ρ, F, R, p⟩ => ⟨ρ, F, R, p.bindB fun k ρ1 F1 H1 s1 p1 => by
    by_cases hk : k = true
    · simp only [hk, if_true] at p1 ⊢; exact ⟨ρ1, F1, s1.rel, p1⟩
    · simp only [hk] at p1 ⊢; exact ⟨ρ1, F1, s1.rel, p1⟩⟩
end

/-! ### targets -/
abbrev Tg := D → Rho → Option Rho
abbrev Tgs := List D → Rho → Option Rho
def TgOk (Γ : Gm) (g : TG) (f : Tg) : Prop := ∀ v d ρ ρ' σ F H Q, Rel Γ ρ σ F H → Dp Γ.G F v d → f d ρ = some ρ' → (∀ σ', Stp Γ ρ σ F H ρ' σ' F H → Q σ' H) → g v σ H Q
def TgsOk (Γ : Gm) (g : TGs) (f : Tgs) : Prop := ∀ vs ds ρ ρ' σ F H Q, Rel Γ ρ σ F H → DpL Γ.G F vs ds → f ds ρ = some ρ' → (∀ σ', Stp Γ ρ σ F H ρ' σ' F H → Q σ' H) → g vs σ H Q
def gN (i : Nat) : Tg := fun d ρ => if i < ρ.length then some (ρ.set i (some (.val d))) else none
def gsNil : Tgs := fun ds ρ => match ds with
  | [] => some ρ
  | _ => none
def gsCons (f : Tg) (g : Tgs) : Tgs := fun ds ρ => match ds with
  | d :: ds => (f d ρ).bind fun ρ1 => g ds ρ1
  | [] => none
def gT (n : Nat) (g : Tgs) : Tg := fun d ρ => match d with
  | .tup ds => if ds.length = n then g ds ρ else none
  | _ => none
theorem tg_name {Γ : Gm} {i : Nat} : TgOk Γ (gName i) (gN i) := by
  intro v d ρ ρ' σ F H Q R h e k
  unfold gN at e
  split at e
  · rename_i hi
    cases e
    exact k _ ((Stp.refl R).setV hi h)
  · cases e
theorem tgs_nil {Γ : Gm} : TgsOk Γ gNil gsNil := by
  intro vs ds ρ ρ' σ F H Q R h e k
  unfold gsNil at e
  split at e
  · cases e; cases h; exact ⟨rfl, k σ (.refl R)⟩
  · cases e
theorem tgs_cons {Γ : Gm} {t : TG} {u : TGs} {f : Tg} {g : Tgs} (h1 : TgOk Γ t f) (h2 : TgsOk Γ u g) : TgsOk Γ (gCons t u) (gsCons f g) := by
  intro vs ds ρ ρ' σ F H Q R h e k
  unfold gsCons at e
  split at e
  · rename_i d ds
    obtain ⟨ρ1, e1, e2⟩ := Option.bind_eq_some_iff.mp e
    cases h with
    | cons ha hb => exact ⟨_, _, rfl, h1 _ d ρ ρ1 σ F H _ R ha e1 fun σ1 s1 => h2 _ ds ρ1 ρ' σ1 F H Q s1.rel hb e2 fun σ2 s2 => k σ2 (s1.trans s2)⟩
  · cases e
theorem tg_tup {Γ : Gm} {u : TGs} {g : Tgs} {n : Nat} (h2 : TgsOk Γ u g) : TgOk Γ (gTup Γ.G.K n u) (gT n g) := by
  intro v d ρ ρ' σ F H Q R h e k
  unfold gT at e
  split at e
  · rename_i ds
    split at e
    · rename_i hn
      cases h with
      | tup hs t => exact ⟨_, _, rfl, sqT_ext hs R.sub, by rw [t.length]; exact hn, h2 _ ds ρ ρ' σ F H Q R t e k⟩
    · cases e
  · cases e
/-- targets = e, e settled -/
def tgtR (f : Tg) (r : Res) (ρ : Rho) : SOut := match settle r ρ with
  | some (d, ρ1) => (match f d ρ1 with | some ρ2 => .nx ρ2 | none => .stuck)
  | none => .stuck
def mAsg (f : Tg) (m : M) : MS := fun ρ => bindSF (m ρ) fun r ρ1 => tgtR f r ρ1
section
variable {X : Cx} {Γ : Gm} {W : WX} {e tg : Expr} {m : M} {pos pos' : Pos}
theorem js_asg {g : TG} {f : Tg} (hg : PG X tg g) (hf : TgOk Γ g f) (he : PE X e (tM Γ W m)) (hs : swapsWithSole [tg] e pos.line X.env = pure false := by rfl) (hw : swappedStores [tg] e X.env = pure none := by rfl) (h1 : (assignEach [tg] X.env).map (·.2) = [assign tg X.env] := by rfl) : PS X (.Assign [tg] e pos) (tMS Γ W (mAsg f m)) :=
  (ps_asg (je_f he) hg hs hw h1).imp fun D σ H ⟨ρ, F, R, p⟩ => ⟨ρ, F, R, p.bindF fun r ρ1 v F1 H1 s1 hr p1 => by
    unfold tgtR at p1
    split at p1
    · rename_i d ρ2 e1
      split at p1
      · rename_i ρ3 e2
        obtain ⟨F2, s2, q⟩ := settle_ok s1.rel hr e1
        exact hf v d ρ2 ρ3 σ F2 H1 _ s2.rel q e2 fun σ' s3 => p1 σ' F2 H1 (s2.trans s3)
      · exact p1.elim
    · exact p1.elim⟩
end
end PyD

namespace PyD
open PySem PySem.Spec PyProof.Rows L2

/-! ### a def as a function over data: v d: plain; o d: a cell that is lent -/
inductive Arg where
  | v (d : D)
  | o (d : D)
inductive FOut where
  | ret (r : Res) (os : List D)
  | exc (x : Exc) (os : List D)
  | stuck
abbrev Fn := List Arg → FOut
inductive ARel (G : Gx) (F H : Hp) : List V → List Arg → List Addr → Prop
  | nil : ARel G F H [] [] []
  | v {v : V} {d : D} {vs : List V} {as : List Arg} {L : List Addr} : Dp G F v d → ARel G F H vs as L → ARel G F H (v :: vs) (.v d :: as) L
  | o {a : Addr} {d : D} {vs : List V} {as : List Arg} {L1 L : List Addr} : Ct G F H a d L1 → (∀ b ∈ L1, b ∉ L) → ARel G F H vs as L → ARel G F H (.ref a :: vs) (.o d :: as) (L1 ++ L)
/-- what the lent ones are behind the call -/
inductive ORel (G : Gx) (F H : Hp) : List V → List Arg → List D → List Addr → Prop
  | nil : ORel G F H [] [] [] []
  | v {v : V} {d : D} {vs : List V} {as : List Arg} {os : List D} {L : List Addr} : ORel G F H vs as os L → ORel G F H (v :: vs) (.v d :: as) os L
  | o {a : Addr} {d d' : D} {vs : List V} {as : List Arg} {os : List D} {L1 L : List Addr} : Ct G F H a d' L1 → (∀ b ∈ L1, b ∉ L) → ORel G F H vs as os L → ORel G F H (.ref a :: vs) (.o d :: as) (d' :: os) (L1 ++ L)
structure CStp (U : Addr → Prop) (F H F' H' : Hp) : Prop where
  fh : Same F' H'
  subF : Same F F'
  keep : ∀ a, U a → H' a = H a
  frn : ∀ a, U a → F' a = none
  there : ∀ a o, H a = some o → ∃ o', H' a = some o'
def RepRet (G : Gx) (U : Addr → Prop) (L' : List Addr) (F' H' : Hp) (v : V) : Res → Prop
  | .val d => Dp G F' v d
  | .new d => ∃ a L, v = .ref a ∧ Ct G F' H' a d L ∧ ∀ b ∈ L, F' b = none ∧ ¬ U b ∧ b ∉ L'
  | .at _ => False
/-- others' cells, as they must be -/
def Ali (U : Addr → Prop) (F H : Hp) : Prop := ∀ a, U a → F a = none ∧ ∃ o, H a = some o
def Off (U : Addr → Prop) (F : Hp) (L : List Addr) : Prop := ∀ a ∈ L, F a = none ∧ ¬ U a
def spF (G : Gx) (n : Nat) (f : Fn) : Sp := fun vs H Q E => vs.length = n ∧ ∃ F as L U, Same F H ∧ ARel G F H vs as L ∧ Off U F L ∧ Ali U F H ∧ match f as with
  | .ret r os => ∀ v F' H' L', CStp U F H F' H' → ORel G F' H' vs as os L' → Off U F' L' → RepRet G U L' F' H' v r → Q v H'
  | .exc x os => ∀ d F' H' L', CStp U F H F' H' → ORel G F' H' vs as os L' → Off U F' L' → ExcRep G F' H' x d → E (ecV G x.c) d H'
  | .stuck => False

/-! the caller's side -/
inductive BArg where
  | v (d : D)
  | o (i : Nat) (b : Option Nat) (d : D)
def BArg.strip : BArg → Arg
  | .v d => .v d
  | .o _ _ d => .o d
def idx : List BArg → List Nat
  | [] => []
  | .v _ :: as => idx as
  | .o i _ _ :: as => i :: idx as
/-- first: what is not lent is settled -/
def prep1 : List Bool → List Res → Rho → Option (List (D ⊕ Nat) × Rho)
  | _, [], ρ => some ([], ρ)
  | mk, r :: rs, ρ => match mk, r with
    | true :: mk, .at i => (match prep1 mk rs ρ with
      | some (ms, ρ2) => some (.inr i :: ms, ρ2)
      | none => none)
    | mk, r => match settle r ρ with
      | some (d, ρ1) => (match prep1 mk.tail rs ρ1 with
        | some (ms, ρ2) => some (.inl d :: ms, ρ2)
        | none => none)
      | none => none
/-- then the lent ones -/
def prep2 (ρ : Rho) : List (D ⊕ Nat) → Option (List BArg)
  | [] => some []
  | .inl d :: ms => (prep2 ρ ms).map (.v d :: ·)
  | .inr i :: ms => match ρ[i]? with
    | some (some (.own b d)) => (match prep2 ρ ms with
      | some as => if i ∈ idx as then none else some (.o i b d :: as)
      | none => none)
    | some (some (.val d)) => (prep2 ρ ms).map (.v d :: ·)
    | _ => none
def wb : List BArg → List D → Rho → Option Rho
  | [], [], ρ => some ρ
  | .v _ :: as, os, ρ => wb as os ρ
  | .o i b _ :: as, d :: os, ρ => (wb as os ρ).map fun ρ => ρ.set i (some (.own b d))
  | _, _, _ => none
inductive MRel (G : Gx) (σ : St) (F : Hp) : List V → List (D ⊕ Nat) → Prop
  | nil : MRel G σ F [] []
  | v {v : V} {d : D} {vs : List V} {ms : List (D ⊕ Nat)} : Dp G F v d → MRel G σ F vs ms → MRel G σ F (v :: vs) (.inl d :: ms)
  | o {v : V} {i : Nat} {vs : List V} {ms : List (D ⊕ Nat)} : σ[i]? = some (some v) → MRel G σ F vs ms → MRel G σ F (v :: vs) (.inr i :: ms)
theorem prep1_ok {Γ : Gm} : ∀ {rs : List Res} {mk : List Bool} {ρ ρ' : Rho} {σ : St} {F H : Hp} {vs : List V} {ms : List (D ⊕ Nat)}, Rel Γ ρ σ F H → RepFs Γ.G σ F vs rs → prep1 mk rs ρ = some (ms, ρ') → ∃ F', Stp Γ ρ σ F H ρ' σ F' H ∧ MRel Γ.G σ F' vs ms
  | [], mk, _, _, _, F, _, _, _, R, .nil, e => by
    simp only [prep1, Option.some.injEq, Prod.mk.injEq] at e
    obtain ⟨rfl, rfl⟩ := e
    exact ⟨F, .refl R, .nil⟩
  | r :: rs, mk, _, _, _, _, _, _, _, R, .cons h t, e => by
    simp only [prep1] at e
    split at e
    · rename_i mk' i
      split at e
      · rename_i ms ρ2 e2
        simp only [Option.some.injEq, Prod.mk.injEq] at e
        obtain ⟨rfl, rfl⟩ := e
        obtain ⟨F2, s2, p2⟩ := prep1_ok R t e2
        exact ⟨F2, s2, .o h p2⟩
      · cases e
    · split at e
      · rename_i d ρ1 e1
        split at e
        · rename_i ms ρ2 e2
          simp only [Option.some.injEq, Prod.mk.injEq] at e
          obtain ⟨rfl, rfl⟩ := e
          obtain ⟨F1, s1, p1⟩ := settle_ok R h e1
          obtain ⟨F2, s2, p2⟩ := prep1_ok s1.rel (t.mono s1.subF) e2
          exact ⟨F2, s1.trans s2, .v (p1.mono s2.subF) p2⟩
        · cases e
      · cases e
inductive BRel (Γ : Gm) (ρ : Rho) (σ : St) (F H : Hp) : List V → List BArg → List Addr → Prop
  | nil : BRel Γ ρ σ F H [] [] []
  | v {v : V} {d : D} {vs : List V} {as : List BArg} {L : List Addr} : Dp Γ.G F v d → BRel Γ ρ σ F H vs as L → BRel Γ ρ σ F H (v :: vs) (.v d :: as) L
  | o {a : Addr} {i : Nat} {b : Option Nat} {d : D} {vs : List V} {as : List BArg} {L1 L : List Addr} : ρ[i]? = some (some (.own b d)) → σ[i]? = some (some (.ref a)) → Ct Γ.G F H a d L1 → i ∉ idx as → BRel Γ ρ σ F H vs as L →
      BRel Γ ρ σ F H (.ref a :: vs) (.o i b d :: as) (L1 ++ L)
theorem prep2_ok {Γ : Gm} {ρ : Rho} {σ : St} {F H : Hp} (R : Rel Γ ρ σ F H) : ∀ {vs : List V} {ms : List (D ⊕ Nat)} {as : List BArg}, MRel Γ.G σ F vs ms → prep2 ρ ms = some as → ∃ L, BRel Γ ρ σ F H vs as L
  | _, _, _, .nil, e => by simp only [prep2, Option.some.injEq] at e; subst e; exact ⟨[], .nil⟩
  | _, _, _, .v h t, e => by
    simp only [prep2, Option.map_eq_some_iff] at e
    obtain ⟨as, e1, rfl⟩ := e
    obtain ⟨L, B⟩ := prep2_ok R t e1
    exact ⟨L, .v h B⟩
  | _, _, _, .o (i := i) h t, e => by
    simp only [prep2] at e
    split at e
    · rename_i b d q
      split at e
      · rename_i as e1
        split at e
        · cases e
        · rename_i ni
          simp only [Option.some.injEq] at e
          subst e
          obtain ⟨L, B⟩ := prep2_ok R t e1
          obtain ⟨a, L1, z, c, hb, ow⟩ := R.slotO q h
          subst z
          exact ⟨L1 ++ L, .o q h c ni B⟩
      · cases e
    · rename_i d q
      obtain ⟨as, e1, rfl⟩ := Option.map_eq_some_iff.mp e
      obtain ⟨L, B⟩ := prep2_ok R t e1
      obtain ⟨v', h1, h2⟩ := R.slotV q
      rw [h] at h1; cases h1
      exact ⟨L, .v h2 B⟩
    · cases e
section
variable {Γ : Gm} {ρ : Rho} {σ : St} {F H F' H' : Hp}
theorem BRel.mem (R : Rel Γ ρ σ F H) : ∀ {vs : List V} {as : List BArg} {L : List Addr}, BRel Γ ρ σ F H vs as L → ∀ a ∈ L, ∃ i ∈ idx as, OwnAt Γ ρ σ F H i a
  | _, _, _, .nil, a, h => by cases h
  | _, _, _, .v _ t, a, h => t.mem R a h
  | _, _, _, .o (i := i) (b := b) (d := d) q1 q2 q3 q4 t, a, h => by
    rcases List.mem_append.mp h with e | h
    · obtain ⟨a', L', z, c, hb, ow⟩ := R.slotO q1 q2
      cases z
      exact ⟨i, List.mem_cons_self .., ow a (by rw [c.uniq q3]; exact e)⟩
    · obtain ⟨j, h1, h2⟩ := t.mem R a h
      exact ⟨j, List.mem_cons_of_mem _ h1, h2⟩
theorem BRel.arel (R : Rel Γ ρ σ F H) : ∀ {vs : List V} {as : List BArg} {L : List Addr}, BRel Γ ρ σ F H vs as L → ARel Γ.G F H vs (as.map BArg.strip) L
  | _, _, _, .nil => .nil
  | _, _, _, .v h t => .v h (t.arel R)
  | _, _, _, .o (a := a) (i := i) (b := b) (d := d) q1 q2 q3 q4 t => by
    refine .o q3 (fun c hc z => ?_) (t.arel R)
    obtain ⟨j, h1, h2⟩ := t.mem R c z
    obtain ⟨a', L', z, cc, hb, ow⟩ := R.slotO q1 q2
    cases z
    have oi := ow c (by rw [cc.uniq q3]; exact hc)
    exact q4 (by rw [R.inj i j c oi h2]; exact h1)
/-- others' cells, for the one that is called -/
def callU (Γ : Gm) (ρ : Rho) (σ : St) (F H : Hp) (as : List BArg) (c : Addr) : Prop := Γ.U c ∨ ∃ i, i ∉ idx as ∧ OwnAt Γ ρ σ F H i c
theorem callU_ali (R : Rel Γ ρ σ F H) (as : List BArg) : Ali (callU Γ ρ σ F H as) F H := fun a h => by
  rcases h with h | ⟨i, _, o⟩
  · exact R.ali a h
  · exact ⟨(R.own i a o).1, Rel.ownH o⟩
theorem BRel.off (R : Rel Γ ρ σ F H) {vs : List V} {as : List BArg} {L : List Addr} (B : BRel Γ ρ σ F H vs as L) : Off (callU Γ ρ σ F H as) F L := fun a h => by
  obtain ⟨i, hi, o⟩ := B.mem R a h
  refine ⟨(R.own i a o).1, fun z => ?_⟩
  rcases z with z | ⟨j, hj, o2⟩
  · exact (R.own i a o).2 z
  · exact hj (by rw [R.inj j i a o2 o]; exact hi)
def Lnt (G : Gx) (σ : St) (F' H' : Hp) (ρ' : Rho) (j : Nat) (c : Addr) : Prop := ∃ b d' a L1, ρ'[j]? = some (some (.own b d')) ∧ σ[j]? = some (some (.ref a)) ∧ Ct G F' H' a d' L1 ∧ c ∈ L1
theorem wb_get : ∀ {vs : List V} {as : List BArg} {L L' : List Addr} {os : List D} {ρ' : Rho}, BRel Γ ρ σ F H vs as L → ORel Γ.G F' H' vs (as.map BArg.strip) os L' → wb as os ρ = some ρ' → ρ'.length = ρ.length ∧
    (∀ j : Nat, j ∉ idx as → ρ'[j]? = ρ[j]?) ∧ (∀ j ∈ idx as, ∃ b d d' a L1, ρ'[j]? = some (some (.own b d')) ∧ ρ[j]? = some (some (.own b d)) ∧ σ[j]? = some (some (.ref a)) ∧ Ct Γ.G F' H' a d' L1 ∧ ∀ c ∈ L1, c ∈ L') ∧
    (∀ j ∈ idx as, ∀ c, Lnt Γ.G σ F' H' ρ' j c → c ∈ L') ∧ (∀ j ∈ idx as, ∀ k ∈ idx as, ∀ c, Lnt Γ.G σ F' H' ρ' j c → Lnt Γ.G σ F' H' ρ' k c → j = k)
  | _, _, _, _, _, _, .nil, .nil, e => by
    simp only [wb, Option.some.injEq] at e; subst e
    exact ⟨rfl, fun j _ => rfl, fun j h => (by cases h), fun j h => (by cases h), fun j h => (by cases h)⟩
  | _, _, _, _, os, ρ', .v (as := as) h t, .v O, e => by
    have e : wb as os ρ = some ρ' := by
      cases os <;> simpa only [wb] using e
    have g := wb_get t O e
    exact g
  | _, _, _, _, _, _, .o (a := a) (i := i) (b := b) (d := d) (as := as) q1 q2 q3 q4 t, .o (d' := d') (L1 := L1) hc dj O, e => by
    simp only [wb, Option.map_eq_some_iff] at e
    obtain ⟨ρ1, e1, rfl⟩ := e
    obtain ⟨hl, g1, g2, g3, g4⟩ := wb_get t O e1
    have hi : i < ρ1.length := by rw [hl]; exact lt_of_get q1
    have back : ∀ {j : Nat} {c : Addr}, j ∈ idx as → Lnt Γ.G σ F' H' (ρ1.set i (some (.own b d'))) j c → Lnt Γ.G σ F' H' ρ1 j c := fun {j c} hj h => by
      obtain ⟨b', d2, a2, L2, w1, w2⟩ := h
      rw [List.getElem?_set_ne (fun z : i = j => q4 (z ▸ hj))] at w1
      exact ⟨b', d2, a2, L2, w1, w2⟩
    have here : ∀ {c : Addr}, Lnt Γ.G σ F' H' (ρ1.set i (some (.own b d'))) i c → c ∈ L1 := fun {c} h => by
      obtain ⟨b', d2, a2, L2, w1, w2, w3, w4⟩ := h
      rw [List.getElem?_set_self hi] at w1; cases w1
      rw [q2] at w2; cases w2
      rw [hc.uniq w3]; exact w4
    refine ⟨by simp [hl], fun j hj => ?_, fun j hj => ?_, fun j hj c h => ?_, fun j hj k hk c h1 h2 => ?_⟩
    · simp only [idx, List.mem_cons, not_or] at hj
      rw [List.getElem?_set_ne (Ne.symm hj.1)]; exact g1 j hj.2
    · rcases List.mem_cons.mp hj with rfl | hj
      · exact ⟨b, d, d', a, L1, by rw [List.getElem?_set_self hi], q1, q2, hc, fun c h => List.mem_append_left _ h⟩
      · obtain ⟨b', d1, d2, a2, L2, w1, w2, w3, w4, w5⟩ := g2 j hj
        exact ⟨b', d1, d2, a2, L2, by rw [List.getElem?_set_ne (fun z : i = j => q4 (z ▸ hj))]; exact w1, w2, w3, w4, fun c h => List.mem_append_right _ (w5 c h)⟩
    · rcases List.mem_cons.mp hj with rfl | hj
      · exact List.mem_append_left _ (here h)
      · exact List.mem_append_right _ (g3 j hj c (back hj h))
    · rcases List.mem_cons.mp hj with ej | hj'
      · rcases List.mem_cons.mp hk with ek | hk'
        · rw [ej, ek]
        · rw [ej] at h1
          exact absurd (g3 k hk' c (back hk' h2)) (dj c (here h1))
      · rcases List.mem_cons.mp hk with ek | hk'
        · rw [ek] at h2
          exact absurd (g3 j hj' c (back hj' h1)) (dj c (here h2))
        · exact g4 j hj' k hk' c (back hj' h1) (back hk' h2)
theorem call_stp {vs : List V} {as : List BArg} {L L' : List Addr} {os : List D} {ρ' : Rho} (R : Rel Γ ρ σ F H) (B : BRel Γ ρ σ F H vs as L) (C : CStp (callU Γ ρ σ F H as) F H F' H') (O : ORel Γ.G F' H' vs (as.map BArg.strip) os L') (f : Off (callU Γ ρ σ F H as) F' L') (e : wb as os ρ = some ρ') :
    Stp Γ ρ σ F H ρ' σ F' H' ∧ ∀ a, Own Γ ρ' σ F' H' a → a ∈ L' ∨ callU Γ ρ σ F H as a := by
  obtain ⟨hl, g1, g2, g3, g4⟩ := wb_get B O e
  have lnt : ∀ {j : Nat} {c : Addr}, j ∈ idx as → OwnAt Γ ρ' σ F' H' j c → Lnt Γ.G σ F' H' ρ' j c := fun {j c} hj ⟨s, v, L2, w1, w2, w3, w4⟩ => by
    obtain ⟨b, d, d', a, L1, k1, k2, k3, k4, k5⟩ := g2 j hj
    rw [k1] at w1; cases w1
    obtain ⟨a', z, c', _⟩ := w3
    rw [k3] at w2; cases w2; cases z
    exact ⟨b, d', a, L2, k1, k3, c', w4⟩
  have kp : ∀ j, j ∉ idx as → ∀ b, OwnAt Γ ρ σ F H j b → ∀ o, H b = some o → H' b = some o := fun j hj b o u q => by rw [C.keep b (.inr ⟨j, hj, o⟩)]; exact q
  have bk : ∀ {j : Nat} {c : Addr}, j ∉ idx as → OwnAt Γ ρ' σ F' H' j c → OwnAt Γ ρ σ F H j c := fun {j c} hj o => own_back R C.subF j (fun s q => by rwa [g1 j hj] at q) rfl (kp j hj) o
  refine ⟨⟨⟨C.fh, fun j sl h => ?_, fun j k c h1 h2 => ?_, fun j c o => ?_, by rw [hl]; exact R.len, Γ.Jm _ _ C.subF R.inv, fun c h => ?_⟩, C.subF, fun c h => C.keep c (.inl h), C.there⟩, fun c ⟨j, o⟩ => ?_⟩
  · by_cases hj : j ∈ idx as
    · obtain ⟨b, d, d', a, L1, k1, k2, k3, k4, k5⟩ := g2 j hj
      rw [k1] at h; cases h
      obtain ⟨a', L0, z, c, hb, ow⟩ := R.slotO k2 k3
      cases z
      exact ⟨_, L1, k3, a, rfl, k4, hb⟩
    · rw [g1 j hj] at h
      exact slot_keep R C.subF j h rfl (kp j hj)
  · by_cases hj : j ∈ idx as
    · by_cases hk : k ∈ idx as
      · exact g4 j hj k hk c (lnt hj h1) (lnt hk h2)
      · exact absurd (.inr ⟨k, hk, bk hk h2⟩) (f c (g3 j hj c (lnt hj h1))).2
    · by_cases hk : k ∈ idx as
      · exact absurd (.inr ⟨j, hj, bk hj h1⟩) (f c (g3 k hk c (lnt hk h2))).2
      · exact R.inj j k c (bk hj h1) (bk hk h2)
  · by_cases hj : j ∈ idx as
    · have z := f c (g3 j hj c (lnt hj o))
      exact ⟨z.1, fun w => z.2 (.inl w)⟩
    · have z := bk hj o
      exact ⟨C.frn c (.inr ⟨j, hj, z⟩), (R.own j c z).2⟩
  · obtain ⟨_, o, q⟩ := R.ali c h
    exact ⟨C.frn c (.inl h), o, by rw [C.keep c (.inl h)]; exact q⟩
  · by_cases hj : j ∈ idx as
    · exact .inl (g3 j hj c (lnt hj o))
    · exact .inr (.inr ⟨j, hj, bk hj o⟩)
end
/-- the call of f, its arguments evaluated -/
def callR (mk : List Bool) (f : Fn) (rs : List Res) (ρ : Rho) : Out Res := match prep1 mk rs ρ with
  | some (ms, ρ1) => (match prep2 ρ1 ms with
    | some as => (match f (as.map BArg.strip) with
      | .ret r os => (match wb as os ρ1 with
        | some ρ2 => .ok r ρ2
        | none => .stuck)
      | .exc x os => (match wb as os ρ1 with
        | some ρ2 => .exc x ρ2
        | none => .stuck)
      | .stuck => .stuck)
    | none => .stuck)
  | none => .stuck
theorem RepRet.res {Γ : Gm} {ρ ρ1 ρ' : Rho} {σ : St} {F H F' H' : Hp} {v : V} {r : Res} {as : List BArg} {L' : List Addr} (bk : ∀ a, Own Γ ρ' σ F' H' a → a ∈ L' ∨ callU Γ ρ σ F H as a) (h : RepRet Γ.G (callU Γ ρ σ F H as) L' F' H' v r) : RepRes Γ σ ρ' F' H' v r := by
  cases r with
  | val d => exact h
  | «at» i => exact h.elim
  | new d =>
    obtain ⟨a, L, e, c, n⟩ := h
    refine ⟨a, L, e, c, fun b hb => ⟨(n b hb).1, fun z => (n b hb).2.1 (.inl z), fun z => ?_⟩⟩
    rcases bk b z with w | w
    · exact (n b hb).2.2 w
    · exact (n b hb).2.1 w
theorem callR_ok {Γ : Gm} {W : WX} {mk : List Bool} {f : Fn} {rs : List Res} {ρ : Rho} {σ : St} {F H : Hp} {Q : VK} {vs : List V} {n : Nat} (R : Rel Γ ρ σ F H) (ha : RepFs Γ.G σ F vs rs) (hn : vs.length = n) (h : Post Γ W (callR mk f rs ρ) ρ σ F H Q) :
    spF Γ.G n f vs H Q (fun cls d H' => W cls d σ H') := by
  unfold callR at h
  split at h
  · rename_i ms ρ1 e1
    obtain ⟨F1, s1, m1⟩ := prep1_ok R ha e1
    split at h
    · rename_i as e2
      obtain ⟨L, B⟩ := prep2_ok s1.rel m1 e2
      refine ⟨hn, F1, as.map BArg.strip, L, callU Γ ρ1 σ F1 H as, s1.rel.sub, B.arel s1.rel, B.off s1.rel, callU_ali s1.rel as, ?_⟩
      split at h
      · rename_i r os e3
        split at h
        · rename_i ρ2 e4
          intro v F' H' L' C O f' q
          obtain ⟨s2, bk⟩ := call_stp s1.rel B C O f' e4
          exact h v F' H' (s1.trans s2) (RepRet.res (ρ1 := ρ1) bk q)
        · exact h.elim
      · rename_i x os e3
        split at h
        · rename_i ρ2 e4
          intro d F' H' L' C O f' q
          exact h d F' H' (s1.trans (call_stp s1.rel B C O f' e4).1) q
        · exact h.elim
      · exact h.elim
    · exact h.elim
  · exact h.elim

/-! ### the callee's side -/
def slotsOf : Nat → List Arg → Rho
  | _, [] => []
  | k, .v d :: as => some (.val d) :: slotsOf (k + 1) as
  | k, .o d :: as => some (.own (some k) d) :: slotsOf (k + 1) as
def outsOf (ρ : Rho) : Nat → List Arg → Option (List D)
  | _, [] => some []
  | k, .v _ :: as => outsOf ρ (k + 1) as
  | k, .o _ :: as => match ρ[k]? with
    | some (some (.own (some j) d)) => if j = k then (outsOf ρ (k + 1) as).map (d :: ·) else none
    | _ => none
def fin (as : List Arg) (ρ : Rho) (k : List D → FOut) : FOut := match outsOf ρ 0 as with
  | some os => k os
  | none => .stuck
/-- a def with nl further local names and the body m -/
def mkFn (nl : Nat) (m : MS) : Fn := fun as => match m (slotsOf 0 as ++ List.replicate nl none) with
  | .nx ρ => fin as ρ fun os => .ret (.val .non) os
  | .ret (.val d) ρ => fin as ρ fun os => .ret (.val d) os
  | .ret (.new d) ρ => fin as ρ fun os => .ret (.new d) os
  | .exc x ρ => fin as ρ fun os => .exc x os
  | _ => .stuck
def bet (vs : List V) (k : Nat) : Addr := match vs[k]? with
  | some (.ref a) => a
  | _ => 0
theorem slotsOf_len : ∀ (as : List Arg) (k : Nat), (slotsOf k as).length = as.length
  | [], _ => rfl
  | .v _ :: as, k => by simp [slotsOf, slotsOf_len as]
  | .o _ :: as, k => by simp [slotsOf, slotsOf_len as]
theorem ARel.len {G : Gx} {F H : Hp} : ∀ {vs : List V} {as : List Arg} {L : List Addr}, ARel G F H vs as L → vs.length = as.length
  | _, _, _, .nil => rfl
  | _, _, _, .v _ t => by simp [t.len]
  | _, _, _, .o _ _ t => by simp [t.len]
/-- what a slot of the entry is -/
theorem slot_at {G : Gx} {F H : Hp} : ∀ {vs : List V} {as : List Arg} {L : List Addr} {k i : Nat} {sl : Slot}, ARel G F H vs as L → (slotsOf k as)[i]? = some (some sl) → ∃ v, vs[i]? = some v ∧
    ((∃ d, sl = .val d ∧ Dp G F v d) ∨ ∃ d a L1, sl = .own (some (k + i)) d ∧ v = .ref a ∧ Ct G F H a d L1 ∧ ∀ c ∈ L1, c ∈ L)
  | _, _, _, _, i, _, .nil, e => by simp [slotsOf] at e
  | _, _, _, k, 0, sl, .v h t, e => by
    simp only [slotsOf, List.getElem?_cons_zero, Option.some.injEq] at e
    exact ⟨_, rfl, .inl ⟨_, e.symm, h⟩⟩
  | _, _, _, k, i + 1, sl, .v h t, e => by
    simp only [slotsOf, List.getElem?_cons_succ] at e
    obtain ⟨v, h1, h2⟩ := slot_at t e
    rw [Nat.add_right_comm] at h2
    exact ⟨v, by simpa using h1, h2⟩
  | _, _, _, k, 0, sl, .o (a := a) c nl t, e => by
    simp only [slotsOf, List.getElem?_cons_zero, Option.some.injEq] at e
    exact ⟨_, rfl, .inr ⟨_, a, _, e.symm, rfl, c, fun c h => List.mem_append_left _ h⟩⟩
  | _, _, _, k, i + 1, sl, .o c nl t, e => by
    simp only [slotsOf, List.getElem?_cons_succ] at e
    obtain ⟨v, h1, h2⟩ := slot_at t e
    rw [Nat.add_right_comm] at h2
    refine ⟨v, by simpa using h1, ?_⟩
    rcases h2 with h2 | ⟨d, a, L1, w1, w2, w3, w4⟩
    · exact .inl h2
    · exact .inr ⟨d, a, L1, w1, w2, w3, fun c h => List.mem_append_right _ (w4 c h)⟩
theorem slot_inj {G : Gx} {F H : Hp} : ∀ {vs : List V} {as : List Arg} {L : List Addr} {k i j : Nat} {b c : Option Nat} {d e : D} {a1 a2 x : Addr} {L1 L2 : List Addr}, ARel G F H vs as L → (slotsOf k as)[i]? = some (some (.own b d)) → (slotsOf k as)[j]? = some (some (.own c e)) → vs[i]? = some (.ref a1) → vs[j]? = some (.ref a2) → Ct G F H a1 d L1 → Ct G F H a2 e L2 → x ∈ L1 → x ∈ L2 → i = j
  | _, _, _, _, i, _, _, _, _, _, _, _, _, _, _, .nil, q, _, _, _, _, _, _, _ => by simp [slotsOf] at q
  | _, _, _, k, 0, 0, _, _, _, _, _, _, _, _, _, _, _, _, _, _, _, _, _, _ => rfl
  | _, _, _, k, 0, j + 1, _, _, _, _, _, _, _, _, _, .v h t, q, _, _, _, _, _, _, _ => by simp [slotsOf] at q
  | _, _, _, k, i + 1, 0, _, _, _, _, _, _, _, _, _, .v h t, _, q, _, _, _, _, _, _ => by simp [slotsOf] at q
  | _, _, _, k, i + 1, j + 1, _, _, _, _, _, _, _, _, _, .v h t, q1, q2, q3, q4, c1, c2, x1, x2 => by
    simp only [slotsOf, List.getElem?_cons_succ] at q1 q2 q3 q4
    exact congrArg Nat.succ (slot_inj t q1 q2 q3 q4 c1 c2 x1 x2)
  | _, _, _, k, i + 1, j + 1, _, _, _, _, _, _, _, _, _, .o c nl t, q1, q2, q3, q4, c1, c2, x1, x2 => by
    simp only [slotsOf, List.getElem?_cons_succ] at q1 q2 q3 q4
    exact congrArg Nat.succ (slot_inj t q1 q2 q3 q4 c1 c2 x1 x2)
  | _, _, _, k, 0, j + 1, _, _, _, _, _, _, _, _, _, .o c nl t, q1, q2, q3, q4, c1, c2, x1, x2 => by
    simp only [slotsOf, List.getElem?_cons_succ, List.getElem?_cons_zero, Option.some.injEq, V.ref.injEq, Slot.own.injEq] at q1 q2 q3 q4
    obtain ⟨_, rfl⟩ := q1
    subst q3
    obtain ⟨v, h1, h2⟩ := slot_at t q2
    rw [q4] at h1; cases h1
    rcases h2 with ⟨d, w, _⟩ | ⟨d, a, L3, w1, w2, w3, w4⟩
    · cases w
    · cases w2; cases w1
      exact absurd (w4 _ (by rw [w3.uniq c2]; exact x2)) (nl _ (by rw [c.uniq c1]; exact x1))
  | _, _, _, k, i + 1, 0, _, _, _, _, _, _, _, _, _, .o c nl t, q2, q1, q4, q3, c2, c1, x2, x1 => by
    simp only [slotsOf, List.getElem?_cons_succ, List.getElem?_cons_zero, Option.some.injEq, V.ref.injEq, Slot.own.injEq] at q1 q2 q3 q4
    obtain ⟨_, rfl⟩ := q1
    subst q3
    obtain ⟨v, h1, h2⟩ := slot_at t q2
    rw [q4] at h1; cases h1
    rcases h2 with ⟨d, w, _⟩ | ⟨d, a, L3, w1, w2, w3, w4⟩
    · cases w
    · cases w2; cases w1
      exact absurd (w4 _ (by rw [w3.uniq c2]; exact x2)) (nl _ (by rw [c.uniq c1]; exact x1))
theorem get_app {α : Type} {l : List (Option α)} {n i : Nat} {x : α} (h : (l ++ List.replicate n none)[i]? = some (some x)) : l[i]? = some (some x) := by
  rcases Nat.lt_or_ge i l.length with z | z
  · rwa [List.getElem?_append_left z] at h
  · rw [List.getElem?_append_right z] at h
    rw [List.getElem?_replicate] at h
    split at h <;> cases h
theorem start_get {N : List Str} {vs : List V} {i : Nat} {v : V} (h : vs[i]? = some v) : (start N vs)[i]? = some (some v) := by
  have hi := lt_of_get h
  unfold L2.start
  rw [List.getElem?_append_left (by simpa using hi)]
  simp [h]
/-- what the callee owns at its entry -/
theorem own_entry {G : Gx} {U : Addr → Prop} {F H : Hp} {vs : List V} {as : List Arg} {L : List Addr} {N : List Str} {nl : Nat} (A : ARel G F H vs as L) {i : Nat} {c : Addr} (o : OwnAt (.of G (bet vs) U) (slotsOf 0 as ++ List.replicate nl none) (start N vs) F H i c) :
    ∃ d a L1, (slotsOf 0 as)[i]? = some (some (.own (some i) d)) ∧ vs[i]? = some (.ref a) ∧ Ct G F H a d L1 ∧ c ∈ L1 ∧ c ∈ L := by
  obtain ⟨s, v, L2, h1, h2, h3, h4⟩ := o
  have h1 := get_app h1
  obtain ⟨v', g1, g2⟩ := slot_at A h1
  rw [start_get g1] at h2; cases h2
  rcases g2 with ⟨d, rfl, hd⟩ | ⟨d, a, L1, rfl, rfl, cc, sb⟩
  · rw [h3.2] at h4; cases h4
  · obtain ⟨a', z, c', _⟩ := h3
    cases z
    have e := cc.uniq c'
    rw [Nat.zero_add] at h1
    exact ⟨d, a, L1, h1, g1, cc, by rw [e]; exact h4, sb c (by rw [e]; exact h4)⟩
theorem entry {G : Gx} {U : Addr → Prop} {F H : Hp} {vs : List V} {as : List Arg} {L : List Addr} {N : List Str} {nl : Nat} (A : ARel G F H vs as L) (f : Off U F L) (al : Ali U F H) (e : Same F H) (hN : N.length = vs.length + nl) : Rel (.of G (bet vs) U) (slotsOf 0 as ++ List.replicate nl none) (start N vs) F H := by
  refine ⟨e, fun i sl h => ?_, fun i j a o1 o2 => ?_, fun i a o => ?_, ?_, trivial, al⟩
  · obtain ⟨v, h1, h2⟩ := slot_at A (get_app h)
    rcases h2 with ⟨d, rfl, hd⟩ | ⟨d, a, L1, rfl, rfl, c, _⟩
    · exact ⟨v, [], start_get h1, hd, rfl⟩
    · refine ⟨_, L1, start_get h1, a, rfl, c, fun k z => ?_⟩
      simp only [Nat.zero_add, Option.some.injEq] at z
      subst z
      show a = bet vs i
      unfold bet
      rw [h1]
  · obtain ⟨d, a1, L1, q1, q2, q3, q4, _⟩ := own_entry A o1
    obtain ⟨d2, a2, L2, p1, p2, p3, p4, _⟩ := own_entry A o2
    exact slot_inj A q1 p1 q2 p2 q3 p3 q4 p4
  · obtain ⟨d, a1, L1, q1, q2, q3, q4, q5⟩ := own_entry A o
    exact f a q5
  · unfold L2.start
    simp [slotsOf_len, ← A.len, hN]
theorem outs_ok {G : Gx} {U : Addr → Prop} {β : Nat → Addr} {F H F' H' : Hp} {ρ' : Rho} {σ' : St} (R : Rel (.of G β U) ρ' σ' F' H') : ∀ {vs : List V} {as : List Arg} {L : List Addr} {k : Nat} {os : List D}, ARel G F H vs as L → (∀ i a, vs[i]? = some (.ref a) → β (k + i) = a) → outsOf ρ' k as = some os →
    ∃ L', ORel G F' H' vs as os L' ∧ ∀ c ∈ L', ∃ j, k ≤ j ∧ OwnAt (.of G β U) ρ' σ' F' H' j c
  | _, _, _, _, _, .nil, _, e => by simp only [outsOf, Option.some.injEq] at e; subst e; exact ⟨[], .nil, fun a h => by cases h⟩
  | _, _, _, k, _, .v h t, hb, e => by
    simp only [outsOf] at e
    obtain ⟨L', O, ow⟩ := outs_ok R t (fun i a q => by rw [← hb (i + 1) a (by simpa using q)]; congr 1; omega) e
    exact ⟨L', .v O, fun c hc => by obtain ⟨j, h1, h2⟩ := ow c hc; exact ⟨j, by omega, h2⟩⟩
  | _, _, _, k, _, .o (a := a) c nl t, hb, e => by
    simp only [outsOf] at e
    split at e
    · rename_i j d q
      split at e
      · rename_i hj
        subst hj
        obtain ⟨os, e1, rfl⟩ := Option.map_eq_some_iff.mp e
        obtain ⟨L', O, ow⟩ := outs_ok R t (fun i a q => by rw [← hb (i + 1) a (by simpa using q)]; congr 1; omega) e1
        obtain ⟨v, L1, h1, a', rfl, c', hb'⟩ := R.slot j _ q
        have ea : a' = a := by
          rw [hb' j rfl, ← hb 0 a rfl]; rfl
        subst ea
        have me : ∀ x ∈ L1, OwnAt (.of G β U) ρ' σ' F' H' j x := fun x hx => ⟨_, _, L1, q, h1, ⟨a', rfl, c', hb'⟩, hx⟩
        refine ⟨L1 ++ L', .o c' (fun b hb1 hb2 => ?_) O, fun x hx => ?_⟩
        · obtain ⟨j', h3, h4⟩ := ow b hb2
          have := R.inj j j' b (me b hb1) h4
          omega
        · rcases List.mem_append.mp hx with z | z
          · exact ⟨j, Nat.le_refl _, me x z⟩
          · obtain ⟨j', h3, h4⟩ := ow x z
            exact ⟨j', by omega, h4⟩
      · cases e
    · cases e
/-- a body that is m keeps the promise of mkFn -/
theorem body_ok {X : Cx} {G : Gx} {N : List Str} {n nl : Nat} {m : MS} {body : List Stmt} {vs : List V} {H : Hp} {Q : VK} {E : XK} (hN : N.length = n + nl) (h : spF G n (mkFn nl m) vs H Q E) (hb : ∀ U, PSs X body (tMS (.of G (bet vs) U) (fun cls d _ H' => E cls d H') m)) :
    ∃ t, PSs X body t ∧ t { nx := fun _ H' => Q .non H', rt := Q } (start N vs) H := by
  obtain ⟨hl, F, as, L, U, e, A, f, al, h⟩ := h
  refine ⟨_, hb U, ?_⟩
  have R := entry (N := N) (nl := nl) A f al e (by rw [hl]; exact hN)
  refine ⟨_, F, R, ?_⟩
  have hβ : ∀ i a, vs[i]? = some (.ref a) → bet vs (0 + i) = a := fun i a q => by unfold bet; rw [Nat.zero_add, q]
  have cst : ∀ {ρ' : Rho} {σ' : St} {F' H' : Hp} {os : List D}, Stp (.of G (bet vs) U) (slotsOf 0 as ++ List.replicate nl none) (start N vs) F H ρ' σ' F' H' → outsOf ρ' 0 as = some os → ∃ L', CStp U F H F' H' ∧ ORel G F' H' vs as os L' ∧ Off U F' L' ∧ ∀ c ∈ L', Own (.of G (bet vs) U) ρ' σ' F' H' c := fun {ρ' σ' F' H' os} s eo => by
    obtain ⟨L', O, ow⟩ := outs_ok s.rel A hβ eo
    exact ⟨L', ⟨s.rel.sub, s.subF, s.keep, fun a h => (s.rel.ali a h).1, s.there⟩, O, fun c hc => by obtain ⟨j, _, o⟩ := ow c hc; exact s.rel.own j c o, fun c hc => by obtain ⟨j, _, o⟩ := ow c hc; exact ⟨j, o⟩⟩
  unfold mkFn at h
  cases eq : m (slotsOf 0 as ++ List.replicate nl none) with
  | nx ρ' =>
    rw [eq] at h
    simp only [fin] at h
    cases eo : outsOf ρ' 0 as with
    | none => rw [eo] at h; exact h.elim
    | some os =>
      rw [eo] at h
      intro σ' F' H' s
      obtain ⟨L', C, O, f', ow⟩ := cst s eo
      exact h .non F' H' L' C O f' .non
  | ret r ρ' =>
    cases r with
    | val d =>
      rw [eq] at h
      simp only [fin] at h
      cases eo : outsOf ρ' 0 as with
      | none => rw [eo] at h; exact h.elim
      | some os =>
        rw [eo] at h
        intro v σ' F' H' s q
        obtain ⟨L', C, O, f', ow⟩ := cst s eo
        exact h v F' H' L' C O f' q
    | new d =>
      rw [eq] at h
      simp only [fin] at h
      cases eo : outsOf ρ' 0 as with
      | none => rw [eo] at h; exact h.elim
      | some os =>
        rw [eo] at h
        intro v σ' F' H' s q
        obtain ⟨L', C, O, f', ow⟩ := cst s eo
        obtain ⟨a, L1, z, c, fr⟩ := q
        exact h v F' H' L' C O f' ⟨a, L1, z, c, fun b hb => ⟨(fr b hb).1, (fr b hb).2.1, fun w => (fr b hb).2.2 (ow b w)⟩⟩
    | «at» i => rw [eq] at h; exact h.elim
  | bk ρ' => rw [eq] at h; exact h.elim
  | ct ρ' => rw [eq] at h; exact h.elim
  | exc x ρ' =>
    rw [eq] at h
    simp only [fin] at h
    cases eo : outsOf ρ' 0 as with
    | none => rw [eo] at h; exact h.elim
    | some os =>
      rw [eo] at h
      intro d σ' F' H' s q
      obtain ⟨L', C, O, f', ow⟩ := cst s eo
      exact h d F' H' L' C O f' q
  | stuck => rw [eq] at h; exact h.elim
theorem spF_len {G : Gx} {n : Nat} {f : Fn} : ∀ vs H Q E, spF G n f vs H Q E → vs.length = n := fun _ _ _ _ h => h.1
end PyD

/-! ### calls of defs where no repr is under way -/
namespace PyD
open PySem PySem.Spec PyProof.Rows L2
structure RG (k : Nat) (A : Around) : Prop where
  room : Room k A
  gd : A.guards = some []
section
variable {j k : Nat} {A : Around}
theorem RG.mono (r : RG k A) (h : j ≤ k) : RG j A := ⟨r.room.mono h, r.gd⟩
theorem RG.deeper (r : RG (k + 1) A) (env : Env) : RG k (A.deeper env) := ⟨r.room.deeper env, r.gd⟩
theorem RG.in1 (r : RG (k + 1) A) : RG k A.in1 := ⟨r.room.in1, r.gd⟩
theorem RG.make (r : RG (k + 1) A) (C : Addr) (us : List Value) (kw : List (Str × Value)) : RG k (A.under (.builtin "type.__call__" ⟨.ref C :: us, kw⟩)) := ⟨r.room.make C us kw, by
  have e : (Code.builtin "type.__call__" ⟨.ref C :: us, kw⟩).guards = [] := by
    unfold Code.guards
    have : (Code.builtin "type.__call__" ⟨.ref C :: us, kw⟩).isGuard = false := by show guardIds.contains "type.__call__" = false; decide +kernel
    rw [this]; rfl
  have u : (A.under (Code.builtin "type.__call__" ⟨.ref C :: us, kw⟩)).guards = pushGuards (Code.builtin "type.__call__" ⟨.ref C :: us, kw⟩).guards A.guards := by unfold Around.under; rfl
  rw [u, e, r.gd]; rfl⟩
theorem RG.hd (r : RG k A) : A.handled = none := r.room.hd
theorem RG.un (r : RG k A) : A.units + 16 * k + 200 < cLine := r.room.un
theorem RG.units (r : RG k A) : A.units + 64 < cLine := r.room.units
theorem RG.units0 (r : RG k A) : A.units < cLine := r.room.units0
end
structure FnOkG (P : Program) (w : World) (K : PySem.W.Frag) (mg : Str → Option Value) (base : Heap) (k : Nat) (f : Addr) (fd : FuncData) (ps : List Str) (sp : Sp) : Prop where
  len : ∀ vs H Q E, sp vs H Q E → vs.length = ps.length
  run : ∀ (A : Around) (outer : List Env) (s : Shared) (H : Hp) (args : Args) (us : List Value) (vs : List V) (Q : VK) (E : XK), RG k A → Env0 P w K mg base A outer s H → BindsTo s fd args (ps.zip us) → Vals vs us → sp vs H Q E → codeAny (model P w) A (.call (.ref f) args) (CR (L2.CX P w) outer P w H s Q E) s
/-- from a def's body to its promise -/
theorem okg_of {P : Program} {w : World} {K : PySem.W.Frag} {mg : Str → Option Value} {base : Heap} {x qual : Str} {params : Arguments} {body : List Stmt} {scope : Scope} {dvs : List V} {kws : List (Str × V)} {f : Addr} {fd : FuncData} {N ps : List Str} {k : Nat} {sp : Sp}
    (F : FunD K x qual params body scope dvs kws f fd) (S : FnScope N ps scope) (len : ∀ vs H Q E, sp vs H Q E → vs.length = ps.length)
    (hb : ∀ (cdv : Value) (A : Around) (outer : List Env) (s : Shared) (H : Hp) (vs : List V) (Q : VK) (E : XK), RG k (A.deeper (envOfC qual scope s.heap.objs.size f cdv)) → sp vs H Q E →
      ∃ t, PSs (cxOf (L2.CX P w) P w K mg base N qual scope f cdv A outer s H E) body t ∧ t { nx := fun _ H' => Q .non H', rt := Q } (start N vs) H) : FnOkG P w K mg base (k + 1) f fd ps sp := by
  obtain ⟨oc, od, dV, kV, doc, pm, an, cdv, ct, osl, rfl, lk, hcd, _, _⟩ := F.ex
  refine ⟨len, fun A outer s H args us vs Q E rg en bt rv prom => ?_⟩
  have inK : K.In s.heap := en.mod.kin.keeps fun b o q => (en.bs b o q).1
  have lims : s.heap.NoLimit := en.mod.nolimit.keeps fun b o q => (en.bs b o q).1
  refine codeAny_call_function rg.room.depth (inK _ _ lk) rfl S.co S.gen rfl (PySem.W.codeRec_of inK hcd) (bt _ _ _ _ ?_)
  refine wpAny_newFunctionEnv_cells S.kind (fun ⟨nm, val⟩ mem => (S.par nm (List.of_mem_zip mem).1).elim .inl fun c => .inr ⟨c, PySem.W.cellsFrom_some _ _ _ (.inl c)⟩) fun env eenv s1 inn => ?_
  subst eenv
  obtain ⟨t, dt, qt⟩ := hb cdv A outer s H vs Q E (rg.deeper _) prom
  have J : Inv (cxOf (L2.CX P w) P w K mg base N qual scope f cdv A outer s H E) [] (start N vs) H s1 := inv_start S rg.hd en (len _ _ _ _ prom) rv inn
  refine ⟨lims.keeps inn.toInCall.keep, codeAny_func (wpAny_mono (dt.run [] s1 (start N vs) H _ J qt) (fun fl s2 z => ?_) fun _ _ z => z)⟩
  cases fl with
  | ret u => obtain ⟨v, σ2, H2, J2, r2, q2⟩ := z; exact ⟨v, H2, J2.os, J2.bare, J2.base, J2.hok, r2, q2⟩
  | next => obtain ⟨σ2, H2, J2, q2⟩ := z; exact ⟨V.non, H2, J2.os, J2.bare, J2.base, J2.hok, rfl, q2⟩
  | brk => obtain ⟨_, _, _, q2⟩ := z; exact (show False from q2).elim
  | cont => obtain ⟨_, _, _, q2⟩ := z; exact (show False from q2).elim
/-- somewhere below the running body, no repr under way -/
structure SubG (X : Cx) (n : Nat) (A : Around) : Prop where
  room : RG n A
  fr : A.frames = X.A.frames
theorem SubG.in1 {X : Cx} {n : Nat} {A : Around} (s : SubG X (n + 1) A) : SubG X n A.in1 := ⟨s.room.in1, s.fr⟩
theorem SubG.mono {X : Cx} {n m : Nat} {A : Around} (s : SubG X n A) (h : m ≤ n) : SubG X m A := ⟨s.room.mono h, s.fr⟩
theorem envG {X : Cx} {n : Nat} {A : Around} {pins : List (Addr × Obj)} {σ : St} {H : Hp} {s : Shared} (sb : SubG X n A) (I : Inv X pins σ H s) : Env0 X.prog X.w X.K X.mg X.base A X.stack s H :=
  have e := I.env0
  ⟨by rw [sb.fr]; exact e.frames, e.mod, e.bs, e.bsz, e.funs, e.frf, e.hok, e.bare⟩
theorem run_sub {X : Cx} {A : Around} {k : Nat} {f : Addr} {fd : FuncData} {ps : List Str} {sp : Sp} {ds : List Value} {dvs : List V} {pins : List (Addr × Obj)} {σ : St} {H : Hp} {s : Shared} {Q : VK} {E : XK} {us : List Value} {vs : List V} (F : FnOkG X.prog X.w X.K X.mg X.base k f fd ps sp) (sb : SubG X k A) (hb : Binds X.K fd ps ds) (hd : Vals dvs ds) (hx : PassesAt (L2.CX X.prog X.w) X σ E)
    (I : Inv X pins σ H s) (r : Vals vs us) (h : sp (vs ++ dvs) H Q E) : wpAny (model X.prog X.w) A (call (.ref f) us) (EP X pins σ Q) X.xe s := by
  have rr : Vals (vs ++ dvs) (us ++ ds) := r.append hd
  have hl := F.len _ _ _ _ h
  have bt := hb s us I.kIn (by rw [← rr.length]; exact hl)
  refine wpAny_call (codeAny_mono (F.run A X.stack s H ⟨us, []⟩ (us ++ ds) (vs ++ dvs) Q E sb.room (envG sb I) bt rr h) fun r s' hq => ?_)
  cases r with
  | error e => exact hx pins H s e s' I hq
  | ok fl => cases fl with
    | ret w =>
      obtain ⟨v, H', I3, rv, q⟩ := I.after hq
      exact ⟨v, H', I3, rv, q⟩
    | _ => exact (show False from hq).elim
theorem run_fnG {X : Cx} {k : Nat} {f : Addr} {fd : FuncData} {ps : List Str} {sp : Sp} {ds : List Value} {dvs : List V} {E : St → XK} {pins : List (Addr × Obj)} {σ : St} {H : Hp} {s : Shared} {Q : VK} {us : List Value} {vs : List V} (F : FnOkG X.prog X.w X.K X.mg X.base k f fd ps sp) (hr : RG k X.A) (hb : Binds X.K fd ps ds) (hd : Vals dvs ds) (hx : PassesAt (L2.CX X.prog X.w) X σ (E σ))
    (I : Inv X pins σ H s) (r : Vals vs us) (h : sp (vs ++ dvs) H Q (E σ)) : wpAny (model X.prog X.w) X.A (call (.ref f) us) (EP X pins σ Q) X.xe s := run_sub F ⟨hr, rfl⟩ hb hd hx I r h
/-! ### the law's own call -/
/-- the abstract heap at the law's call: the script alone, or nothing -/
theorem law_callG {P : Program} {w : World} {K : PySem.W.Frag} {mg mb : Str → Option Value} {k : Nat} {fa a : Addr} {fd : FuncData} {x : Str} {sp : Sp} {s : Shared} {vs : List Value} {ns : List Int}
    (inK : K.In s.heap) (gl : s.heap.Ns mainGlobals mg) (bu : s.heap.Ns builtinsNs mb) (bb : ∀ y : Str, y ≠ "__name__" → mb y = bootBuiltins y) (lm : s.heap.NoLimit) (gn : s.gens = #[])
    (scr : s.heap.get? a = some { cls := .type "list", data := .seq vs.toArray }) (iv : IntsAre vs ns) (few : ns.length ≤ sizeLine) (rg : RG k callerA)
    (F : ∀ base : Heap, K.In base → base.Ns mainGlobals mg → FnOkG P w K mg base k fa fd [x] sp) (bind : ∀ (s : Shared) (u : Value), BindsTo s fd ⟨[u], []⟩ [(x, u)])
    (prom : ∀ H : Hp, Only H → SqL K H a (ns.map V.int) → sp [.ref a] H (fun v _ => v = .bl true) fun _ _ _ => False)
    (noX : ∀ H e s', L2.CX P w [] H s (fun _ _ _ => False) e s' → False) :
    codeAny (model P w) callerA (.call (.ref fa) ⟨[.ref a], []⟩) (fun r s' => r = .ok (.ret (.bool true)) ∧ OldK s.heap s'.heap ∧ s'.os = s.os ∧ AllBare s'.gens) s := by
  have go : ∀ H : Hp, Only H → SqL K H a (ns.map V.int) → HOk P w H s.heap → (∀ b, H b ≠ none → b = a) → (H a ≠ none → K.lookup a = none) → codeAny (model P w) callerA (.call (.ref fa) ⟨[.ref a], []⟩) (fun r s' => r = .ok (.ret (.bool true)) ∧ OldK s.heap s'.heap ∧ s'.os = s.os ∧ AllBare s'.gens) s := by
    intro H only sq ok onlyA notK
    have free : ∀ {b : Addr} {o : Obj} {es : Array DictEntry} {n : Nat}, s.heap.get? b = some o → o.data = .dict es n → H b = none := fun {b o es n} q d => Classical.byContradiction fun z => by
      obtain rfl := onlyA b z
      rw [scr] at q; cases q
      exact nomatch d
    have names : ∀ {b : Addr} {m : Str → Option Value}, s.heap.Ns b m → (hidT s.heap H).Ns b m := fun {b m} ⟨o, es, n, q, d, z⟩ => ⟨o, es, n, hidT_get q (free q d), d, z⟩
    have inB : K.In (hidT s.heap H) := fun b o q => hidT_get (inK b o q) (Classical.byContradiction fun z => by
      obtain rfl := onlyA b z
      rw [notK z] at q; cases q)
    obtain ⟨mc, l1, l2⟩ := lm
    have md : Mod K mg (hidT s.heap H) := ⟨inB, names gl, ⟨mb, names bu, bb⟩, ⟨mc, names l1, l2⟩⟩
    have nobody : ∀ b : Addr, ¬ b ∈ ([] : List Addr) := fun b z => by cases z
    have en : Env0 P w K mg (hidT s.heap H) callerA [] s H := ⟨rfl, md, fun b o q => of_hidT q, Nat.le_of_eq (hidT_size _ _), trivial, fun b z => (nobody b z).elim, ok, .of_eq gn⟩
    have call := (F _ inB (names gl)).run callerA [] s H ⟨[.ref a], []⟩ [.ref a] [.ref a] _ _ rg en (bind s (.ref a)) (.cons rfl .nil) (prom H only sq)
    refine codeAny_mono call fun r s2 res => ?_
    match r, res with
    | .error e, res => exact (noX H e s2 res).elim
    | .ok (.ret u), res =>
      obtain ⟨v, H2, os, bare, un, ok2, ru, ev⟩ := res
      obtain rfl : v = .bl true := ev
      obtain rfl : u = Value.bool true := ru
      refine ⟨rfl, OldK.of_keep fun b o q => ?_, os, bare⟩
      rcases only b with n | ⟨ob, xs, n⟩
      · exact un.keep b o q n (nobody b) (nobody b)
      · have e1 := (ok b _ n).1
        have e2 := (ok2 b _ (un.frzs b ob _ n)).1
        rw [q] at e1; cases e1
        exact e2
    | .ok .next, res => exact (show False from res).elim
    | .ok .brk, res => exact (show False from res).elim
    | .ok .cont, res => exact (show False from res).elim
  have rel := vals_ints iv
  cases look : K.lookup a with
  | some o =>
    have same := inK a o look
    rw [scr] at same; cases same
    exact go (fun _ => none) (fun _ => .inl rfl) (.inr ⟨_, vs.toArray, _, look, rfl, rfl, rfl, by rw [List.size_toArray, iv.length]; exact few, by simpa using rel⟩) (fun b u z => nomatch z) (fun b z => absurd rfl z) (fun z => absurd rfl z)
  | none =>
    let H0 : Hp := upd (fun _ => none) a (.frz { cls := .type "list", data := .seq vs.toArray } (.lst (ns.map V.int)))
    have h0 : ∀ b, H0 b ≠ none → b = a := fun b z => Classical.byContradiction fun w => z (upd_ne w)
    refine go H0 (fun b => ?_) (.inl (.inr ⟨_, upd_same⟩)) (fun b u z => ?_) h0 (fun _ => look)
    · by_cases w : b = a
      · exact .inr ⟨_, _, by rw [w]; exact upd_same⟩
      · exact .inl (upd_ne w)
    · obtain rfl := h0 b (by rw [z]; simp)
      have z : H0 b = some u := z
      rw [show H0 b = _ from upd_same] at z
      cases z
      exact ⟨scr, by rw [List.length_map]; exact few, vs, _, rel, scr⟩
end PyD

namespace PyD
open PySem PySem.Spec PyProof.Rows L2

/-! ### calls -/
theorem RepFs.len {G : Gx} {σ : St} {F : Hp} : ∀ {vs : List V} {rs : List Res}, RepFs G σ F vs rs → vs.length = rs.length
  | _, _, .nil => rfl
  | _, _, .cons _ t => by simp [t.len]
def mCall (n : Nat) (mk : List Bool) (f : Fn) (ma : MA) : M := fun ρ => bindO (ma ρ) fun rs ρ1 => if rs.length = n then callR mk f rs ρ1 else .stuck
section
variable {X : Cx} {Γ : Gm} {W : WX} {e : Expr} {ma : MA} {pos p : Pos} {es : List Expr} {x : Str} {k : Nat} {f : Addr} {fd : FuncData} {ps : List Str} {n : Nat} {mk : List Bool} {g : Fn}
theorem call_go {ρ : Rho} {σ : St} {F H : Hp} {Q : VK} {rs : List Res} {vs : List V} (R : Rel Γ ρ σ F H) (ha : RepFs Γ.G σ F vs rs) (h : Post Γ W (if rs.length = n then callR mk g rs ρ else .stuck) ρ σ F H Q) : spF Γ.G n g vs H Q (fun cls d H' => W cls d σ H') := by
  split at h
  · rename_i hn
    exact callR_ok R ha (by rw [ha.len]; exact hn) h
  · exact h.elim
theorem je_call (tk : Takes X W) (Fo : FnOkG X.prog X.w X.K X.mg X.base k f fd ps (spF Γ.G n g)) (hr : RG k X.A) (hm : X.mg x = some (.ref f)) (hk : PySem.W.keepIn X.K (.ref f) = true) (hb : Binds X.K fd ps []) (ha : PA X (e :: es) (tMA Γ W ma))
    (hg : Gl X x := by rfl) (hdb : (x == ("__debug__" : Str)) = false := by decide) (he : starEach (e :: es) X.env = (false, eval e X.env) :: starEach es X.env := by rfl) (hpl : (backTo pos (starEach es X.env)).any (·.1) = false := by rfl) :
    PE X (.Call (.Name x p) (e :: es) [] pos) (tM Γ W (mCall n mk g ma)) := by
  refine ⟨fun pins s σ H Q I ⟨ρ, F, R, h⟩ => wpAny_Call_Name_kw (ld_glob I hg hm ?_ hdb)⟩
  refine PySem.W.callWith_K (h₀ := X.base) I.ok.mod.kin hk (thn (ha.run pos pins s σ H (fun vs H1 => spF Γ.G n g vs H1 Q fun cls d H' => W cls d σ H') I ⟨ρ, F, R, h.bindA fun rs ρ1 vs F1 H1 s1 hr1 p1 => call_go s1.rel hr1 p1⟩) fun us s1 ⟨vs, H1, I1, r, q⟩ => ⟨I1.kIn, ?_⟩) he hpl
  exact run_fnG (dvs := []) (E := fun σ cls d H' => W cls d σ H') Fo hr hb .nil (passAt tk σ) I1 r (by rw [List.append_nil]; exact q)
theorem je_call0 (tk : Takes X W) (Fo : FnOkG X.prog X.w X.K X.mg X.base k f fd ps (spF Γ.G n g)) (hr : RG k X.A) (hm : X.mg x = some (.ref f)) (hk : PySem.W.keepIn X.K (.ref f) = true) (hb : Binds X.K fd ps [])
    (hg : Gl X x := by rfl) (hdb : (x == ("__debug__" : Str)) = false := by decide) : PE X (.Call (.Name x p) [] [] pos) (tM Γ W (mCall n mk g mNil)) := by
  refine ⟨fun pins s σ H Q I ⟨ρ, F, R, h⟩ => ?_⟩
  refine wpAny_Call_Name_kw (ld_glob I hg hm ?_ hdb)
  refine PySem.W.callWith_K0 I.kIn hk (run_fnG (us := []) (dvs := []) (E := fun σ cls d H' => W cls d σ H') Fo hr hb .nil (passAt tk σ) I .nil ?_)
  exact call_go R .nil h
end

/-! ### what is walked -/
structure Wlk (G : Gx) (J : It) (F : Hp) (ds : List D) : Prop where
  go : ∀ i H, Same F H → i < ds.length → J.go i H
  yld : ∀ i H x H', Same F H → i < ds.length → J.yld i H x H' → ∃ d, ds[i]? = some d ∧ ∀ F1, Same F F1 → Same F1 H → ∃ F2, Alc F1 H F2 H' ∧ Dp G F2 x d
  stop : ∀ i H, Same F H → ds.length ≤ i → J.stop i H
abbrev MI := Rho → Out (List D)
def iM (Γ : Gm) (W : WX) (mi : MI) : TI := fun σ H R => ∃ ρ F, Rel Γ ρ σ F H ∧ match mi ρ with
  | .ok ds ρ' => ∀ J F' H', Stp Γ ρ σ F H ρ' σ F' H' → Wlk Γ.G J F' ds → R J H'
  | .exc x ρ' => ∀ d F' H', Stp Γ ρ σ F H ρ' σ F' H' → ExcRep Γ.G F' H' x d → W (ecV Γ.G x.c) d σ H'
  | .stuck => False
theorem Wlk.mono {G : Gx} {J : It} {F F' : Hp} {ds : List D} (w : Wlk G J F ds) (e : Same F F') : Wlk G J F' ds :=
  ⟨fun i H s => w.go i H (e.trans s), fun i H x H' s hi y => by
    obtain ⟨d, h1, h2⟩ := w.yld i H x H' (e.trans s) hi y
    exact ⟨d, h1, fun F1 s1 s2 => h2 F1 (e.trans s1) s2⟩, fun i H s => w.stop i H (e.trans s)⟩
theorem wlk_lst {G : Gx} {F : Hp} {a : Addr} {vs : List V} {ds : List D} (h : F a = some (.lst vs)) (t : DpL G F vs ds) : Wlk G (Itl G.K a) F ds :=
  ⟨fun i H s hi => ⟨vs, vs[i]'(by rw [t.length]; exact hi), SqL.of (s _ _ h), by simp⟩, fun i H x H' s hi ⟨e, y⟩ => by
    have hx := y vs (SqL.of (s _ _ h))
    obtain ⟨d, h1, h2⟩ := t.getV hx
    subst e
    exact ⟨d, h1, fun F1 s1 s2 => ⟨F1, .refl s2, h2.mono s1⟩⟩, fun i H s hi => ⟨vs, SqL.of (s _ _ h), by rw [t.length]; exact hi⟩⟩
theorem wlk_tup {G : Gx} {F : Hp} {a : Addr} {vs : List V} {ds : List D} (h : SqT G.K F a vs) (t : DpL G F vs ds) : Wlk G (Itt G.K a) F ds :=
  ⟨fun i H s hi => ⟨vs, vs[i]'(by rw [t.length]; exact hi), sqT_ext h s, by simp⟩, fun i H x H' s hi ⟨e, y⟩ => by
    have hx := y vs (sqT_ext h s)
    obtain ⟨d, h1, h2⟩ := t.getV hx
    subst e
    exact ⟨d, h1, fun F1 s1 s2 => ⟨F1, .refl s2, h2.mono s1⟩⟩, fun i H s hi => ⟨vs, sqT_ext h s, by rw [t.length]; exact hi⟩⟩
def rangeD (lo : Int) (n : Nat) : List D := (List.range n).map fun i => .int (lo + (i : Nat))
theorem wlk_range {G : Gx} {F : Hp} (lo : Int) (n : Nat) : Wlk G (Itr lo n) F (rangeD lo n) :=
  ⟨fun i H s hi => by simpa [rangeD, Itr] using hi, fun i H x H' s hi ⟨e, y⟩ => by
    subst e y
    have hi : i < n := by simpa [rangeD] using hi
    exact ⟨.int (lo + (i : Nat)), by simp [rangeD, hi], fun F1 s1 s2 => ⟨F1, .refl s2, .int _⟩⟩, fun i H s hi => by simpa [rangeD, Itr] using hi⟩
def signsD (x : Str) : List D := x.cps.toList.map fun c => .str ⟨#[c]⟩
theorem wlk_str {G : Gx} {F : Hp} (x : Str) : Wlk G (Its x) F (signsD x) :=
  ⟨fun i H s hi => by simpa [signsD, Its] using hi, fun i H v H' s hi ⟨e, c, y, z⟩ => by
    subst e z
    exact ⟨.str ⟨#[c]⟩, by simp [signsD, y], fun F1 s1 s2 => ⟨F1, .refl s2, .str _⟩⟩, fun i H s hi => by simpa [signsD, Its] using hi⟩
/-- a list, a tuple or a text -/
theorem pi_seq {X : Cx} {tg l : Expr} {tl : TE} (hl : PE X l tl) : PI X tg l (fun σ H R => tl σ H fun x H1 => (∃ a, x = .ref a ∧ (∃ xs, SqL X.K H1 a xs) ∧ R (Itl X.K a) H1) ∨ (∃ a, x = .ref a ∧ (∃ xs, SqT X.K H1 a xs) ∧ R (Itt X.K a) H1) ∨ ∃ z, x = .str z ∧ R (Its z) H1) := by
  refine ⟨fun pins s σ H R I h => ?_⟩
  refine thn (hl.run pins s σ H _ I h) fun v s1 ⟨x, H1, I1, r1, q1⟩ => ?_
  rcases q1 with ⟨a, e, ⟨xs, hq⟩, q⟩ | ⟨a, e, ⟨xs, hq⟩, q⟩ | ⟨z, e, q⟩
  · subst e
    cases r1
    obtain ⟨its, rv, p, hz⟩ := I1.list hq
    refine wpAny_pyIter_list p.isList ?_
    refine ⟨s1.heap.objs.size, [s1.heap.objs.size], _, _, H1, rfl, I1.kept (t' := s1.toks) fun b o e => Heap.get?_push_of_some _ e, turn_list a _, ⟨_, Heap.get?_push_size _ rfl, rfl, rfl⟩, fun b hb => ?_, q⟩
    have e : b = s1.heap.objs.size := by simpa using hb
    subst e
    exact I1.fpOk (Nat.le_refl _) (I1.hok.fresh (Nat.le_refl _))
  · subst e
    cases r1
    obtain ⟨its, rv, p, hz⟩ := I1.tuple hq
    refine wpAny_pyIter_tuple (show s1.heap.IsTuple a its.toArray from p) ?_
    refine ⟨s1.heap.objs.size, [s1.heap.objs.size], _, _, H1, rfl, I1.kept (t' := s1.toks) fun b o e => Heap.get?_push_of_some _ e, turn_tuple a _, ⟨_, Heap.get?_push_size _ rfl, rfl, rfl⟩, fun b hb => ?_, q⟩
    have e : b = s1.heap.objs.size := by simpa using hb
    subst e
    exact I1.fpOk (Nat.le_refl _) (I1.hok.fresh (Nat.le_refl _))
  · subst e
    obtain ⟨t, rfl⟩ := r1
    cases ha : z.cps.all (· < 128)
    · exact wpAny_pyIter_wide ha (pi_one (tk := s1.toks) I1 _ (turn_str _ z t "str_iterator" (.inr rfl)) ⟨_, Heap.get?_push_size _ rfl, rfl, rfl⟩ q)
    · exact wpAny_pyIter_ascii ha (pi_one (tk := s1.toks) I1 _ (turn_str _ z t "str_ascii_iterator" (.inl rfl)) ⟨_, Heap.get?_push_size _ rfl, rfl, rfl⟩ q)
theorem _root_.L2.PI.imp {X : Cx} {tg e : Expr} {t t' : TI} (h : PI X tg e t) (i : ∀ σ H R, t' σ H R → t σ H R) : PI X tg e t' := ⟨fun pins s σ H R I q => h.run pins s σ H R I (i _ _ _ q)⟩
/-- the items of what is walked (settled) -/
def itemsD : D → Option (List D)
  | .lst xs => some xs
  | .tup xs => some xs
  | .str z => some (signsD z)
  | _ => none
def itemsR (r : Res) (ρ : Rho) : Out (List D) := match settle r ρ with
  | some (d, ρ1) => (match itemsD d with | some ds => .ok ds ρ1 | none => .stuck)
  | none => .stuck
def iSeq (m : M) : MI := fun ρ => bindF (m ρ) fun r ρ1 => itemsR r ρ1
def iRange (ma : MA) : MI := fun ρ => bindO (ma ρ) fun rs ρ1 => match resolves ρ1 rs with
  | some [.int j] => if decide (-(2 ^ 62) ≤ j) && decide (j < 2 ^ 62) then .ok (rangeD 0 j.toNat) ρ1 else .stuck
  | _ => .stuck
def iRange2 (ma : MA) : MI := fun ρ => bindO (ma ρ) fun rs ρ1 => match resolves ρ1 rs with
  | some [.int i, .int j] => if (decide (-(2 ^ 62) ≤ i) && decide (i < 2 ^ 62)) && (decide (-(2 ^ 62) ≤ j) && decide (j < 2 ^ 62)) then .ok (rangeD i (j - i).toNat) ρ1 else .stuck
  | _ => .stuck
theorem iM_bindF {Γ : Gm} {W : WX} {o : Out Res} {k : Res → Rho → Out (List D)} {ρ : Rho} {σ : St} {F H : Hp} {R : It → Hp → Prop} {Q1 : VK}
    (h : match bindF o k with
      | .ok ds ρ' => ∀ J F' H', Stp Γ ρ σ F H ρ' σ F' H' → Wlk Γ.G J F' ds → R J H'
      | .exc x ρ' => ∀ d F' H', Stp Γ ρ σ F H ρ' σ F' H' → ExcRep Γ.G F' H' x d → W (ecV Γ.G x.c) d σ H'
      | .stuck => False)
    (hk : ∀ r ρ1 v F1 H1, Stp Γ ρ σ F H ρ1 σ F1 H1 → RepF Γ.G σ F1 v r → (∀ ds ρ', k r ρ1 = .ok ds ρ' → ∀ J F' H', Stp Γ ρ1 σ F1 H1 ρ' σ F' H' → Wlk Γ.G J F' ds → R J H') → (∃ ds ρ', k r ρ1 = .ok ds ρ') → Q1 v H1)
    (hs : ∀ r ρ1, (∃ ds ρ', k r ρ1 = .ok ds ρ') ∨ k r ρ1 = .stuck) : PostF Γ W o ρ σ F H Q1 := by
  cases o with
  | ok r ρ' =>
    intro v F' H' s q
    rcases hs r.frz ρ' with ⟨ds, ρ2, e⟩ | e
    · have h : ∀ J F' H', Stp Γ ρ σ F H ρ2 σ F' H' → Wlk Γ.G J F' ds → R J H' := by
        simp only [bindF, e] at h; exact h
      refine hk r.frz ρ' v F' H' s q (fun ds' ρ3 e' J F2 H2 s2 w => ?_) ⟨ds, ρ2, e⟩
      rw [e] at e'; cases e'
      exact h J F2 H2 (s.trans s2) w
    · simp only [bindF, e] at h
  | exc x ρ' => exact h
  | stuck => exact h
theorem iM_bindA {Γ : Gm} {W : WX} {o : Out (List Res)} {k : List Res → Rho → Out (List D)} {ρ : Rho} {σ : St} {F H : Hp} {R : It → Hp → Prop} {Q1 : List V → Hp → Prop}
    (h : match bindO o k with
      | .ok ds ρ' => ∀ J F' H', Stp Γ ρ σ F H ρ' σ F' H' → Wlk Γ.G J F' ds → R J H'
      | .exc x ρ' => ∀ d F' H', Stp Γ ρ σ F H ρ' σ F' H' → ExcRep Γ.G F' H' x d → W (ecV Γ.G x.c) d σ H'
      | .stuck => False)
    (hk : ∀ r ρ1 v F1 H1, Stp Γ ρ σ F H ρ1 σ F1 H1 → RepFs Γ.G σ F1 v r → (∀ ds ρ', k r ρ1 = .ok ds ρ' → ∀ J F' H', Stp Γ ρ1 σ F1 H1 ρ' σ F' H' → Wlk Γ.G J F' ds → R J H') → (∃ ds ρ', k r ρ1 = .ok ds ρ') → Q1 v H1)
    (hs : ∀ r ρ1, (∃ ds ρ', k r ρ1 = .ok ds ρ') ∨ k r ρ1 = .stuck) : PostA Γ W o ρ σ F H Q1 := by
  cases o with
  | ok r ρ' =>
    intro v F' H' s q
    rcases hs r ρ' with ⟨ds, ρ2, e⟩ | e
    · have h : ∀ J F' H', Stp Γ ρ σ F H ρ2 σ F' H' → Wlk Γ.G J F' ds → R J H' := by
        simp only [bindO, e] at h; exact h
      refine hk r ρ' v F' H' s q (fun ds' ρ3 e' J F2 H2 s2 w => ?_) ⟨ds, ρ2, e⟩
      rw [e] at e'; cases e'
      exact h J F2 H2 (s.trans s2) w
    · simp only [bindO, e] at h
  | exc x ρ' => exact h
  | stuck => exact h
section
variable {X : Cx} {Γ : Gm} {W : WX} {e tg : Expr} {m : M} {ma : MA} {pos p : Pos}
theorem ji_seq (hK : X.K = Γ.G.K) (he : PE X e (tM Γ W m)) : PI X tg e (iM Γ W (iSeq m)) := (pi_seq (je_f he)).imp fun σ H R ⟨ρ, F, Rl, h⟩ => ⟨ρ, F, Rl, iM_bindF h (fun r ρ1 v F1 H1 s1 hr hk ⟨ds, ρ2, ek⟩ => by
    have hk := hk ds ρ2 ek
    unfold itemsR at ek
    split at ek
    · rename_i d ρ3 es
      split at ek
      · rename_i ds' ei
        cases ek
        obtain ⟨F2, s2, hd⟩ := settle_ok s1.rel hr es
        cases d with
        | lst xs =>
          simp only [itemsD, Option.some.injEq] at ei; subst ei
          cases hd with | lst ha t => exact .inl ⟨_, rfl, ⟨_, SqL.of (s2.rel.sub _ _ ha)⟩, hk _ F2 H1 s2 (hK ▸ wlk_lst ha t)⟩
        | tup xs =>
          simp only [itemsD, Option.some.injEq] at ei; subst ei
          cases hd with | tup ha t => exact .inr (.inl ⟨_, rfl, ⟨_, hK ▸ sqT_ext ha s2.rel.sub⟩, hk _ F2 H1 s2 (hK ▸ wlk_tup ha t)⟩)
        | str z =>
          simp only [itemsD, Option.some.injEq] at ei; subst ei
          cases hd; exact .inr (.inr ⟨z, rfl, hk _ F2 H1 s2 (wlk_str z)⟩)
        | _ => simp [itemsD] at ei
      · cases ek
    · cases ek) (fun r ρ1 => by
    unfold itemsR
    split
    · split
      · exact .inl ⟨_, _, rfl⟩
      · exact .inr rfl
    · exact .inr rfl)⟩
theorem ji_range {a : Expr} (hm : X.mg "range" = none) (ha : PA X [a] (tMA Γ W ma)) (hg : Gl X "range" := by rfl) (hs : starEach [a] X.env = [(false, eval a X.env)] := by rfl) : PI X tg (.Call (.Name "range" p) [a] [] pos) (iM Γ W (iRange ma)) :=
  (pi_range1 hg hm ha hs).imp fun σ H R ⟨ρ, F, Rl, h⟩ => ⟨ρ, F, Rl, iM_bindA h (fun rs ρ1 vs F1 H1 s1 hr hk ⟨ds, ρ2, ek⟩ => by
    have hk := hk ds ρ2 ek
    split at ek
    · rename_i j er
      split at ek
      · rename_i w
        cases ek
        have V := hr.views s1.rel er
        cases V with
        | cons h1 t =>
          cases t
          have w := Bool.and_eq_true_iff.mp w
          exact ⟨j, by rw [h1.int], of_decide_eq_true w.1, of_decide_eq_true w.2, hk _ F1 H1 (.refl s1.rel) (wlk_range 0 _)⟩
      · cases ek
    · cases ek) (fun r ρ1 => by
    split
    · split
      · exact .inl ⟨_, _, rfl⟩
      · exact .inr rfl
    · exact .inr rfl)⟩
theorem ji_range2 {a b : Expr} (hm : X.mg "range" = none) (ha : PA X [a, b] (tMA Γ W ma)) (hg : Gl X "range" := by rfl) (hs : starEach [a, b] X.env = [(false, eval a X.env), (false, eval b X.env)] := by rfl) (hs2 : starEach [b] X.env = [(false, eval b X.env)] := by rfl) : PI X tg (.Call (.Name "range" p) [a, b] [] pos) (iM Γ W (iRange2 ma)) :=
  (pi_range2 hg hm ha hs hs2).imp fun σ H R ⟨ρ, F, Rl, h⟩ => ⟨ρ, F, Rl, iM_bindA h (fun rs ρ1 vs F1 H1 s1 hr hk ⟨ds, ρ2, ek⟩ => by
    have hk := hk ds ρ2 ek
    split at ek
    · rename_i i j er
      split at ek
      · rename_i w
        cases ek
        have V := hr.views s1.rel er
        cases V with
        | cons h1 t =>
          cases t with
          | cons h2 t =>
            cases t
            have w := Bool.and_eq_true_iff.mp w
            have w1 := Bool.and_eq_true_iff.mp w.1
            have w2 := Bool.and_eq_true_iff.mp w.2
            exact ⟨i, j, by rw [h1.int, h2.int], ⟨of_decide_eq_true w1.1, of_decide_eq_true w1.2, of_decide_eq_true w2.1, of_decide_eq_true w2.2⟩, hk _ F1 H1 (.refl s1.rel) (wlk_range i _)⟩
      · cases ek
    · cases ek) (fun r ρ1 => by
    split
    · split
      · exact .inl ⟨_, _, rfl⟩
      · exact .inr rfl
    · exact .inr rfl)⟩
end

/-! ### for -/
def forD (f : Tg) (b : MS) : List D → Rho → SOut
  | [], ρ => .nx ρ
  | d :: ds, ρ => match f d ρ with
    | some ρ1 => (match b ρ1 with
      | .nx ρ2 => forD f b ds ρ2
      | .ct ρ2 => forD f b ds ρ2
      | .bk ρ2 => .nx ρ2
      | o => o)
    | none => .stuck
def mFor (mi : MI) (f : Tg) (b : MS) : MS := fun ρ => bindSO (mi ρ) fun ds ρ1 => forD f b ds ρ1
section
variable {X : Cx} {Γ : Gm} {W : WX} {iter tg : Expr} {mi : MI} {g : TG} {f : Tg} {b : MS} {body : List Stmt} {pos : Pos}
theorem for_ok {D : Ends} {J : It} {ds : List PyD.D} {ρ : Rho} {σ : St} {F H : Hp} (hf : TgOk Γ g f) (R : Rel Γ ρ σ F H) (w : Wlk Γ.G J F ds) (h : PostS Γ W (forD f b ds ρ) ρ σ F H D) :
    ∃ V : Nat → Nat → St → Hp → Prop, (∃ m, V 0 m σ H) ∧ ∀ i m σ H, V i m σ H →
      (J.stop i H ∧ D.nx σ H) ∨ (J.go i H ∧ ∃ N : St → Hp → Prop, (∀ σ' H', N σ' H' → ∃ m', m' < m ∧ V (i + 1) m' σ' H') ∧ ∀ x H', J.yld i H x H' → g x σ H' fun σ2 H2 => tMS Γ W b { D with nx := N, ct := N, bk := D.nx } σ2 H2) := by
  refine ⟨fun i m σ' H' => m = ds.length - i ∧ i ≤ ds.length ∧ ∃ ρ' F', Rel Γ ρ' σ' F' H' ∧ Same F F' ∧ PostS Γ W (forD f b (ds.drop i) ρ') ρ' σ' F' H' D, ⟨ds.length, by simp, Nat.zero_le _, ρ, F, R, Same.refl _, by simpa using h⟩, ?_⟩
  rintro i m σ' H' ⟨rfl, hi, ρ', F', R', sF, p⟩
  have wF := w.mono sF
  by_cases hlt : i < ds.length
  · refine .inr ⟨wF.go i H' R'.sub hlt, fun σ2 H2 => ∃ ρ2 F2, Rel Γ ρ2 σ2 F2 H2 ∧ Same F F2 ∧ PostS Γ W (forD f b (ds.drop (i + 1)) ρ2) ρ2 σ2 F2 H2 D, fun σ2 H2 ⟨ρ2, F2, R2, s2, p2⟩ => ⟨ds.length - (i + 1), by omega, rfl, hlt, ρ2, F2, R2, s2, p2⟩, fun x H2 y => ?_⟩
    obtain ⟨d, hd, hy⟩ := wF.yld i H' x H2 R'.sub hlt y
    obtain ⟨F2, al, dp⟩ := hy F' (Same.refl _) R'.sub
    have e : ds.drop i = d :: ds.drop (i + 1) := by
      rw [List.getElem?_eq_getElem hlt] at hd
      rw [← Option.some.inj hd]
      exact List.drop_eq_getElem_cons hlt
    rw [e] at p
    simp only [forD] at p
    cases ef : f d ρ' with
    | none => rw [ef] at p; exact p.elim
    | some ρ1 =>
      rw [ef] at p
      simp only at p
      have s0 := al.stp R'
      refine hf x d ρ' ρ1 σ' F2 H2 _ s0.rel dp ef fun σ2 s1 => ⟨ρ1, F2, s1.rel, ?_⟩
      have st := s0.trans s1
      cases eb : b ρ1 with
      | nx ρ2 => rw [eb] at p; exact fun σ3 F3 H3 s3 => ⟨ρ2, F3, s3.rel, sF.trans (st.trans s3).subF, p.shift (st.trans s3)⟩
      | ct ρ2 => rw [eb] at p; exact fun σ3 F3 H3 s3 => ⟨ρ2, F3, s3.rel, sF.trans (st.trans s3).subF, p.shift (st.trans s3)⟩
      | bk ρ2 => rw [eb] at p; exact fun σ3 F3 H3 s3 => p σ3 F3 H3 (st.trans s3)
      | ret r ρ2 => rw [eb] at p; exact p.shift st
      | exc x ρ2 => rw [eb] at p; exact p.shift st
      | stuck => rw [eb] at p; exact p.elim
  · have e : i = ds.length := by omega
    subst e
    rw [List.drop_length] at p
    exact .inl ⟨wF.stop _ H' R'.sub (Nat.le_refl _), p σ' F' H' (.refl R')⟩
theorem js_for (hp : PassesOwn (model X.prog X.w) X.A X.env X.xe) (hc : X.calm = true) (hi : PI X tg iter (iM Γ W mi)) (hg : PG X tg g) (hf : TgOk Γ g f) (hb : PSs X body (tMS Γ W b)) (hs : ∀ x, foldedSetIterable iter X.env x = pure x := by intro _; rfl) :
    PS X (.For tg iter body [] pos) (tMS Γ W (mFor mi f b)) := (ps_for hp hc hi hg hb hs).imp fun D σ H ⟨ρ, F, R, p⟩ => by
  refine ⟨ρ, F, R, ?_⟩
  unfold mFor at p
  cases e : mi ρ with
  | ok ds ρ1 => rw [e] at p; exact fun J F' H' s w => for_ok hf s.rel w (p.shift s)
  | exc x ρ1 => rw [e] at p; exact fun d F' H' s q => p d σ F' H' s q
  | stuck => rw [e] at p; exact p.elim
/-! while -/
def whileD (t : MB) (b : MS) : Nat → Rho → SOut
  | 0, _ => .stuck
  | n + 1, ρ => match t ρ with
    | .ok true ρ1 => (match b ρ1 with
      | .nx ρ2 => whileD t b n ρ2
      | .ct ρ2 => whileD t b n ρ2
      | .bk ρ2 => .nx ρ2
      | o => o)
    | .ok false ρ1 => .nx ρ1
    | .exc x ρ1 => .exc x ρ1
    | .stuck => .stuck
theorem js_while {c : Expr} {t : MB} (N : Nat) (hp : PassesOwn (model X.prog X.w) X.A X.env X.xe) (hc : PT X c (tMB Γ W t)) (hb : PSs X body (tMS Γ W b)) : PS X (.While c body [] pos) (tMS Γ W (whileD t b N)) :=
  (ps_while hp hc hb).imp fun D σ H ⟨ρ, F, R, p⟩ => by
    refine ⟨fun m σ' H' => ∃ ρ' F', Rel Γ ρ' σ' F' H' ∧ PostS Γ W (whileD t b m ρ') ρ' σ' F' H' D, ⟨N, ρ, F, R, p⟩, ?_⟩
    rintro m σ' H' ⟨ρ', F', R', p'⟩
    cases m with
    | zero => exact p'.elim
    | succ m =>
      simp only [whileD] at p'
      refine ⟨ρ', F', R', ?_⟩
      cases et : t ρ' with
      | ok k ρ1 =>
        rw [et] at p'
        intro F1 H1 s1
        cases k with
        | false =>
          simp only [Bool.false_eq_true, if_false]
          exact p' σ' F1 H1 s1
        | true =>
          simp only [if_true]
          simp only at p'
          refine ⟨fun σ2 H2 => ∃ ρ2 F2, Rel Γ ρ2 σ2 F2 H2 ∧ PostS Γ W (whileD t b m ρ2) ρ2 σ2 F2 H2 D, fun σ2 H2 q => ⟨m, Nat.lt_succ_self _, q⟩, ρ1, F1, s1.rel, ?_⟩
          cases eb : b ρ1 with
          | nx ρ2 => rw [eb] at p'; exact fun σ3 F3 H3 s3 => ⟨ρ2, F3, s3.rel, p'.shift (s1.trans s3)⟩
          | ct ρ2 => rw [eb] at p'; exact fun σ3 F3 H3 s3 => ⟨ρ2, F3, s3.rel, p'.shift (s1.trans s3)⟩
          | bk ρ2 => rw [eb] at p'; exact fun σ3 F3 H3 s3 => p' σ3 F3 H3 (s1.trans s3)
          | ret r ρ2 => rw [eb] at p'; exact p'.shift s1
          | exc x ρ2 => rw [eb] at p'; exact p'.shift s1
          | stuck => rw [eb] at p'; exact p'.elim
      | exc x ρ1 => rw [et] at p'; exact fun d F1 H1 s1 q => p' d σ' F1 H1 s1 q
      | stuck => rw [et] at p'; exact p'.elim
end
end PyD

namespace PyD
open PySem PySem.Spec PyProof.Rows L2

/-! ### comprehensions -/
def wipeR (ρ : Rho) : List Nat → Rho
  | [] => ρ
  | v :: vs => (wipeR ρ vs).set v none
theorem wipeR_len (ρ : Rho) : ∀ vs : List Nat, (wipeR ρ vs).length = ρ.length
  | [] => rfl
  | v :: vs => by unfold wipeR; rw [List.length_set, wipeR_len ρ vs]
theorem wipeR_get {ρ : Rho} {i : Nat} {s : Slot} : ∀ {vs : List Nat}, (wipeR ρ vs)[i]? = some (some s) → ρ[i]? = some (some s) ∧ i ∉ vs
  | [], h => ⟨h, by simp⟩
  | v :: vs, h => by
    unfold wipeR at h
    rcases get_set h with ⟨e, e2, _⟩ | ⟨e, h⟩
    · cases e2
    · obtain ⟨h1, h2⟩ := wipeR_get h
      exact ⟨h1, by simp only [List.mem_cons, not_or]; exact ⟨fun z => e z.symm, h2⟩⟩
/-- the slots of vs may be any -/
theorem Rel.wipe {Γ : Gm} {ρ : Rho} {σ σ' : St} {F H : Hp} {vs : List Nat} (R : Rel Γ ρ σ F H) (h : ∀ i, i ∉ vs → σ'[i]? = σ[i]?) (hl : σ'.length = σ.length) : Rel Γ (wipeR ρ vs) σ' F H ∧ (∀ a, Own Γ (wipeR ρ vs) σ' F H a → Own Γ ρ σ F H a) := by
  have bk : ∀ j a, OwnAt Γ (wipeR ρ vs) σ' F H j a → OwnAt Γ ρ σ F H j a := fun j a o => by
    have hj : j ∉ vs := by
      obtain ⟨s, v, L, q, _⟩ := o
      exact (wipeR_get q).2
    exact own_back R (Same.refl _) j (fun s q => (wipeR_get q).1) (h j hj) (fun _ _ _ q => q) o
  refine ⟨⟨R.sub, fun i s q => ?_, fun i j a h1 h2 => R.inj i j a (bk i a h1) (bk j a h2), fun j a o => R.own j a (bk j a o), by rw [wipeR_len, hl]; exact R.len, R.inv, R.ali⟩, fun a ⟨j, q⟩ => ⟨j, bk j a q⟩⟩
  obtain ⟨h3, h4⟩ := wipeR_get q
  exact slot_keep R (Same.refl _) i h3 (h i h4) fun _ _ _ q => q
theorem Stp.wipe {Γ : Gm} {ρ₀ ρ : Rho} {σ₀ σ σ' : St} {F₀ H₀ F H : Hp} {vs : List Nat} (s : Stp Γ ρ₀ σ₀ F₀ H₀ ρ σ F H) (h : ∀ i, i ∉ vs → σ'[i]? = σ[i]?) (hl : σ'.length = σ.length) : Stp Γ ρ₀ σ₀ F₀ H₀ (wipeR ρ vs) σ' F H :=
  ⟨(s.rel.wipe h hl).1, s.subF, s.keep, s.there⟩
/-- a cell that is nobody's is held by an outer one -/
def Gm.also (Γ : Gm) (a : Addr) : Gm := { Γ with U := fun b => Γ.U b ∨ b = a }
theorem slotOk_also {Γ : Gm} {F H : Hp} {v : V} {L : List Addr} {s : Slot} {a : Addr} : SlotOk (Γ.also a) F H v L s ↔ SlotOk Γ F H v L s := by cases s <;> exact Iff.rfl
theorem ownAt_also {Γ : Gm} {ρ : Rho} {σ : St} {F H : Hp} {i : Nat} {a c : Addr} : OwnAt (Γ.also a) ρ σ F H i c ↔ OwnAt Γ ρ σ F H i c :=
  ⟨fun ⟨s, v, L, h1, h2, h3, h4⟩ => ⟨s, v, L, h1, h2, slotOk_also.mp h3, h4⟩, fun ⟨s, v, L, h1, h2, h3, h4⟩ => ⟨s, v, L, h1, h2, slotOk_also.mpr h3, h4⟩⟩
theorem Rel.also {Γ : Gm} {ρ : Rho} {σ : St} {F H : Hp} {a : Addr} {o : HO} (R : Rel Γ ρ σ F H) (hF : F a = none) (hH : H a = some o) (no : ¬ Own Γ ρ σ F H a) : Rel (Γ.also a) ρ σ F H :=
  ⟨R.sub, fun i s q => by obtain ⟨v, L, h1, h2⟩ := R.slot i s q; exact ⟨v, L, h1, slotOk_also.mpr h2⟩, fun i j c h1 h2 => R.inj i j c (ownAt_also.mp h1) (ownAt_also.mp h2), fun i c h => ⟨(R.own i c (ownAt_also.mp h)).1, fun z => by
    rcases z with z | z
    · exact (R.own i c (ownAt_also.mp h)).2 z
    · exact no (z ▸ ⟨i, ownAt_also.mp h⟩)⟩, R.len, R.inv, fun c h => by
    rcases h with h | h
    · exact R.ali c h
    · subst h; exact ⟨hF, o, hH⟩⟩
theorem Rel.unalso {Γ : Gm} {ρ : Rho} {σ : St} {F H : Hp} {a : Addr} (R : Rel (Γ.also a) ρ σ F H) : Rel Γ ρ σ F H ∧ ¬ Own Γ ρ σ F H a :=
  ⟨⟨R.sub, fun i s q => by obtain ⟨v, L, h1, h2⟩ := R.slot i s q; exact ⟨v, L, h1, slotOk_also.mp h2⟩, fun i j c h1 h2 => R.inj i j c (ownAt_also.mpr h1) (ownAt_also.mpr h2), fun i c h => ⟨(R.own i c (ownAt_also.mpr h)).1, fun z => (R.own i c (ownAt_also.mpr h)).2 (.inl z)⟩, R.len, R.inv, fun c h => R.ali c (.inl h)⟩, fun ⟨i, h⟩ => (R.own i a (ownAt_also.mpr h)).2 (.inr rfl)⟩
theorem Stp.unalso {Γ : Gm} {ρ ρ' : Rho} {σ σ' : St} {F H F' H' : Hp} {a : Addr} (s : Stp (Γ.also a) ρ σ F H ρ' σ' F' H') : Stp Γ ρ σ F H ρ' σ' F' H' ∧ H' a = H a ∧ F' a = none ∧ ¬ Own Γ ρ' σ' F' H' a :=
  ⟨⟨s.rel.unalso.1, s.subF, fun c h => s.keep c (.inl h), s.there⟩, s.keep a (.inr rfl), (s.rel.ali a (.inr rfl)).1, s.rel.unalso.2⟩
/-- a new cell outside is changed -/
theorem Stp.out {Γ : Gm} {ρ₀ ρ : Rho} {σ₀ σ : St} {F₀ H₀ F H : Hp} {a : Addr} {o : HO} (s : Stp Γ ρ₀ σ₀ F₀ H₀ ρ σ F H) (h0 : H₀ a = none) (hu : ¬ Γ.U a) (hF : F a = none) (no : ¬ Own Γ ρ σ F H a) : Stp Γ ρ₀ σ₀ F₀ H₀ ρ σ F (upd H a o) ∧ ¬ Own Γ ρ σ F (upd H a o) a := by
  have kp : ∀ j b, OwnAt Γ ρ σ F H j b → ∀ u, H b = some u → upd H a o b = some u := fun j b ob u q => by rw [upd_ne (fun z : b = a => no (z ▸ ⟨j, ob⟩))]; exact q
  have bk : ∀ j c, OwnAt Γ ρ σ F (upd H a o) j c → OwnAt Γ ρ σ F H j c := fun j c q => own_back s.rel (Same.refl _) j (fun _ q => q) rfl (kp j) q
  refine ⟨⟨⟨fun b u q => by rw [upd_ne (ne_of_none q hF)]; exact s.rel.sub b u q, fun i sl q => slot_keep s.rel (Same.refl _) i q rfl (kp i), fun i j c h1 h2 => s.rel.inj i j c (bk i c h1) (bk j c h2), fun i c h => s.rel.own i c (bk i c h), s.rel.len, s.rel.inv, fun c h => ?_⟩, s.subF, fun c h => ?_, fun b u q => ?_⟩, fun ⟨j, q⟩ => no ⟨j, bk j a q⟩⟩
  · obtain ⟨h1, u, h2⟩ := s.rel.ali c h
    exact ⟨h1, u, by rw [upd_ne (fun z : c = a => hu (z ▸ h))]; exact h2⟩
  · rw [upd_ne (fun z : c = a => hu (z ▸ h))]; exact s.keep c h
  · rw [upd_ne (ne_of_none q h0)]; exact s.there b u q
def TgV (Γ : Gm) (g : TG) (f : Tg) (vs : List Nat) : Prop := ∀ v d ρ ρ' σ F H Q, Rel Γ ρ σ F H → Dp Γ.G F v d → f d ρ = some ρ' → (∀ σ', Stp Γ ρ σ F H ρ' σ' F H → (∀ i, i ∉ vs → σ'[i]? = σ[i]?) → σ'.length = σ.length → Q σ' H) → g v σ H Q
def TgsV (Γ : Gm) (g : TGs) (f : Tgs) (vs : List Nat) : Prop := ∀ us ds ρ ρ' σ F H Q, Rel Γ ρ σ F H → DpL Γ.G F us ds → f ds ρ = some ρ' → (∀ σ', Stp Γ ρ σ F H ρ' σ' F H → (∀ i, i ∉ vs → σ'[i]? = σ[i]?) → σ'.length = σ.length → Q σ' H) → g us σ H Q
theorem tv_name {Γ : Gm} {i : Nat} {vs : List Nat} (hi : i ∈ vs) : TgV Γ (gName i) (gN i) vs := by
  intro v d ρ ρ' σ F H Q R h e k
  unfold gN at e
  split at e
  · rename_i hl
    cases e
    exact k _ ((Stp.refl R).setV hl h) (fun j hj => by rw [List.getElem?_set_ne (fun z : i = j => hj (z ▸ hi))]) (by simp)
  · cases e
theorem tvs_nil {Γ : Gm} {vs : List Nat} : TgsV Γ gNil gsNil vs := by
  intro us ds ρ ρ' σ F H Q R h e k
  unfold gsNil at e
  split at e
  · cases e; cases h; exact ⟨rfl, k σ (.refl R) (fun _ _ => rfl) rfl⟩
  · cases e
theorem tvs_cons {Γ : Gm} {t : TG} {u : TGs} {f : Tg} {g : Tgs} {vs : List Nat} (h1 : TgV Γ t f vs) (h2 : TgsV Γ u g vs) : TgsV Γ (gCons t u) (gsCons f g) vs := by
  intro us ds ρ ρ' σ F H Q R h e k
  unfold gsCons at e
  split at e
  · rename_i d ds
    obtain ⟨ρ1, e1, e2⟩ := Option.bind_eq_some_iff.mp e
    cases h with
    | cons ha hb => exact ⟨_, _, rfl, h1 _ d ρ ρ1 σ F H _ R ha e1 fun σ1 s1 w1 l1 => h2 _ ds ρ1 ρ' σ1 F H Q s1.rel hb e2 fun σ2 s2 w2 l2 => k σ2 (s1.trans s2) (fun i hi => (w2 i hi).trans (w1 i hi)) (l2.trans l1)⟩
  · cases e
theorem tv_tup {Γ : Gm} {u : TGs} {g : Tgs} {n : Nat} {vs : List Nat} (h2 : TgsV Γ u g vs) : TgV Γ (gTup Γ.G.K n u) (gT n g) vs := by
  intro v d ρ ρ' σ F H Q R h e k
  unfold gT at e
  split at e
  · rename_i ds
    split at e
    · rename_i hn
      cases h with
      | tup hs t => exact ⟨_, _, rfl, sqT_ext hs R.sub, by rw [t.length]; exact hn, h2 _ ds ρ ρ' σ F H Q R t e k⟩
    · cases e
  · cases e
/-- the turns of a comprehension: the slots vs are its own -/
def lcD (vs : List Nat) (f : Tg) (t : MB) (me : M) : List D → List D → Rho → Out (List D)
  | [], acc, ρ => .ok acc ρ
  | d :: ds, acc, ρ => match f d ρ with
    | some ρ1 => (match t ρ1 with
      | .ok true ρ2 => (match me ρ2 with
        | .ok r ρ3 => (match settle r.frz ρ3 with
          | some (y, ρ4) => if acc.length < sizeLine then lcD vs f t me ds (acc ++ [y]) (wipeR ρ4 vs) else .stuck
          | none => .stuck)
        | _ => .stuck)
      | .ok false ρ2 => lcD vs f t me ds acc (wipeR ρ2 vs)
      | _ => .stuck)
    | none => .stuck
def mLc (vs : List Nat) (mi : MI) (f : Tg) (t : MB) (me : M) : M := fun ρ => bindO (mi ρ) fun ds ρ1 => match lcD vs f t me ds [] (wipeR ρ1 vs) with
  | .ok acc ρ2 => .ok (.new (.lst acc)) ρ2
  | _ => .stuck
abbrev W0 : WX := fun _ _ _ _ => False
theorem wipe_idem {σ σ2 : St} {vs : List Nat} (h : ∀ i, i ∉ vs → σ2[i]? = (wipe σ vs)[i]?) (hl : σ2.length = (wipe σ vs).length) : wipe σ2 vs = wipe σ vs := by
  have key : ∀ (τ : St) (ws : List Nat) (i : Nat), i ∈ ws → i < τ.length → (wipe τ ws)[i]? = some none := fun τ ws => by
    induction ws with
    | nil => intro i h; cases h
    | cons w ws ih =>
      intro i h hi
      unfold wipe
      by_cases e : w = i
      · subst e; rw [List.getElem?_set_self (by rw [wipe_length]; exact hi)]
      · rw [List.getElem?_set_ne e]
        rcases List.mem_cons.mp h with z | z
        · exact absurd z.symm e
        · exact ih i z hi
  rw [wipe_length] at hl
  refine List.ext_getElem? fun i => ?_
  by_cases hi : i ∈ vs
  · rcases Nat.lt_or_ge i σ.length with hl' | hl'
    · rw [key σ2 vs i hi (by omega), key σ vs i hi hl']
    · rw [List.getElem?_eq_none (by rw [wipe_length]; omega), List.getElem?_eq_none (by rw [wipe_length]; omega)]
  · rw [wipe_out hi, h i hi]
theorem wipeR_idem (r : Rho) (vs : List Nat) : wipeR (wipeR r vs) vs = wipeR r vs := by
  refine List.ext_getElem? fun i => ?_
  have key : ∀ (τ : Rho) (ws : List Nat) (i : Nat), i ∈ ws → i < τ.length → (wipeR τ ws)[i]? = some none := fun τ ws => by
    induction ws with
    | nil => intro i h; cases h
    | cons w ws ih =>
      intro i h hi
      unfold wipeR
      by_cases e : w = i
      · subst e; rw [List.getElem?_set_self (by rw [wipeR_len]; exact hi)]
      · rw [List.getElem?_set_ne e]
        rcases List.mem_cons.mp h with z | z
        · exact absurd z.symm e
        · exact ih i z hi
  have out : ∀ (τ : Rho) (ws : List Nat) (i : Nat), i ∉ ws → (wipeR τ ws)[i]? = τ[i]? := fun τ ws => by
    induction ws with
    | nil => intro i h; rfl
    | cons w ws ih =>
      intro i h
      unfold wipeR
      rw [List.getElem?_set_ne (fun z : w = i => h (z ▸ List.mem_cons_self ..))]
      exact ih i fun z => h (List.mem_cons_of_mem _ z)
  by_cases hi : i ∈ vs
  · rcases Nat.lt_or_ge i r.length with hl' | hl'
    · rw [key _ vs i hi (by rw [wipeR_len]; exact hl'), key r vs i hi hl']
    · rw [List.getElem?_eq_none (by rw [wipeR_len, wipeR_len]; omega), List.getElem?_eq_none (by rw [wipeR_len]; omega)]
  · rw [out _ vs i hi]
theorem lc_ok {Γ : Gm} {g : TG} {f : Tg} {t : MB} {me : M} {vs : List Nat} {J : It} {ds acc : List D} {ρ ρ2 : Rho} {σ : St} {F H : Hp} {Qd : Addr → Hp → Prop} (hf : ∀ D, TgV (Γ.also D) g f vs) (R : Rel Γ ρ σ F H) (w : Wlk Γ.G J F ds) (e : lcD vs f t me ds [] (wipeR ρ vs) = .ok acc ρ2)
    (k : ∀ D F' H', Stp Γ ρ σ F H ρ2 σ F' H' → Cell Γ.G F' H' D (.lst acc) → Fresh Γ ρ2 σ F' H' [D] → Qd D H') :
    ∀ D, H D = none → ∃ V : Nat → Nat → Hp → Prop, (∃ m, V 0 m (upd H D (.lst []))) ∧ ∀ i m H, V i m H →
      (J.stop i H ∧ Qd D H) ∨ (J.go i H ∧ ∃ Nx : Hp → Prop, (∀ H', Nx H' → ∃ m', m' < m ∧ V (i + 1) m' H') ∧ ∀ x H', J.yld i H x H' → g x (wipe σ vs) H' fun σ2 H2 => wipe σ2 vs = wipe σ vs ∧ (∃ D', tMB (Γ.also D') W0 t σ2 H2 fun b H3 =>
        if b = true then (∃ D', tF (Γ.also D') W0 me σ2 H3 fun y H4 => ∃ acc, H4 D = some (.lst acc) ∧ acc.length < sizeLine ∧ Nx (upd H4 D (.lst (acc ++ [y])))) else Nx H3)) := by
  intro D hD
  have wl : (wipe σ vs).length = σ.length := wipe_length σ vs
  have s0 : Stp Γ ρ σ F H (wipeR ρ vs) (wipe σ vs) F H := (Stp.refl R).wipe (fun i hi => wipe_out hi) wl
  have uD : ¬ Γ.U D := fun z => by
    obtain ⟨_, u, hu⟩ := R.ali D z; rw [hD] at hu; cases hu
  have nD0 : ¬ Own Γ (wipeR ρ vs) (wipe σ vs) F H D := fun ⟨j, z⟩ => by
    obtain ⟨u, hu⟩ := Rel.ownH z; rw [hD] at hu; cases hu
  -- the state between two turns
  let St' : Nat → Hp → Prop := fun i H' => ∃ ρ' F' ac av, Stp Γ ρ σ F H ρ' (wipe σ vs) F' H' ∧ wipeR ρ' vs = ρ' ∧ H' D = some (.lst av) ∧ F' D = none ∧ ¬ Own Γ ρ' (wipe σ vs) F' H' D ∧ DpL Γ.G F' av ac ∧ lcD vs f t me (ds.drop i) ac ρ' = .ok acc ρ2
  obtain ⟨s0', nD0'⟩ := s0.out (o := .lst []) hD uD (Same.free R.sub hD) nD0
  refine ⟨fun i m H' => m = ds.length - i ∧ i ≤ ds.length ∧ St' i H', ⟨ds.length, by simp, Nat.zero_le _, wipeR ρ vs, F, [], [], s0', wipeR_idem ρ vs, upd_same, Same.free R.sub hD, nD0', .nil, by simpa using e⟩, ?_⟩
  rintro i m H1 ⟨rfl, hi, ρ1, F1, ac, av, s1, wρ, hD1, fD1, nD1, dp, e1⟩
  have wF := w.mono s1.subF
  by_cases hlt : i < ds.length
  · refine .inr ⟨wF.go i H1 s1.rel.sub hlt, St' (i + 1), fun H2 q => ⟨ds.length - (i + 1), by omega, rfl, hlt, q⟩, fun x H2 y => ?_⟩
    obtain ⟨d, hd, hy⟩ := wF.yld i H1 x H2 s1.rel.sub hlt y
    obtain ⟨F2, al, dpx⟩ := hy F1 (Same.refl _) s1.rel.sub
    have ed : ds.drop i = d :: ds.drop (i + 1) := by
      rw [List.getElem?_eq_getElem hlt] at hd
      rw [← Option.some.inj hd]
      exact List.drop_eq_getElem_cons hlt
    rw [ed] at e1
    simp only [lcD] at e1
    cases ef : f d ρ1 with
    | none => rw [ef] at e1; cases e1
    | some ρ3 =>
      rw [ef] at e1
      simp only at e1
      have R1 : Rel (Γ.also D) ρ1 (wipe σ vs) F1 H1 := s1.rel.also fD1 hD1 nD1
      have s2 := al.stp R1
      refine hf D x d ρ1 ρ3 (wipe σ vs) F2 H2 _ s2.rel dpx ef fun σ3 s3 w3 l3 => ⟨wipe_idem w3 l3, D, ρ3, F2, s3.rel, ?_⟩
      have s13 := s2.trans s3
      cases et : t ρ3 with
      | ok b ρ4 =>
        rw [et] at e1
        intro F4 H4 s4
        have s14 := s13.trans s4
        cases b with
        | true =>
          simp only at e1
          simp only [if_true]
          refine ⟨D, ρ4, F4, s4.rel, ?_⟩
          cases em : me ρ4 with
          | ok r ρ5 =>
            rw [em] at e1
            simp only at e1
            cases es : settle r.frz ρ5 with
            | none => rw [es] at e1; cases e1
            | some p =>
              obtain ⟨yd, ρ6⟩ := p
              rw [es] at e1
              simp only at e1
              split at e1
              · rename_i hz
                intro v F5 H5 s5 hv
                obtain ⟨F6, s6, hd6⟩ := settle_ok s5.rel hv es
                have s16 := (s14.trans s5).trans s6
                obtain ⟨u1, u2, u3, u4⟩ := s16.unalso
                refine ⟨av, by rw [u2]; exact hD1, by rw [dp.length]; exact hz, ?_⟩
                have sw := (s1.trans u1).wipe (vs := vs) (σ' := wipe σ vs) (fun j hj => (w3 j hj).symm) l3.symm
                have nO : ¬ Own Γ (wipeR ρ6 vs) (wipe σ vs) F6 H5 D := fun z => u4 ((u1.rel.wipe (vs := vs) (σ' := wipe σ vs) (fun j hj => (w3 j hj).symm) l3.symm).2 D z)
                obtain ⟨so, no⟩ := sw.out (o := .lst (av ++ [v])) hD uD u3 nO
                exact ⟨wipeR ρ6 vs, F6, ac ++ [yd], av ++ [v], so, wipeR_idem ρ6 vs, upd_same, u3, no, (dp.mono s16.subF).append (.cons hd6 .nil), e1⟩
              · cases e1
          | exc x ρ5 => rw [em] at e1; cases e1
          | stuck => rw [em] at e1; cases e1
        | false =>
          simp only at e1
          simp only [Bool.false_eq_true, if_false]
          obtain ⟨u1, u2, u3, u4⟩ := s14.unalso
          have sw := (s1.trans u1).wipe (vs := vs) (σ' := wipe σ vs) (fun j hj => (w3 j hj).symm) l3.symm
          exact ⟨wipeR ρ4 vs, F4, ac, av, sw, wipeR_idem ρ4 vs, by rw [u2]; exact hD1, u3, fun z => u4 ((u1.rel.wipe (vs := vs) (σ' := wipe σ vs) (fun j hj => (w3 j hj).symm) l3.symm).2 D z), dp.mono s14.subF, e1⟩
      | exc x ρ4 => rw [et] at e1; cases e1
      | stuck => rw [et] at e1; cases e1
  · have ei : i = ds.length := by omega
    subst ei
    rw [List.drop_length] at e1
    simp only [lcD, Out.ok.injEq] at e1
    obtain ⟨rfl, rfl⟩ := e1
    have sw : Stp Γ ρ σ F H ρ1 σ F1 H1 := by
      have q := s1.wipe (vs := vs) (σ' := σ) (fun j hj => (wipe_out hj).symm) wl.symm
      rwa [wρ] at q
    refine .inl ⟨wF.stop _ H1 s1.rel.sub (Nat.le_refl _), k D F1 H1 sw ⟨av, hD1, dp⟩ fun b hb => ?_⟩
    obtain rfl : b = D := by simpa using hb
    refine ⟨fD1, uD, fun z => ?_⟩
    have q := (s1.rel.wipe (vs := vs) (σ' := σ) (fun j hj => (wipe_out hj).symm) wl.symm).2 b
    rw [wρ] at q
    exact nD1 (q z)
/-- over any outer cell -/
def tAB (Γ : Gm) (t : MB) : TT := fun σ H Q => ∃ D, tMB (Γ.also D) W0 t σ H Q
def tAF (Γ : Gm) (m : M) : TE := fun σ H Q => ∃ D, tF (Γ.also D) W0 m σ H Q
section
variable {X : Cx} {Γ : Gm} {W : WX} {elt tg iter : Expr} {ifs : List Expr} {scope : Scope} {own : List (Str × Nat)} {pos spos : Pos} {mi : MI} {g : TG} {f : Tg} {t : MB} {me : M}
theorem mLc_ok (hf : ∀ D, TgV (Γ.also D) g f (own.map (·.2))) : ∀ σ H Q, tM Γ W (mLc (own.map (·.2)) mi f t me) σ H Q → tLc (iM Γ W mi) g (tAB Γ t) (tAF Γ me) (own.map (·.2)) σ H Q := fun σ H Q ⟨ρ, F, R, p⟩ => by
  refine ⟨ρ, F, R, ?_⟩
  unfold mLc at p
  cases e : mi ρ with
  | ok ds ρ1 =>
    rw [e] at p
    simp only [bindO] at p
    intro J F1 H1 s1 w
    split at p
    · rename_i acc ρ2 el
      exact lc_ok (Qd := fun D H' => Q (.ref D) H') hf s1.rel w el fun D F' H' s2 c fr => p _ F' H' (s1.trans s2) ⟨D, [D], rfl, .flat c, fr⟩
    · exact p.elim
  | exc x ρ1 => rw [e] at p; exact p
  | stuck => rw [e] at p; exact p.elim
def mYes : MB := fun ρ => .ok true ρ
theorem _root_.L2.PTs.imp {X : Cx} {e : List Expr} {t t' : TT} (h : PTs X e t) (i : ∀ σ H Q, t' σ H Q → t σ H Q) : PTs X e t' := ⟨fun pins s σ H Q I q => h.run pins s σ H Q I (i _ _ _ q)⟩
theorem jts_nil {X : Cx} {Γ : Gm} : PTs X [] (tMB Γ W0 mYes) := pts_nil.imp fun σ H Q ⟨ρ, F, R, p⟩ => p F H (.refl R)
theorem jts_one {X : Cx} {Γ : Gm} {c : Expr} {t : MB} (h : PT X c (tMB Γ W0 t)) : PTs X [c] (tMB Γ W0 t) := pts_one h
theorem pts_any {X : Cx} {Γ : Gm} {ifs : List Expr} {t : MB} (h : ∀ D, PTs X ifs (tMB (Γ.also D) W0 t)) : PTs X ifs (tAB Γ t) := ⟨fun pins s σ H Q I ⟨D, q⟩ => (h D).run pins s σ H Q I q⟩
theorem pe_any {X : Cx} {Γ : Gm} {e : Expr} {m : M} (h : ∀ D, PE X e (tM (Γ.also D) W0 m)) : PE X e (tAF Γ m) := ⟨fun pins s σ H Q I ⟨D, q⟩ => (je_f (h D)).run pins s σ H Q I q⟩
theorem je_lc (hc : X.calm = true) (hN : X.N.Nodup) (hi : PI X tg iter (iM Γ W mi)) (ok : BlkOk X.N X.env.scope scope own) (hf : ∀ D, TgV (Γ.also D) g f (own.map (·.2)))
    (hg : ∀ (s : Shared) (H : Hp) (C : Addr) (cl : List (Str × Addr)) (fp : List Addr), PG (X.blk s H scope (compEnvC scope cl C X.env) fp) tg g) (ht : ∀ (D : Addr) (s : Shared) (H : Hp) (C : Addr) (cl : List (Str × Addr)) (fp : List Addr), PTs (X.blk s H scope (compEnvC scope cl C X.env) fp) ifs (tMB (Γ.also D) W0 t))
    (he : ∀ (D : Addr) (s : Shared) (H : Hp) (C : Addr) (cl : List (Str × Addr)) (fp : List Addr), PE (X.blk s H scope (compEnvC scope cl C X.env) fp) elt (tM (Γ.also D) W0 me)) (hs : ∀ x, foldedSetIterable iter X.env x = pure x := by intro _; rfl) :
    PE X (.ListComp elt [⟨tg, iter, ifs, 0⟩] scope pos) (tM Γ W (mLc (own.map (·.2)) mi f t me)) :=
  (pe_lc hc hN hi ok hg (fun s H C cl fp => pts_any fun D => ht D s H C cl fp) (fun s H C cl fp => pe_any fun D => he D s H C cl fp) hs).imp (mLc_ok hf)
/-- y = [..] on one line -/
theorem js_setLc {i : Nat} {y : Str} {py : Pos} (hc : X.calm = true) (hN : X.N.Nodup) (hyl : X.env.scope.names.lookup y = some .local)
    (hsw : swapsWith (.ListComp elt [⟨tg, iter, ifs, 0⟩] scope pos) (some (.Name y py)) spos.line X.env = pure true) (hi : PI X tg iter (iM Γ W mi)) (ok : BlkOk X.N X.env.scope scope own) (hf : ∀ D, TgV (Γ.also D) g f (own.map (·.2)))
    (hg : ∀ (s : Shared) (H : Hp) (C : Addr) (cl : List (Str × Addr)) (fp : List Addr), PG (X.blk s H scope (compEnvC scope cl C X.env) fp) tg g) (ht : ∀ (D : Addr) (s : Shared) (H : Hp) (C : Addr) (cl : List (Str × Addr)) (fp : List Addr), PTs (X.blk s H scope (compEnvC scope cl C X.env) fp) ifs (tMB (Γ.also D) W0 t))
    (he : ∀ (D : Addr) (s : Shared) (H : Hp) (C : Addr) (cl : List (Str × Addr)) (fp : List Addr), PE (X.blk s H scope (compEnvC scope cl C X.env) fp) elt (tM (Γ.also D) W0 me)) (hy : X.N[i]? = some y := by rfl) (hs : ∀ x, foldedSetIterable iter X.env x = pure x := by intro _; rfl) :
    PS X (.Assign [.Name y py] (.ListComp elt [⟨tg, iter, ifs, 0⟩] scope pos) spos) (tMS Γ W (mSet i (mLc (own.map (·.2)) mi f t me))) :=
  (ps_setLc hc hN hy hyl hsw hi ok hg (fun s H C cl fp => pts_any fun D => ht D s H C cl fp) (fun s H C cl fp => pe_any fun D => he D s H C cl fp) hs).imp fun D σ H ⟨ρ, F, R, p⟩ => mLc_ok hf σ H _ ⟨ρ, F, R, p.bindM fun r ρ1 v F1 H1 s1 hr p1 => set_go s1 hr p1⟩
end
end PyD

namespace PyD
open PySem PySem.Spec PyProof.Rows L2

/-! ### built-ins -/
def OrC (r r' : List V → Hp → VK → Prop) : List V → Hp → VK → Prop := fun xs H Q => r xs H Q ∨ r' xs H Q
def orC (f g : List D → Option Res) : List D → Option Res := fun a => match f a with
  | some r => some r
  | none => g a
theorem CallOk.or {G : Gx} {r r' : List V → Hp → VK → Prop} {f g : List D → Option Res} (h : CallOk G r f) (h' : CallOk G r' g) : CallOk G (OrC r r') (orC f g) := fun F H xs ds res Q e v q k => by
  unfold orC at q
  split at q
  · rename_i z w
    cases q
    exact .inl (h F H xs ds _ Q e v w k)
  · exact .inr (h' F H xs ds res Q e v q k)
theorem Views.one {G : Gx} {F H : Hp} {xs : List V} {d : D} (v : Views G F H xs [d]) : ∃ x, xs = [x] ∧ View G F H x d := by
  cases v with | cons h t => cases t; exact ⟨_, rfl, h⟩
theorem Views.two {G : Gx} {F H : Hp} {xs : List V} {d e : D} (v : Views G F H xs [d, e]) : ∃ x y, xs = [x, y] ∧ View G F H x d ∧ View G F H y e := by
  cases v with | cons h t => cases t with | cons h2 t => cases t; exact ⟨_, _, rfl, h, h2⟩
def lenN : D → Option Nat
  | .str z => if z.length ≤ sizeLine then some z.length else none
  | .lst xs => some xs.length
  | .tup xs => some xs.length
  | .scr xs => some xs.length
  | .dct xs => some xs.length
  | _ => none
def lenD : List D → Option Res
  | [d] => (lenN d).map fun n => .val (.int (n : Nat))
  | _ => none
def rLenD (K : PySem.W.Frag) : List V → Hp → VK → Prop := OrC (fun xs H Q => ∃ x n, xs = [x] ∧ LenV K x H n ∧ Q (.int n) H) (fun xs H Q => ∃ a kvs, xs = [V.ref a] ∧ H a = some (.dK kvs) ∧ Q (.int kvs.length) H)
theorem call_lenAll {X : Cx} : CallR X (.builtin "len") (rLenD X.K) := call_len.or call_lenD
theorem lenD_ok {G : Gx} : CallOk G (rLenD G.K) lenD := by
  intro F H xs ds res Q e v q k
  unfold lenD at q
  split at q
  · rename_i d
    obtain ⟨n, h, rfl⟩ := Option.map_eq_some_iff.mp q
    obtain ⟨x, rfl, vx⟩ := v.one
    have kk := fun (m : Nat) (h : m = n) => k (.int (m : Nat)) F H (.refl e) (by rw [h]; exact .int _)
    cases d with
    | str z =>
      simp only [lenN] at h
      split at h
      · cases h; exact .inl ⟨_, _, rfl, by rw [vx.str]; exact ⟨by assumption, rfl⟩, kk _ rfl⟩
      · cases h
    | lst xs =>
      simp only [lenN, Option.some.injEq] at h
      obtain ⟨a, vs, rfl, h1, t⟩ := vx.lst e
      exact .inl ⟨_, _, rfl, .inl ⟨vs, SqL.of h1, rfl⟩, kk _ (by rw [t.length]; exact h)⟩
    | tup xs =>
      simp only [lenN, Option.some.injEq] at h
      obtain ⟨a, vs, rfl, h1, t⟩ := vx.tup e
      exact .inl ⟨_, _, rfl, .inr ⟨vs, h1, rfl⟩, kk _ (by rw [t.length]; exact h)⟩
    | scr xs =>
      simp only [lenN, Option.some.injEq] at h
      obtain ⟨a, rfl, h1⟩ := vx.scr e
      exact .inl ⟨_, _, rfl, .inl ⟨_, h1, rfl⟩, kk _ (by simpa using h)⟩
    | dct xs =>
      simp only [lenN, Option.some.injEq] at h
      obtain ⟨a, vs, rfl, h1, t⟩ := vx.dct e
      exact .inr ⟨_, _, rfl, h1, kk _ (by rw [t.length]; exact h)⟩
    | _ => simp [lenN] at h
  · cases q
def intD : List D → Option Res
  | [.int i] => some (.val (.int i))
  | [.bl b] => some (.val (.int (if b then 1 else 0)))
  | _ => none
theorem intD_ok {G : Gx} : CallOk G (fun xs H Q => (∃ i, xs = [.int i] ∧ Q (.int i) H) ∨ ∃ k, xs = [.bl k] ∧ Q (.int (if k then 1 else 0)) H) intD := by
  intro F H xs ds res Q e v q k
  unfold intD at q
  split at q
  · rename_i i
    cases q
    obtain ⟨x, rfl, vx⟩ := v.one
    exact .inl ⟨i, by rw [vx.int], k _ F H (.refl e) (.int _)⟩
  · rename_i b
    cases q
    obtain ⟨x, rfl, vx⟩ := v.one
    exact .inr ⟨b, by rw [vx.bl], k _ F H (.refl e) (.int _)⟩
  · cases q
def fI2 (g : Int → Int → Int) : List D → Option Res
  | [.int i, .int j] => some (.val (.int (g i j)))
  | _ => none
theorem fI2_ok {G : Gx} {g : Int → Int → Int} : CallOk G (fun xs H Q => ∃ i j, xs = [.int i, .int j] ∧ Q (.int (g i j)) H) (fI2 g) := by
  intro F H xs ds res Q e v q k
  unfold fI2 at q
  split at q
  · rename_i i j
    cases q
    obtain ⟨x, y, rfl, vx, vy⟩ := v.two
    exact ⟨i, j, by rw [vx.int, vy.int], k _ F H (.refl e) (.int _)⟩
  · cases q
def maxD : List D → Option Res := fI2 fun i j => if j > i then j else i
def minD : List D → Option Res := fI2 fun i j => if j < i then j else i
def absD : List D → Option Res
  | [.int i] => some (.val (.int (if i < 0 then -i else i)))
  | _ => none
theorem absD_ok {G : Gx} : CallOk G (fun xs H Q => ∃ i, xs = [.int i] ∧ Q (.int (if i < 0 then -i else i)) H) absD := by
  intro F H xs ds res Q e v q k
  unfold absD at q
  split at q
  · rename_i i
    cases q
    obtain ⟨x, rfl, vx⟩ := v.one
    exact ⟨i, by rw [vx.int], k _ F H (.refl e) (.int _)⟩
  · cases q
/-- lists of bools, ints, texts -/
def blsD : List D → Option (List Bool)
  | [] => some []
  | .bl b :: ds => (blsD ds).map (b :: ·)
  | _ => none
theorem bls_ok {G : Gx} {F : Hp} : ∀ {vs : List V} {ds : List D} {bs : List Bool}, DpL G F vs ds → blsD ds = some bs → vs = bs.map V.bl
  | _, _, _, .nil, e => by simp only [blsD, Option.some.injEq] at e; subst e; rfl
  | _, _, _, .cons (d := d) h t, e => by
    cases d with
    | bl b =>
      simp only [blsD, Option.map_eq_some_iff] at e
      obtain ⟨bs, e1, rfl⟩ := e
      cases h
      simp [bls_ok t e1]
    | _ => simp [blsD] at e
def intsD : List D → Option (List Int)
  | [] => some []
  | .int b :: ds => (intsD ds).map (b :: ·)
  | _ => none
theorem ints_ok {G : Gx} {F : Hp} : ∀ {vs : List V} {ds : List D} {bs : List Int}, DpL G F vs ds → intsD ds = some bs → vs = bs.map V.int
  | _, _, _, .nil, e => by simp only [intsD, Option.some.injEq] at e; subst e; rfl
  | _, _, _, .cons (d := d) h t, e => by
    cases d with
    | int b =>
      simp only [intsD, Option.map_eq_some_iff] at e
      obtain ⟨bs, e1, rfl⟩ := e
      cases h
      simp [ints_ok t e1]
    | _ => simp [intsD] at e
def strsD : List D → Option (List Str)
  | [] => some []
  | .str b :: ds => (strsD ds).map (b :: ·)
  | _ => none
theorem strs_ok {G : Gx} {F : Hp} : ∀ {vs : List V} {ds : List D} {bs : List Str}, DpL G F vs ds → strsD ds = some bs → vs = bs.map V.str
  | _, _, _, .nil, e => by simp only [strsD, Option.some.injEq] at e; subst e; rfl
  | _, _, _, .cons (d := d) h t, e => by
    cases d with
    | str b =>
      simp only [strsD, Option.map_eq_some_iff] at e
      obtain ⟨bs, e1, rfl⟩ := e
      cases h
      simp [strs_ok t e1]
    | _ => simp [strsD] at e
def allD : List D → Option Res
  | [.lst ds] => (blsD ds).map fun bs => .val (.bl (bs.all id))
  | _ => none
def anyD : List D → Option Res
  | [.lst ds] => (blsD ds).map fun bs => .val (.bl (bs.any id))
  | _ => none
def sumD : List D → Option Res
  | [.lst ds] => (intsD ds).map fun bs => .val (.int bs.sum)
  | _ => none
theorem allD_ok {G : Gx} : CallOk G (rAll G.K) allD := by
  intro F H xs ds res Q e v q k
  unfold allD at q
  split at q
  · rename_i ds
    obtain ⟨bs, h, rfl⟩ := Option.map_eq_some_iff.mp q
    obtain ⟨x, rfl, vx⟩ := v.one
    obtain ⟨a, vs, rfl, h1, t⟩ := vx.lst e
    exact ⟨a, bs, rfl, by rw [← bls_ok t h]; exact SqL.of h1, k _ F H (.refl e) (.bl _)⟩
  · cases q
theorem anyD_ok {G : Gx} : CallOk G (rAny G.K) anyD := by
  intro F H xs ds res Q e v q k
  unfold anyD at q
  split at q
  · rename_i ds
    obtain ⟨bs, h, rfl⟩ := Option.map_eq_some_iff.mp q
    obtain ⟨x, rfl, vx⟩ := v.one
    obtain ⟨a, vs, rfl, h1, t⟩ := vx.lst e
    exact ⟨a, bs, rfl, by rw [← bls_ok t h]; exact SqL.of h1, k _ F H (.refl e) (.bl _)⟩
  · cases q
theorem sumD_ok {G : Gx} : CallOk G (rSum G.K) sumD := by
  intro F H xs ds res Q e v q k
  unfold sumD at q
  split at q
  · rename_i ds
    obtain ⟨bs, h, rfl⟩ := Option.map_eq_some_iff.mp q
    obtain ⟨x, rfl, vx⟩ := v.one
    obtain ⟨a, vs, rfl, h1, t⟩ := vx.lst e
    exact ⟨a, bs, rfl, by rw [← ints_ok t h]; exact SqL.of h1, k _ F H (.refl e) (.int _)⟩
  · cases q
/-- list(x), tuple(x): the items alone are held -/
def listD : List D → Option Res
  | [.lst xs] => some (.new (.lst xs))
  | [.tup xs] => some (.new (.lst xs))
  | [.scr ns] => some (.new (.lst (ns.map D.int)))
  | _ => none
def tupleD : List D → Option Res
  | [.lst xs] => some (.val (.tup xs))
  | [.tup xs] => some (.val (.tup xs))
  | _ => none
theorem listD_ok {G : Gx} : CallOk G (fun xs H Q => ∃ p ys, xs = [.ref p] ∧ (SqL G.K H p ys ∨ SqT G.K H p ys) ∧ ∀ l, H l = none → Q (.ref l) (upd H l (.lst ys))) listD := by
  intro F H xs ds res Q e v q k
  unfold listD at q
  split at q
  · rename_i ds
    cases q
    obtain ⟨x, rfl, vx⟩ := v.one
    obtain ⟨a, vs, rfl, h1, t⟩ := vx.lst e
    exact ⟨a, vs, rfl, .inl (SqL.of h1), fun l hl => k _ F _ (.cell e hl) ⟨l, rfl, Same.free e hl, ⟨_, upd_same, t⟩, hl⟩⟩
  · rename_i ds
    cases q
    obtain ⟨x, rfl, vx⟩ := v.one
    obtain ⟨a, vs, rfl, h1, t⟩ := vx.tup e
    exact ⟨a, vs, rfl, .inr h1, fun l hl => k _ F _ (.cell e hl) ⟨l, rfl, Same.free e hl, ⟨_, upd_same, t⟩, hl⟩⟩
  · rename_i ns
    cases q
    obtain ⟨x, rfl, vx⟩ := v.one
    obtain ⟨a, rfl, h1⟩ := vx.scr e
    exact ⟨a, _, rfl, .inl h1, fun l hl => k _ F _ (.cell e hl) ⟨l, rfl, Same.free e hl, ⟨_, upd_same, ints_dpl _⟩, hl⟩⟩
  · cases q
theorem tupleD_ok {G : Gx} : CallOk G (fun xs H Q => ∃ p ys, xs = [.ref p] ∧ ((SqL G.K H p ys ∧ ∀ l, H l = none → Q (.ref l) (upd H l (.tup ys))) ∨ (SqT G.K H p ys ∧ Q (.ref p) H))) tupleD := by
  intro F H xs ds res Q e v q k
  unfold tupleD at q
  split at q
  · rename_i ds
    cases q
    obtain ⟨x, rfl, vx⟩ := v.one
    obtain ⟨a, vs, rfl, h1, t⟩ := vx.lst e
    exact ⟨a, vs, rfl, .inl ⟨SqL.of h1, fun l hl => k _ _ _ (.tup e hl) (.tup (SqT.of upd_same) (t.mono (Alc.tup e hl).subF))⟩⟩
  · rename_i ds
    cases q
    obtain ⟨x, rfl, vx⟩ := v.one
    have vx' := vx
    obtain ⟨a, vs, rfl, h1, t⟩ := vx.tup e
    refine ⟨a, vs, rfl, .inr ⟨h1, k _ F H (.refl e) ?_⟩⟩
    rcases vx' with h | ⟨_, _, _, c⟩
    · exact h
    · cases c with | flat c => exact c.elim
  · cases q
/-! isinstance, built-in classes -/
def tyN : D → Option String
  | .non => some "NoneType"
  | .bl _ => some "bool"
  | .int _ => some "int"
  | .str _ => some "str"
  | .lst _ => some "list"
  | .tup _ => some "tuple"
  | .dct _ => some "dict"
  | _ => none
theorem sqT_ty {K : PySem.W.Frag} {H : Hp} {a : Addr} {vs : List V} (h : SqT K H a vs) : TyX K H (.ref a) (.type "tuple") := by
  rcases h with (h | ⟨o, h⟩) | ⟨o, its, n, h1, h2, _⟩
  · exact .base (.tup h)
  · exact .fTuple h
  · exact .kTuple h1 h2
theorem tyN_ok {G : Gx} {F H : Hp} {x : V} {d : D} {t : String} (e : Same F H) (v : View G F H x d) (q : tyN d = some t) : TyX G.K H x (.type t) := by
  cases d with
  | non => cases q; rw [v.non]; exact .base .non
  | bl b => cases q; rw [v.bl]; exact .base (.bl b)
  | int b => cases q; rw [v.int]; exact .base (.int b)
  | str b => cases q; rw [v.str]; exact .base (.str b)
  | lst b => cases q; obtain ⟨a, vs, rfl, h1, _⟩ := v.lst e; exact .base (.lst h1)
  | tup b => cases q; obtain ⟨a, vs, rfl, h1, _⟩ := v.tup e; exact sqT_ty h1
  | dct b => cases q; obtain ⟨a, vs, rfl, h1, _⟩ := v.dct e; exact .base (.dK h1)
  | _ => cases q
/-- the answers among built-in types that are asked here -/
def isiT : String → String → Option Bool
  | "bool", "int" => some true
  | a, b => if a ∈ ["NoneType", "bool", "int", "str", "list", "tuple", "dict"] ∧ b ∈ ["bool", "int", "str", "list", "tuple", "dict"] then some (a == b) else none
theorem isiT_ok {K : PySem.W.Frag} {a b : String} {r : Bool} (h : isiT a b = some r) : PySem.W.kitOne K (.type a) (.type b) = some r := by
  refine kit_ty ?_
  have key : ∀ a ∈ ["NoneType", "bool", "int", "str", "list", "tuple", "dict"], ∀ b ∈ ["bool", "int", "str", "list", "tuple", "dict"], kitB a b = some (if a = "bool" ∧ b = "int" then true else a == b) := by decide +kernel
  unfold isiT at h
  split at h
  · rw [key "bool" (by decide) "int" (by decide)]; simpa using h
  · rename_i hn
    split at h
    · rename_i w
      rw [key a w.1 b w.2, ← h]
      have : ¬ (a = "bool" ∧ b = "int") := fun z => hn z.1 z.2
      simp [this]
    · cases h
/-- the program's classes: how many; which is under which; which built-in class is above; their attributes -/
structure Tab where
  n : Nat
  sub : Nat → Nat → Bool
  tys : List String
  subB : Nat → String → Bool
  flds : Nat → List Str
def baseT : List String := ["NoneType", "bool", "int", "str", "list", "tuple", "dict"]
structure TabOk (G : Gx) (T : Tab) : Prop where
  base : ∀ c, c < T.n → ∀ t ∈ baseT, PySem.W.kitOne G.K (.type t) (.ref (G.cl c)) = some false
  own : ∀ c, c < T.n → ∀ c', c' < T.n → PySem.W.kitOne G.K (.ref (G.cl c)) (.ref (G.cl c')) = some (T.sub c c')
  blt : ∀ c, c < T.n → ∀ t ∈ T.tys, PySem.W.kitOne G.K (.ref (G.cl c)) (.type t) = some (T.subB c t)
  cls : ∀ c, c < T.n → Cls G.K (G.cl c)
  ha : ∀ c, c < T.n → PySem.W.findIn G.K (.ref (G.cl c)) "__class__" = some (some (.builtin "object.__class__"))
  hn : 0 < T.n → PySem.W.specialIn G.K (.builtin "object.__class__") "__get__" = some (some (.builtin "getset_descriptor.__get__"))
  htk : 0 < T.n → PySem.W.takesIn G.K (.builtin "object.__class__") = some true
  hm : ∀ c, c < T.n → PySem.W.mroIn G.K (G.cl c) (.type "object") = some true
  fld : ∀ c, c < T.n → ∀ f ∈ T.flds c, NoAttr G.K (G.cl c) f
def isi1 (T : Tab) (x c : D) : Option Bool := match x, c with
  | .obj k _, .ty n => if k < T.n ∧ n ∈ T.tys then some (T.subB k n) else none
  | .obj k _, .cls c => if k < T.n ∧ c < T.n then some (T.sub k c) else none
  | x, .ty n => (tyN x).bind fun t => isiT t n
  | x, .cls c => if c < T.n then (tyN x).map fun _ => false else none
  | _, _ => none
def isiAny (T : Tab) (x : D) : List D → Option Bool
  | [] => some false
  | c :: cs => match isi1 T x c with
    | some true => some true
    | some false => isiAny T x cs
    | none => none
def isiD (T : Tab) : List D → Option Res
  | [x, .tup cs] => (isiAny T x cs).map fun b => .val (.bl b)
  | [x, c] => (isi1 T x c).map fun b => .val (.bl b)
  | _ => none
theorem tyN_base {d : D} {t : String} (h : tyN d = some t) : t ∈ baseT := by
  cases d <;> simp [tyN] at h <;> subst h <;> decide
def tyVal (G : Gx) : D → Option Value
  | .obj c _ => some (.ref (G.cl c))
  | d => (tyN d).map .type
def clsVal (G : Gx) : D → Option Value
  | .ty n => some (.type n)
  | .cls c => some (.ref (G.cl c))
  | _ => none
theorem clsVal_ok {G : Gx} {F H : Hp} {x : V} {c : D} {u : Value} (h : Dp G F x c) (e : clsVal G c = some u) : ClsV x u := by
  cases c with
  | ty n => cases e; cases h; exact .ty n
  | cls n => cases e; cases h; exact .own _
  | _ => cases e
theorem isi1_ok {G : Gx} {T : Tab} (O : TabOk G T) {F H : Hp} {x : V} {d c : D} {b : Bool} (s : Same F H) (v : View G F H x d) (e : isi1 T d c = some b) : ∃ t u, TyX G.K H x t ∧ tyVal G d = some t ∧ clsVal G c = some u ∧ PySem.W.kitOne G.K t u = some b := by
  have tyobj : ∀ {k : Nat} {fs : List (Str × D)}, View G F H x (.obj k fs) → k < T.n → TyX G.K H x (.ref (G.cl k)) := fun {k fs} v hk => by
    obtain ⟨a, dx, vs, rfl, h1, _⟩ := v.obj s
    exact .base (.ins h1 (O.cls k hk) (O.ha k hk) (O.hn (by omega)) (O.htk (by omega)) (O.hm k hk))
  unfold isi1 at e
  split at e
  · rename_i k fs n
    split at e
    · rename_i w
      cases e
      exact ⟨_, _, tyobj v w.1, rfl, rfl, O.blt k w.1 n w.2⟩
    · cases e
  · rename_i k fs c
    split at e
    · rename_i w
      cases e
      exact ⟨_, _, tyobj v w.1, rfl, rfl, O.own k w.1 c w.2⟩
    · cases e
  · rename_i n hno
    obtain ⟨t, h1, h2⟩ := Option.bind_eq_some_iff.mp e
    refine ⟨_, _, tyN_ok s v h1, ?_, rfl, isiT_ok h2⟩
    cases d <;> simp [tyVal, tyN] at h1 ⊢ <;> exact h1
  · rename_i c hno
    split at e
    · rename_i w
      obtain ⟨t, h1, rfl⟩ := Option.map_eq_some_iff.mp e
      refine ⟨_, _, tyN_ok s v h1, ?_, rfl, O.base c w t (tyN_base h1)⟩
      cases d <;> simp [tyVal, tyN] at h1 ⊢ <;> exact h1
    · cases e
  · cases e
/-- the classes' values -/
def clsVals (G : Gx) : List D → Option (List Value)
  | [] => some []
  | c :: cs => match clsVal G c, clsVals G cs with
    | some u, some us => some (u :: us)
    | _, _ => none
theorem clsVals_ok {G : Gx} {F H : Hp} : ∀ {ws : List V} {cs : List D} {us : List Value}, DpL G F ws cs → clsVals G cs = some us → Paired ClsV ws us
  | _, _, _, .nil, e => by simp only [clsVals, Option.some.injEq] at e; subst e; exact .nil
  | _, _, _, .cons h t, e => by
    simp only [clsVals] at e
    split at e
    · rename_i u us e1 e2
      cases e
      exact .cons (clsVal_ok (F := F) (H := H) h e1) (clsVals_ok (H := H) t e2)
    · cases e
theorem kitAny_of {G : Gx} {T : Tab} (O : TabOk G T) {F H : Hp} {x : V} {d : D} (s : Same F H) (v : View G F H x d) : ∀ {cs : List D} {us : List Value} {b : Bool} {t : Value}, cs ≠ [] → clsVals G cs = some us → isiAny T d cs = some b → tyVal G d = some t → TyX G.K H x t ∧ PySem.W.kitAny G.K t us = some b
  | [], _, _, _, h, _, _, _ => absurd rfl h
  | c :: cs, us, b, t, _, e, q, ty => by
    simp only [clsVals] at e
    split at e
    · rename_i u us' e1 e2
      cases e
      simp only [isiAny] at q
      cases hi : isi1 T d c with
      | none => rw [hi] at q; cases q
      | some b1 =>
        obtain ⟨t', u', X1, X2, X3, X4⟩ := isi1_ok O s v hi
        rw [ty] at X2; cases X2
        rw [e1] at X3; cases X3
        refine ⟨X1, kitAny_cons X4 (fun z => ?_) fun z => ?_⟩
        · subst z
          rw [hi] at q
          simp only at q
          cases cs with
          | nil => simp only [clsVals, Option.some.injEq] at e2; subst e2; simp only [isiAny, Option.some.injEq] at q; subst q; rfl
          | cons c2 cs2 => exact (kitAny_of O s v (by simp) e2 q ty).2
        · subst z
          rw [hi] at q
          simp only [Option.some.injEq] at q
          exact q.symm
    · cases e
theorem clsVals_some {G : Gx} {T : Tab} {d : D} : ∀ {cs : List D}, (∀ c ∈ cs, (clsVal G c).isSome) → ∃ us, clsVals G cs = some us
  | [], _ => ⟨[], rfl⟩
  | c :: cs, h => by
    obtain ⟨us, e⟩ := clsVals_some (T := T) (d := d) (cs := cs) fun c' hc => h c' (List.mem_cons_of_mem _ hc)
    obtain ⟨u, e1⟩ := Option.isSome_iff_exists.mp (h c (List.mem_cons_self ..))
    exact ⟨u :: us, by simp [clsVals, e, e1]⟩
def isCls : D → Bool
  | .ty _ => true
  | .cls _ => true
  | _ => false
def isiD' (T : Tab) : List D → Option Res
  | [x, .tup cs] => if cs.all isCls && !cs.isEmpty then (isiAny T x cs).map fun b => .val (.bl b) else none
  | [x, c] => (isi1 T x c).map fun b => .val (.bl b)
  | _ => none
def rIsiS (K : PySem.W.Frag) : List V → Hp → VK → Prop := fun xs H Q => ∃ (x : V) (tp : Addr) (cs : List V) (t : Value) (us : List Value) (b : Bool), xs = [x, .ref tp] ∧ SqT K H tp cs ∧ Paired ClsV cs us ∧ TyX K H x t ∧ PySem.W.kitAny K t us = some b ∧ Q (.bl b) H
theorem call_isiS {X : Cx} : CallR X (.builtin "isinstance") (rIsiS X.K) := by
  intro pins s σ H xs us Q I r h
  obtain ⟨x, tp, cs, t, ws, b, rfl, hT, k, ty, e, q⟩ := h
  obtain ⟨u1, u2, rfl, r1, r2⟩ := vals2 r
  cases (show u2 = Value.ref tp from r2)
  obtain ⟨P, Z, p, hx⟩ := kit_of I r1 ty
  obtain ⟨its, rv, ⟨o, h1, h2, n, h3⟩, _⟩ := I.tuple hT
  have e3 := ClsV.all k rv
  subst e3
  obtain ⟨oc, od, dt, sl⟩ := o
  simp only at h2 h3
  subst h2 h3
  exact PySem.W.kia_tup Z I.kIn p h1 e hx fun tk => ⟨.bl b, H, I.tok tk, rfl, q⟩
theorem call_isiAll {X : Cx} : CallR X (.builtin "isinstance") (OrC (rIsi X.K) (rIsiS X.K)) := call_isi.or call_isiS
theorem isiD_ok {G : Gx} {T : Tab} (O : TabOk G T) : CallOk G (OrC (rIsi G.K) (rIsiS G.K)) (isiD' T) := by
  intro F H xs ds res Q e v q k
  unfold isiD' at q
  split at q
  · rename_i x cs
    split at q
    · rename_i w
      have w := Bool.and_eq_true_iff.mp w
      obtain ⟨b, h, rfl⟩ := Option.map_eq_some_iff.mp q
      obtain ⟨vx, vc, rfl, hx, hc⟩ := v.two
      obtain ⟨tp, ws, rfl, hT, t⟩ := hc.tup e
      have hall : ∀ c ∈ cs, (clsVal G c).isSome := fun c hm => by
        have z := List.all_eq_true.mp w.1 c hm
        cases c <;> simp [isCls] at z <;> simp [clsVal]
      obtain ⟨us, eu⟩ := clsVals_some (T := T) (d := x) hall
      have hne : cs ≠ [] := by intro z; subst z; simp at w
      -- the type of x
      have : ∃ tv, tyVal G x = some tv := by
        cases cs with
        | nil => exact absurd rfl hne
        | cons c cs' =>
          simp only [isiAny] at h
          cases hi : isi1 T x c with
          | none => rw [hi] at h; cases h
          | some b1 => obtain ⟨t', u', _, X2, _⟩ := isi1_ok O e hx hi; exact ⟨t', X2⟩
      obtain ⟨tv, et⟩ := this
      obtain ⟨ty, ka⟩ := kitAny_of O e hx hne eu h et
      exact .inr ⟨vx, tp, ws, tv, us, b, rfl, hT, clsVals_ok (H := H) t eu, ty, ka, k _ F H (.refl e) (.bl _)⟩
    · cases q
  · rename_i x c hno
    obtain ⟨b, h, rfl⟩ := Option.map_eq_some_iff.mp q
    obtain ⟨vx, vc, rfl, hx, hc⟩ := v.two
    obtain ⟨t, u, X1, X2, X3, X4⟩ := isi1_ok O e hx h
    have hd : Dp G F vc c := by
      rcases hc with hc | ⟨a, L, r, cl⟩
      · exact hc
      · cases cl with
        | flat cl => cases c <;> first | exact cl.elim | simp [clsVal] at X3
        | _ => simp [clsVal] at X3
    exact .inl ⟨vx, vc, t, u, b, rfl, clsVal_ok (H := H) hd X3, X1, X4, k _ F H (.refl e) (.bl _)⟩
  · cases q

/-! ### cells changed -/
/-- the tree of slot i is changed -/
theorem Rel.chg {Γ : Gm} {ρ : Rho} {σ : St} {F H H' : Hp} {i : Nat} {b : Option Nat} {d d' : D} {a : Addr} {L L' : List Addr} (R : Rel Γ ρ σ F H) (q : ρ[i]? = some (some (.own b d))) (hs : σ[i]? = some (some (.ref a))) (c : Ct Γ.G F H a d L)
    (kp : ∀ c, c ∉ L → ∀ o, H c = some o → H' c = some o) (th : ∀ c o, H c = some o → ∃ o', H' c = some o') (c' : Ct Γ.G F H' a d' L') (sb : ∀ c ∈ L', c ∈ L ∨ (F c = none ∧ ¬ Γ.U c ∧ ¬ Own Γ ρ σ F H c)) : Stp Γ ρ σ F H (ρ.set i (some (.own b d'))) σ F H' := by
  obtain ⟨a', L0, z, c0, hb, ow⟩ := R.slotO q hs
  cases z
  obtain rfl := c0.uniq c
  have il := lt_of_get q
  have nin : ∀ j, j ≠ i → ∀ e, OwnAt Γ ρ σ F H j e → e ∉ L0 := fun j hj e o z => hj (R.inj j i e o (ow e z))
  have kj : ∀ j, j ≠ i → ∀ e, OwnAt Γ ρ σ F H j e → ∀ o, H e = some o → H' e = some o := fun j hj e o u w => kp e (nin j hj e o) u w
  have me : SlotOk Γ F H' (.ref a) L' (.own b d') := ⟨a, rfl, c', hb⟩
  have bk : ∀ j e, OwnAt Γ (ρ.set i (some (.own b d'))) σ F H' j e → (j = i ∧ e ∈ L') ∨ (j ≠ i ∧ OwnAt Γ ρ σ F H j e) := fun j e o => by
    by_cases z : j = i
    · subst z; exact .inl ⟨rfl, o.of (by rw [List.getElem?_set_self il]) hs me⟩
    · exact .inr ⟨z, own_back R (Same.refl _) j (fun s w => by rwa [List.getElem?_set_ne (Ne.symm z)] at w) rfl (kj j z) o⟩
  have uL : ∀ e, Γ.U e → e ∉ L0 := fun e h z => (R.own i e (ow e z)).2 h
  refine ⟨⟨fun e u w => kp e (fun z => by rw [(R.own i e (ow e z)).1] at w; cases w) u (R.sub e u w), fun j s w => ?_, fun j k e o1 o2 => ?_, fun j e o => ?_, by simp [R.len], R.inv, fun e h => ?_⟩, Same.refl _, fun e h => ?_, th⟩
  · rcases get_set w with ⟨e, e2, _⟩ | ⟨e, w⟩
    · subst e; cases e2; exact ⟨_, L', hs, me⟩
    · exact slot_keep R (Same.refl _) j w rfl (kj j (Ne.symm e))
  · rcases bk j e o1 with ⟨e1, m1⟩ | ⟨e1, m1⟩
    · rcases bk k e o2 with ⟨e2, m2⟩ | ⟨e2, m2⟩
      · rw [e1, e2]
      · rcases sb e m1 with z | z
        · exact absurd z (nin k e2 e m2)
        · exact absurd ⟨k, m2⟩ z.2.2
    · rcases bk k e o2 with ⟨e2, m2⟩ | ⟨e2, m2⟩
      · rcases sb e m2 with z | z
        · exact absurd z (nin j e1 e m1)
        · exact absurd ⟨j, m1⟩ z.2.2
      · exact R.inj j k e m1 m2
  · rcases bk j e o with ⟨e1, m1⟩ | ⟨e1, m1⟩
    · rcases sb e m1 with z | z
      · exact R.own i e (ow e z)
      · exact ⟨z.1, z.2.1⟩
    · exact R.own j e m1
  · obtain ⟨h1, o, h2⟩ := R.ali e h
    exact ⟨h1, o, kp e (uL e h) o h2⟩
  · obtain ⟨h1, o, h2⟩ := R.ali e h
    rw [h2, kp e (uL e h) o h2]
def flatD : D → Bool
  | .lst _ => true
  | .dct _ => true
  | .obj _ _ => true
  | _ => false
theorem Ct.cell {G : Gx} {F H : Hp} {a : Addr} {d : D} {L : List Addr} (c : Ct G F H a d L) (h : flatD d = true) : Cell G F H a d ∧ L = [a] := by
  cases c with
  | flat c => exact ⟨c, rfl⟩
  | _ => cases h
theorem Rel.upd {Γ : Gm} {ρ : Rho} {σ : St} {F H : Hp} {i : Nat} {b : Option Nat} {d d' : D} {a : Addr} {o : HO} {L : List Addr} (R : Rel Γ ρ σ F H) (q : ρ[i]? = some (some (.own b d))) (hs : σ[i]? = some (some (.ref a))) (c0 : Ct Γ.G F H a d L) (fl : flatD d = true) (c : Cell Γ.G F (L2.upd H a o) a d') :
    Stp Γ ρ σ F H (ρ.set i (some (.own b d'))) σ F (L2.upd H a o) := by
  obtain ⟨_, rfl⟩ := c0.cell fl
  exact R.chg q hs c0 (fun e he u w => by rw [upd_ne (by simpa using he)]; exact w) (fun e u w => by
    by_cases z : e = a
    · subst z; exact ⟨o, upd_same⟩
    · exact ⟨u, by rw [upd_ne z]; exact w⟩) (.flat c) fun e he => .inl he
/-- a method that changes its list: the receiver's slot, the settled arguments -/
def mutR (f : D → List D → Option (D × D)) (ro : Res) (rs : List Res) (ρ : Rho) : Out Res := match ro with
  | .at i => match settles rs ρ with
    | some (ds, ρ1) => (match ρ1[i]? with
      | some (some (.own b d)) => (match f d ds with
        | some (d', z) => .ok (.val z) (ρ1.set i (some (.own b d')))
        | none => .stuck)
      | _ => .stuck)
    | none => .stuck
  | _ => .stuck
/-- r: what the rule asks; f: the cell behind, the value -/
def MutOk (G : Gx) (r : V → List V → Hp → VK → Prop) (f : D → List D → Option (D × D)) : Prop := (∀ d ds z, f d ds = some z → flatD d = true) ∧ ∀ F H a xs d ds d' z Q, Same F H → F a = none → Cell G F H a d → DpL G F xs ds → f d ds = some (d', z) →
  (∀ v o, Cell G F (L2.upd H a o) a d' → Dp G F v z → Q v (L2.upd H a o)) → r (.ref a) xs H Q
theorem mutR_ok {Γ : Gm} {W : WX} {r : V → List V → Hp → VK → Prop} {f : D → List D → Option (D × D)} {ro : Res} {rs : List Res} {ρ : Rho} {σ : St} {F H : Hp} {Q : VK} {x : V} {xs : List V} (hf : MutOk Γ.G r f) (R : Rel Γ ρ σ F H) (ho : RepF Γ.G σ F x ro) (ha : RepFs Γ.G σ F xs rs) (h : Post Γ W (mutR f ro rs ρ) ρ σ F H Q) : r x xs H Q := by
  unfold mutR at h
  split at h
  · rename_i i
    split at h
    · rename_i ds ρ1 e1
      obtain ⟨F1, s1, p1⟩ := settles_ok R ha e1
      split at h
      · rename_i b d q
        split at h
        · rename_i d' z e2
          have fl := hf.1 _ _ _ e2
          have ho : σ[i]? = some (some x) := ho
          obtain ⟨a, L, zz, c, hb, ow⟩ := s1.rel.slotO q ho
          subst zz
          obtain ⟨cc, _⟩ := c.cell fl
          exact hf.2 F1 H a xs d ds d' z Q s1.rel.sub (s1.rel.own i a (ow a c.self)).1 cc p1 e2 fun v o c' dv => h v F1 _ (s1.trans (s1.rel.upd q ho c fl c')) dv
        · exact h.elim
      · exact h.elim
    · exact h.elim
  · exact h.elim
def mMut (f : D → List D → Option (D × D)) (mo : M) (ma : MA) : M := fun ρ => bindF (mo ρ) fun o ρ1 => bindO (ma ρ1) fun rs ρ2 => mutR f o rs ρ2
/-- a method that reads: the receiver, the arguments -/
def MtOk (G : Gx) (r : V → List V → Hp → VK → Prop) (f : D → List D → Option Res) : Prop := ∀ F H x xs d ds res Q, Same F H → View G F H x d → Views G F H xs ds → f d ds = some res →
  (∀ v F' H', Alc F H F' H' → RepNew G H F' H' v res → Q v H') → r x xs H Q
def mtR (f : D → List D → Option Res) (ro : Res) (rs : List Res) (ρ : Rho) : Out Res := match resolve ρ ro, resolves ρ rs with
  | some d, some ds => (match f d ds with | some r => .ok r ρ | none => .stuck)
  | _, _ => .stuck
def mMt (f : D → List D → Option Res) (mo : M) (ma : MA) : M := fun ρ => bindF (mo ρ) fun o ρ1 => bindO (ma ρ1) fun rs ρ2 => mtR f o rs ρ2
theorem mtR_ok {Γ : Gm} {W : WX} {r : V → List V → Hp → VK → Prop} {f : D → List D → Option Res} {ro : Res} {rs : List Res} {ρ : Rho} {σ : St} {F H : Hp} {Q : VK} {x : V} {xs : List V} (hf : MtOk Γ.G r f) (R : Rel Γ ρ σ F H) (ho : RepF Γ.G σ F x ro) (ha : RepFs Γ.G σ F xs rs) (h : Post Γ W (mtR f ro rs ρ) ρ σ F H Q) : r x xs H Q := by
  unfold mtR at h
  split at h
  · rename_i d ds e1 e2
    split at h
    · rename_i res e3
      exact hf F H x xs d ds res Q R.sub (ho.view R e1) (ha.views R e2) e3 (fin_new R h)
    · exact h.elim
  · exact h.elim
end PyD

namespace PyD
open PySem PySem.Spec PyProof.Rows L2

/-! ### methods of built-in types -/
def tyOk (T : String) : D → Bool
  | .lst _ => T == "list"
  | .scr _ => T == "list"
  | .str _ => T == "str"
  | .dct _ => T == "dict"
  | _ => false
theorem tyOk_ok {G : Gx} {F H : Hp} {x : V} {d : D} {T : String} (e : Same F H) (v : View G F H x d) (h : tyOk T d = true) : tyV G.K T x H := by
  cases d with
  | lst xs => obtain ⟨a, vs, rfl, h1, _⟩ := v.lst e; exact .inl ⟨by simpa [tyOk] using h, vs, SqL.of h1⟩
  | scr xs => obtain ⟨a, rfl, h1⟩ := v.scr e; exact .inl ⟨by simpa [tyOk] using h, _, h1⟩
  | str xs => rw [v.str]; simpa [tyOk, tyV] using h
  | dct xs => obtain ⟨a, vs, rfl, h1, _⟩ := v.dct e; exact .inr (.inr (.inl ⟨by simpa [tyOk] using h, .inl ⟨vs, h1⟩⟩))
  | _ => simp [tyOk] at h
def guard {α : Type} (T : String) (o : Res) (ρ : Rho) (k : Out α) : Out α := match resolve ρ o with
  | some d => if tyOk T d then k else .stuck
  | none => .stuck
def mMutT (T : String) (f : D → List D → Option (D × D)) (mo : M) (ma : MA) : M := fun ρ => bindF (mo ρ) fun o ρ1 => guard T o ρ1 (bindO (ma ρ1) fun rs ρ2 => mutR f o rs ρ2)
def mMtT (T : String) (f : D → List D → Option Res) (mo : M) (ma : MA) : M := fun ρ => bindF (mo ρ) fun o ρ1 => guard T o ρ1 (bindO (ma ρ1) fun rs ρ2 => mtR f o rs ρ2)
theorem guard_ok {Γ : Gm} {W : WX} {T : String} {o : Res} {ρ : Rho} {k : Out Res} {σ : St} {F H : Hp} {Q : VK} {x : V} (R : Rel Γ ρ σ F H) (ho : RepF Γ.G σ F x o) (h : Post Γ W (guard T o ρ k) ρ σ F H Q) : tyV Γ.G.K T x H ∧ Post Γ W k ρ σ F H Q := by
  unfold guard at h
  split at h
  · rename_i d e
    split at h
    · rename_i w
      exact ⟨tyOk_ok R.sub (ho.view R e) w, h⟩
    · exact h.elim
  · exact h.elim
section
variable {X : Cx} {Γ : Gm} {W : WX} {o e : Expr} {es : List Expr} {mo : M} {ma : MA} {name : Str} {apos cpos : Pos} {T id : String} {r : V → List V → Hp → VK → Prop}
theorem tBM_mut {f : D → List D → Option (D × D)} (hK : X.K = Γ.G.K) (hf : MutOk Γ.G r f) : ∀ σ H Q, tM Γ W (mMutT T f mo ma) σ H Q → tBM X.K T r (tF Γ W mo) (tMA Γ W ma) σ H Q := fun σ H Q ⟨ρ, F, R, p⟩ => ⟨ρ, F, R, p.bindF fun ro ρ1 v F1 H1 s1 ho p1 => by
  obtain ⟨ty, p2⟩ := guard_ok s1.rel ho p1
  exact ⟨hK ▸ ty, ρ1, F1, s1.rel, p2.bindA fun rs ρ2 vs F2 H2 s2 hrs p3 => mutR_ok hf s2.rel (ho.mono s2.subF) hrs p3⟩⟩
theorem tBM_mt {f : D → List D → Option Res} (hK : X.K = Γ.G.K) (hf : MtOk Γ.G r f) : ∀ σ H Q, tM Γ W (mMtT T f mo ma) σ H Q → tBM X.K T r (tF Γ W mo) (tMA Γ W ma) σ H Q := fun σ H Q ⟨ρ, F, R, p⟩ => ⟨ρ, F, R, p.bindF fun ro ρ1 v F1 H1 s1 ho p1 => by
  obtain ⟨ty, p2⟩ := guard_ok s1.rel ho p1
  exact ⟨hK ▸ ty, ρ1, F1, s1.rel, p2.bindA fun rs ρ2 vs F2 H2 s2 hrs p3 => mtR_ok hf s2.rel (ho.mono s2.subF) hrs p3⟩⟩
theorem tBM0_mut {f : D → List D → Option (D × D)} (hK : X.K = Γ.G.K) (hf : MutOk Γ.G r f) : ∀ σ H Q, tM Γ W (mMutT T f mo mNil) σ H Q → tBM0 X.K T r (tF Γ W mo) σ H Q := fun σ H Q ⟨ρ, F, R, p⟩ => ⟨ρ, F, R, p.bindF fun ro ρ1 v F1 H1 s1 ho p1 => by
  obtain ⟨ty, p2⟩ := guard_ok s1.rel ho p1
  exact ⟨hK ▸ ty, mutR_ok (rs := []) hf s1.rel ho .nil p2⟩⟩
theorem tBM0_mt {f : D → List D → Option Res} (hK : X.K = Γ.G.K) (hf : MtOk Γ.G r f) : ∀ σ H Q, tM Γ W (mMtT T f mo mNil) σ H Q → tBM0 X.K T r (tF Γ W mo) σ H Q := fun σ H Q ⟨ρ, F, R, p⟩ => ⟨ρ, F, R, p.bindF fun ro ρ1 v F1 H1 s1 ho p1 => by
  obtain ⟨ty, p2⟩ := guard_ok s1.rel ho p1
  exact ⟨hK ▸ ty, mtR_ok (rs := []) hf s1.rel ho .nil p2⟩⟩
theorem je_mut {f : D → List D → Option (D × D)} (pa : PlainAttrs T) (slot : PySem.Slot T name id) (hty : typeOf (.builtin id) = pure (.type "method_descriptor")) (hm : MtR X id r) (hf : MutOk Γ.G r f) (hK : X.K = Γ.G.K) (ho : PE X o (tM Γ W mo)) (ha : PA X (e :: es) (tMA Γ W ma))
    (hbase : attributeBase o name X.env (eval o X.env) = eval o X.env := by rfl)
    (hfew : ((backTo cpos (starEach (e :: es) X.env)).all (fun x => !x.1) && (backToKw cpos (keywordEach [] X.env)).all (fun x => x.1.isSome)
      && decide ((e :: es).length + ([] : List Keyword).length + (if ([] : List Keyword).isEmpty then 0 else 1) < 30)) = true := by rfl)
    (hline : (apos.endLine == cpos.line) = true := by rfl) (hs : starEach (e :: es) X.env = (false, eval e X.env) :: starEach es X.env := by rfl) (hplain : (backTo cpos (starEach es X.env)).any (·.1) = false := by rfl) :
    PE X (.Call (.Attribute o name apos) (e :: es) [] cpos) (tM Γ W (mMutT T f mo ma)) := (pe_bm pa slot hty hm (je_f ho) ha hbase hfew hline hs hplain).imp (tBM_mut hK hf)
theorem je_mt {f : D → List D → Option Res} (pa : PlainAttrs T) (slot : PySem.Slot T name id) (hty : typeOf (.builtin id) = pure (.type "method_descriptor")) (hm : MtR X id r) (hf : MtOk Γ.G r f) (hK : X.K = Γ.G.K) (ho : PE X o (tM Γ W mo)) (ha : PA X (e :: es) (tMA Γ W ma))
    (hbase : attributeBase o name X.env (eval o X.env) = eval o X.env := by rfl)
    (hfew : ((backTo cpos (starEach (e :: es) X.env)).all (fun x => !x.1) && (backToKw cpos (keywordEach [] X.env)).all (fun x => x.1.isSome)
      && decide ((e :: es).length + ([] : List Keyword).length + (if ([] : List Keyword).isEmpty then 0 else 1) < 30)) = true := by rfl)
    (hline : (apos.endLine == cpos.line) = true := by rfl) (hs : starEach (e :: es) X.env = (false, eval e X.env) :: starEach es X.env := by rfl) (hplain : (backTo cpos (starEach es X.env)).any (·.1) = false := by rfl) :
    PE X (.Call (.Attribute o name apos) (e :: es) [] cpos) (tM Γ W (mMtT T f mo ma)) := (pe_bm pa slot hty hm (je_f ho) ha hbase hfew hline hs hplain).imp (tBM_mt hK hf)
theorem je_mut0 {f : D → List D → Option (D × D)} (pa : PlainAttrs T) (slot : PySem.Slot T name id) (hty : typeOf (.builtin id) = pure (.type "method_descriptor")) (hm : MtR X id r) (hf : MutOk Γ.G r f) (hK : X.K = Γ.G.K) (ho : PE X o (tM Γ W mo))
    (hbase : attributeBase o name X.env (eval o X.env) = eval o X.env := by rfl) (hline : (apos.endLine == cpos.line) = true := by rfl) : PE X (.Call (.Attribute o name apos) [] [] cpos) (tM Γ W (mMutT T f mo mNil)) := (pe_bm0 pa slot hty hm (je_f ho) hbase hline).imp (tBM0_mut hK hf)
theorem je_mt0 {f : D → List D → Option Res} (pa : PlainAttrs T) (slot : PySem.Slot T name id) (hty : typeOf (.builtin id) = pure (.type "method_descriptor")) (hm : MtR X id r) (hf : MtOk Γ.G r f) (hK : X.K = Γ.G.K) (ho : PE X o (tM Γ W mo))
    (hbase : attributeBase o name X.env (eval o X.env) = eval o X.env := by rfl) (hline : (apos.endLine == cpos.line) = true := by rfl) : PE X (.Call (.Attribute o name apos) [] [] cpos) (tM Γ W (mMtT T f mo mNil)) := (pe_bm0 pa slot hty hm (je_f ho) hbase hline).imp (tBM0_mt hK hf)
end
def appendD : D → List D → Option (D × D)
  | .lst xs, [y] => if xs.length < sizeLine then some (.lst (xs ++ [y]), .non) else none
  | _, _ => none
theorem appendD_ok {G : Gx} : MutOk G rAppend appendD := by
  refine ⟨fun d ds z h => by cases d <;> first | rfl | (simp [appendD] at h), ?_⟩
  intro F H a xs d ds d' z Q e n c t q k
  unfold appendD at q
  split at q
  · rename_i ys y
    split at q
    · rename_i w
      cases q
      obtain ⟨vs, h1, t1⟩ := c
      cases t with
      | cons h t' =>
        cases t'
        exact ⟨a, vs, _, rfl, rfl, h1, by rw [t1.length]; exact w, k _ _ ⟨_, upd_same, t1.append (.cons h .nil)⟩ .non⟩
    · cases q
  · cases q
def extendD : D → List D → Option (D × D)
  | .lst xs, [.lst ys] => if xs.length + ys.length ≤ sizeLine then some (.lst (xs ++ ys), .non) else none
  | _, _ => none
theorem extendD_ok {G : Gx} : MutOk G rExtend extendD := by
  refine ⟨fun d ds z h => by cases d <;> first | rfl | (simp [extendD] at h), ?_⟩
  intro F H a xs d ds d' z Q e n c t q k
  unfold extendD at q
  split at q
  · rename_i ys zs
    split at q
    · rename_i w
      cases q
      obtain ⟨vs, h1, t1⟩ := c
      cases t with
      | cons h t' =>
        cases t'
        cases h with
        | lst h2 t2 => exact ⟨a, _, vs, _, rfl, rfl, h1, e _ _ h2, by rw [t1.length, t2.length]; exact w, k _ _ ⟨_, upd_same, t1.append t2⟩ .non⟩
    · cases q
  · cases q
def popD : D → List D → Option (D × D)
  | .lst xs, [] => (xs[xs.length - 1]?).map fun y => (.lst xs.dropLast, y)
  | _, _ => none
theorem popD_ok {G : Gx} : MutOk G rPop popD := by
  refine ⟨fun d ds z h => by cases d <;> first | rfl | (simp [popD] at h), ?_⟩
  intro F H a xs d ds d' z Q e n c t q k
  unfold popD at q
  split at q
  · rename_i ys
    obtain ⟨y, h, h2⟩ := Option.map_eq_some_iff.mp q
    cases h2
    obtain ⟨vs, h1, t1⟩ := c
    cases t
    obtain ⟨v, h3, h4⟩ := t1.get h
    exact ⟨a, vs, v, rfl, rfl, h1, by rw [t1.length]; exact h3, k _ _ ⟨_, upd_same, t1.dropLast⟩ h4⟩
  · cases q
/-- the first place of an equal one -/
def idxD (p : PyData) : List PyData → Option Nat
  | [] => none
  | z :: zs => if PyData.eqv z p then some 0 else (idxD p zs).map (· + 1)
theorem idxD_ok {p : PyData} : ∀ {zs : List PyData} {j : Nat}, idxD p zs = some j → (∃ z, zs[j]? = some z ∧ PyData.eqv z p = true) ∧ ∀ (m : Nat) (z' : PyData), m < j → zs[m]? = some z' → PyData.eqv z' p = false
  | [], _, e => by cases e
  | z :: zs, j, e => by
    unfold idxD at e
    split at e
    · rename_i w
      cases e
      exact ⟨⟨z, rfl, w⟩, fun m z' h => by omega⟩
    · rename_i w
      obtain ⟨k, h, rfl⟩ := Option.map_eq_some_iff.mp e
      obtain ⟨⟨z2, h1, h2⟩, h3⟩ := idxD_ok h
      refine ⟨⟨z2, by simpa using h1, h2⟩, fun m z' hm hz => ?_⟩
      cases m with
      | zero => simp at hz; subst hz; simpa using w
      | succ m => exact h3 m z' (by omega) (by simpa using hz)
def indexD : D → List D → Option Res
  | .lst xs, [y] => match toPys xs, toPy y with
    | some ps, some p => if SeqAt.shaped (.list ps) && SeqAt.shaped p then (idxD p ps).map fun j => .val (.int (j : Nat)) else none
    | _, _ => none
  | _, _ => none
theorem indexD_ok {G : Gx} : MtOk G (rIndexD G.K) indexD := by
  intro F H x xs d ds res Q e v vs q k
  unfold indexD at q
  split at q
  · rename_i ys y
    split at q
    · rename_i ps p e1 e2
      split at q
      · rename_i w
        have w := Bool.and_eq_true_iff.mp w
        obtain ⟨j, h, rfl⟩ := Option.map_eq_some_iff.mp q
        obtain ⟨⟨z, h1, h2⟩, h3⟩ := idxD_ok h
        obtain ⟨vy, rfl, hy⟩ := vs.one
        have hl := v.py e (show toPy (.lst ys) = some (.list ps) by simp [toPy, e1])
        obtain ⟨a, _, rfl, _⟩ := v.lst e
        exact ⟨a, vy, p, ps, j, z, rfl, rfl, hl, hy.py e e2, w.1, w.2, h1, h2, h3, k _ F H (.refl e) (.int _)⟩
      · cases q
    · cases q
  · cases q
def joinD : D → List D → Option Res
  | .str a, [.lst xs] => match strsD xs with
    | some ys => if (ys.map (·.length)).sum + ys.length * a.length ≤ 16777216 then some (.val (.str (Txt.join a ys))) else none
    | none => none
  | .str a, [.tup xs] => match strsD xs with
    | some ys => if (ys.map (·.length)).sum + ys.length * a.length ≤ 16777216 then some (.val (.str (Txt.join a ys))) else none
    | none => none
  | _, _ => none
def rJoin (K : PySem.W.Frag) : V → List V → Hp → VK → Prop := fun x xs H Q => ∃ a p, ∃ ys : List Str, x = .str a ∧ xs = [.ref p] ∧ (SqL K H p (ys.map V.str) ∨ SqT K H p (ys.map V.str)) ∧
    (ys.map (·.length)).sum + ys.length * a.length ≤ 16777216 ∧ Q (.str (Txt.join a ys)) H
theorem joinD_ok {G : Gx} : MtOk G (rJoin G.K) joinD := by
  intro F H x xs d ds res Q e v vs q k
  unfold joinD at q
  split at q
  · rename_i a ys
    split at q
    · rename_i zs e1
      split at q
      · rename_i w
        cases q
        obtain ⟨vy, rfl, hy⟩ := vs.one
        obtain ⟨p, us, rfl, h1, t⟩ := hy.lst e
        exact ⟨a, p, zs, v.str, rfl, .inl (by rw [← strs_ok t e1]; exact SqL.of h1), w, k _ F H (.refl e) (.str _)⟩
      · cases q
    · cases q
  · rename_i a ys
    split at q
    · rename_i zs e1
      split at q
      · rename_i w
        cases q
        obtain ⟨vy, rfl, hy⟩ := vs.one
        obtain ⟨p, us, rfl, h1, t⟩ := hy.tup e
        exact ⟨a, p, zs, v.str, rfl, .inr (by rw [← strs_ok t e1]; exact h1), w, k _ F H (.refl e) (.str _)⟩
      · cases q
    · cases q
  · cases q

/-! ### a[i] = e -/
def putKD (kvs : List (Key × D)) (k : Key) (v : D) : List (Key × D) :=
  if (kvs.any fun kv => decide (kv.1 = k)) = true then kvs.map (fun kv => if kv.1 = k then (kv.1, v) else kv) else kvs ++ [(k, v)]
theorem DpK.any {G : Gx} {F : Hp} {k : Key} : ∀ {vs : List (Key × V)} {ds : List (Key × D)}, DpK G F vs ds → (vs.any fun kv => decide (kv.1 = k)) = (ds.any fun kv => decide (kv.1 = k))
  | _, _, .nil => rfl
  | _, _, .cons _ t => by simp [DpK.any (k := k) t]
theorem DpK.app {G : Gx} {F : Hp} : ∀ {vs ws : List (Key × V)} {ds es : List (Key × D)}, DpK G F vs ds → DpK G F ws es → DpK G F (vs ++ ws) (ds ++ es)
  | _, _, _, _, .nil, s => s
  | _, _, _, _, .cons h t, s => .cons h (DpK.app t s)
theorem DpK.repl {G : Gx} {F : Hp} {k : Key} {v : V} {d : D} (hd : Dp G F v d) : ∀ {vs : List (Key × V)} {ds : List (Key × D)}, DpK G F vs ds → DpK G F (vs.map fun kv => if kv.1 = k then (kv.1, v) else kv) (ds.map fun kv => if kv.1 = k then (kv.1, d) else kv)
  | _, _, .nil => .nil
  | _, _, .cons (k := k') h t => by
    simp only [List.map_cons]
    by_cases e : k' = k
    · simp only [e, if_true]; exact .cons hd (DpK.repl hd t)
    · simp only [e, if_false]; exact .cons h (DpK.repl hd t)
theorem DpK.put {G : Gx} {F : Hp} {k : Key} {v : V} {d : D} (hd : Dp G F v d) {vs : List (Key × V)} {ds : List (Key × D)} (t : DpK G F vs ds) : DpK G F (putK vs k v) (putKD ds k d) := by
  unfold putK putKD
  rw [t.any]
  split
  · exact t.repl hd
  · exact t.app (.cons hd .nil)
def setD : D → D → D → Option D
  | .lst xs, .int i, v => (ixN xs.length i).map fun j => .lst (xs.set j v)
  | .dct kvs, k, v => if kvs.length < sizeLine then (keyD k).map fun k => .dct (putKD kvs k v) else none
  | _, _, _ => none
def rSetD : V → V → V → Hp → (Hp → Prop) → Prop := fun o i v H Q => rSetL o i v H Q ∨ ∃ a H', o = .ref a ∧ DPut H a i v H' ∧ Q H'
theorem set_D {X : Cx} (hu : X.A.units + 1 < cLine) : PSet X rSetD := by
  intro pins s σ H o i v ov iv u Q I ro ri rv h
  rcases h with h | ⟨a, H', rfl, g, q⟩
  · exact set_list pins s σ H o i v ov iv u Q I ro ri rv h
  · obtain rfl : ov = Value.ref a := ro
    exact d_setItem hu I g ri rv fun s' I' => ⟨H', I', q⟩
def storeR (rv ro ri : Res) (ρ : Rho) : SOut := match ro with
  | .at s => match settle rv ρ with
    | some (d, ρ1) => (match ρ1[s]?, resolve ρ1 ri with
      | some (some (.own b c)), some i => (match setD c i d with
        | some c' => .nx (ρ1.set s (some (.own b c')))
        | none => .stuck)
      | _, _ => .stuck)
    | none => .stuck
  | _ => .stuck
def mStore (mo mi me : M) : MS := fun ρ => bindSF (me ρ) fun rv ρ1 => bindSF (mo ρ1) fun ro ρ2 => bindSF (mi ρ2) fun ri ρ3 => storeR rv ro ri ρ3
section
variable {X : Cx} {Γ : Gm} {W : WX} {o i e : Expr} {mo mi me m : M} {pos pos' : Pos}
theorem js_store (hu : X.A.units + 1 < cLine) (he : PE X e (tM Γ W me)) (ho : PE X o (tM Γ W mo)) (hi : PE X i (tM Γ W mi)) (hs : swapsWithSole [.Subscript o i pos'] e pos.line X.env = pure false := by rfl) (hw : swappedStores [.Subscript o i pos'] e X.env = pure none := by rfl) (h1 : (assignEach [.Subscript o i pos'] X.env).map (·.2) = [assign (.Subscript o i pos') X.env] := by rfl)
    (hsub : PG X (.Subscript o i pos') (gSub (tF Γ W mo) (tF Γ W mi) rSetD) := by exact pg_sub (je_f ‹_›) (je_f ‹_›) (set_D ‹_›)) : PS X (.Assign [.Subscript o i pos'] e pos) (tMS Γ W (mStore mo mi me)) :=
  (ps_asg (je_f he) hsub hs hw h1).imp fun D σ H ⟨ρ, F, R, p⟩ => ⟨ρ, F, R, p.bindF fun rv ρ1 v F1 H1 s1 hv p1 => ⟨ρ1, F1, s1.rel, p1.bindF fun ro ρ2 x F2 H2 s2 ho' p2 => ⟨ρ2, F2, s2.rel, p2.bindF fun ri ρ3 y F3 H3 s3 hi' p3 => by
    unfold storeR at p3
    split at p3
    · rename_i s
      split at p3
      · rename_i d ρ4 e1
        obtain ⟨F4, s4, q4⟩ := settle_ok s3.rel (hv.mono (s2.subF.trans s3.subF)) e1
        split at p3
        · rename_i b c k e2 e3
          split at p3
          · rename_i c' e4
            have ho' : σ[s]? = some (some x) := ho'
            obtain ⟨a, L, z, ce, hb, ow⟩ := s4.rel.slotO e2 ho'
            subst z
            have vi := (hi'.mono s4.subF).view s4.rel e3
            have fin : flatD c = true → ∀ oo, Cell Γ.G F4 (L2.upd H3 a oo) a c' → D.nx σ (L2.upd H3 a oo) := fun fl oo cc => p3 σ F4 _ (s4.trans (s4.rel.upd e2 ho' ce fl cc))
            cases c with
            | lst xs =>
              cases k with
              | int i =>
                simp only [setD, Option.map_eq_some_iff] at e4
                obtain ⟨j, h1, rfl⟩ := e4
                obtain ⟨vs, h2, t⟩ := (ce.cell rfl).1
                exact .inl ⟨a, vs, i, j, rfl, vi.int, h2, by rw [t.length]; exact h1, fin rfl _ ⟨_, upd_same, t.set q4 j⟩⟩
              | _ => simp [setD] at e4
            | dct kvs =>
              simp only [setD] at e4
              split at e4
              · rename_i w
                obtain ⟨kk, h1, rfl⟩ := Option.map_eq_some_iff.mp e4
                obtain ⟨vs, h2, t⟩ := (ce.cell rfl).1
                have hk := keyD_ok vi h1
                subst hk
                exact .inr ⟨a, _, rfl, DPut.k h2 (by rw [t.length]; exact w), fin rfl _ ⟨_, upd_same, t.put q4⟩⟩
              · cases e4
            | _ => simp [setD] at e4
          · exact p3.elim
        · exact p3.elim
      · exact p3.elim
    · exact p3.elim⟩⟩⟩
/-! x op= e -/
def augR (f : D → D → Option Res) (i : Nat) (r : Res) (ρ : Rho) : SOut := match ρ[i]?, resolve ρ r with
  | some (some (.val d)), some e => (match f d e with
    | some (.val z) => .nx (ρ.set i (some (.val z)))
    | _ => .stuck)
  | _, _ => .stuck
def mAug (f : D → D → Option Res) (i : Nat) (m : M) : MS := fun ρ => match ρ[i]? with
  | some (some (.val d0)) => bindSF (m ρ) fun r ρ1 => augR f i r ρ1
  | _ => .stuck
end
end PyD

namespace PyD
open PySem PySem.Spec PyProof.Rows L2

section
variable {X : Cx} {Γ : Gm} {W : WX} {e : Expr} {m : M} {pos pos' : Pos}
theorem js_aug {op : Operator} {r : R2} {f : D → D → Option Res} {i : Nat} {x : Str} (ho : OpR X (inplaceOp op) r) (hf : BinOk Γ.G r f) (hN : X.N.Nodup) (hx : Loc X.env.scope x) (he : PE X e (tM Γ W m)) (hi : X.N[i]? = some x := by rfl)
    (hv : X.fn x = true ∨ X.env.scope.names.lookup x = some .local := by first | exact .inl rfl | exact .inr rfl | assumption) : PS X (.AugAssign (.Name x pos') op e pos) (tMS Γ W (mAug f i m)) :=
  (ps_aug (ti := r) hN hi hx (je_f he) (fun pins s σ H x y v u Q I rx ry q => ho pins s σ H x y v u Q I rx ry q) hv).imp fun D σ H ⟨ρ, F, R, p⟩ => by
    unfold mAug at p
    split at p
    · rename_i d0 q0
      obtain ⟨v0, h0, _⟩ := R.slotV q0
      refine ⟨v0, h0, ρ, F, R, p.bindF fun r ρ1 v F1 H1 s1 hr p1 => ?_⟩
      unfold augR at p1
      split at p1
      · rename_i d e' q1 e1
        split at p1
        · rename_i z e2
          obtain ⟨v1, h1, h2⟩ := s1.rel.slotV q1
          rw [h0] at h1; cases h1
          have il : i < ρ1.length := by
            rcases Nat.lt_or_ge i ρ1.length with y | y
            · exact y
            · rw [List.getElem?_eq_none y] at q1; cases q1
          refine hf F1 H1 v0 v d e' _ _ s1.rel.sub (.of h2) (hr.view s1.rel e1) e2 fun v2 F' H' al q2 => ?_
          exact p1 _ F' H' ((al.stp s1.rel).setV il q2)
        · exact p1.elim
      · exact p1.elim
    · exact p.elim
/-! names of the module -/
theorem je_glob {x : Str} {v : V} {u : Value} {d : D} (hm : X.mg x = some u) (r : RelV v u) (hd : ∀ F, Dp Γ.G F v d) (hg : Gl X x := by rfl) (h : (x == ("__debug__" : Str)) = false := by decide) : PE X (.Name x pos) (tM Γ W (mC d)) := je_const (pe_glob hg hm r h) hd
theorem je_gint {x : Str} {i : Int} (hm : ∃ t, X.mg x = some (.int i t)) (hg : Gl X x := by rfl) (h : (x == ("__debug__" : Str)) = false := by decide) : PE X (.Name x pos) (tM Γ W (mC (.int i))) := let ⟨t, hm⟩ := hm; je_glob (v := .int i) hm ⟨t, rfl⟩ (fun _ => .int i) hg h
theorem je_gstr {x z : Str} (hm : ∃ t, X.mg x = some (.str z t)) (hg : Gl X x := by rfl) (h : (x == ("__debug__" : Str)) = false := by decide) : PE X (.Name x pos) (tM Γ W (mC (.str z))) := let ⟨t, hm⟩ := hm; je_glob (v := .str z) hm ⟨t, rfl⟩ (fun _ => .str z) hg h
theorem je_gval {x : Str} {a : Addr} {d : D} (hm : X.mg x = some (.ref a)) (hd : ∀ F, Dp Γ.G F (.ref a) d) (hg : Gl X x := by rfl) (h : (x == ("__debug__" : Str)) = false := by decide) : PE X (.Name x pos) (tM Γ W (mC d)) := je_glob (v := .ref a) hm rfl hd hg h
theorem je_ty {x : Str} {n : String} (hm : X.mg x = none) (hv : bootBuiltins x = some (.type n)) (hg : Gl X x := by rfl) (hn : x ≠ "__name__" := by decide) (h : (x == ("__debug__" : Str)) = false := by decide) : PE X (.Name x pos) (tM Γ W (mC (.ty n))) := je_const (pe_bltn (v := .ty n) hg hm hv rfl hn h) fun _ => .ty n
end

def mDnew : M := fun ρ => .ok (.new (.dct [])) ρ
theorem je_dnew {X : Cx} {Γ : Gm} {W : WX} {pos : Pos} : PE X (.Dict [] [] pos) (tM Γ W mDnew) := pe_dnewK.imp fun σ H Q ⟨ρ, F, R, h⟩ p hp =>
  fin_new (res := .new (.dct [])) R h _ F _ (.cell R.sub hp) ⟨p, rfl, Same.free R.sub hp, ⟨_, upd_same, .nil⟩, hp⟩
/-! ### what is known of a def -/
structure FnFact (P : Program) (w : World) (K : PySem.W.Frag) (mg : Str → Option Value) (base : Heap) (G : Gx) (x : Str) (n k : Nat) (ps : List Str) (g : Fn) : Prop where
  ex : ∃ f fd, mg x = some (.ref f) ∧ PySem.W.keepIn K (.ref f) = true ∧ Binds K fd ps [] ∧ FnOkG P w K mg base k f fd ps (spF G n g)
section
variable {X : Cx} {Γ : Gm} {W : WX} {e : Expr} {ma : MA} {pos p : Pos} {es : List Expr} {x : Str} {k n : Nat} {ps : List Str} {mk : List Bool} {g : Fn}
theorem je_callF (tk : Takes X W) (Fo : FnFact X.prog X.w X.K X.mg X.base Γ.G x n k ps g) (hr : RG k X.A) (ha : PA X (e :: es) (tMA Γ W ma))
    (hg : Gl X x := by rfl) (hdb : (x == ("__debug__" : Str)) = false := by decide) (he : starEach (e :: es) X.env = (false, eval e X.env) :: starEach es X.env := by rfl) (hpl : (backTo pos (starEach es X.env)).any (·.1) = false := by rfl) :
    PE X (.Call (.Name x p) (e :: es) [] pos) (tM Γ W (mCall n mk g ma)) := by
  obtain ⟨f, fd, h1, h2, h3, h4⟩ := Fo.ex
  exact je_call tk h4 hr h1 h2 h3 ha hg hdb he hpl
theorem je_callF0 (tk : Takes X W) (Fo : FnFact X.prog X.w X.K X.mg X.base Γ.G x n k ps g) (hr : RG k X.A) (hg : Gl X x := by rfl) (hdb : (x == ("__debug__" : Str)) = false := by decide) : PE X (.Call (.Name x p) [] [] pos) (tM Γ W (mCall n mk g mNil)) := by
  obtain ⟨f, fd, h1, h2, h3, h4⟩ := Fo.ex
  exact je_call0 tk h4 hr h1 h2 h3 hg hdb
end
/-- a def of the module with its body's derivation -/
theorem okf_of {P : Program} {w : World} {K : PySem.W.Frag} {mg : Str → Option Value} {base : Heap} {G : Gx} {x qual : Str} {params : Arguments} {body : List Stmt} {scope : Scope} {f : Addr} {fd : FuncData} {dvs : List V} {kws : List (Str × V)} {N ps : List Str} {n nl k : Nat} {m : MS}
    (F : FunD K x qual params body scope dvs kws f fd) (S : FnScope N ps scope) (hn : ps.length = n) (hN : N.length = n + nl)
    (hbody : ∀ (cdv : Value) (A : Around) (outer : List Env) (s : Shared) (H : Hp) (vs : List V) (E : XK) (U : Addr → Prop), RG k (A.deeper (envOfC qual scope s.heap.objs.size f cdv)) →
      PSs (cxOf (L2.CX P w) P w K mg base N qual scope f cdv A outer s H E) body (tMS (.of G (bet vs) U) (fun cls d _ H' => E cls d H') m)) : FnOkG P w K mg base (k + 1) f fd ps (spF G n (mkFn nl m)) :=
  okg_of F S (fun vs H Q E h => by rw [hn]; exact h.1) fun cdv A outer s H vs Q E hr h => body_ok (N := N) hN h fun U => hbody cdv A outer s H vs E U hr
theorem fact_of {P : Program} {w : World} {K : PySem.W.Frag} {mg : Str → Option Value} {base : Heap} {G : Gx} {x qual : Str} {params : Arguments} {body : List Stmt} {scope : Scope} {f : Addr} {fd : FuncData} {ps : List Str} {n k : Nat} {g : Fn}
    (F : FunD K x qual params body scope [] [] f fd) (hm : mg x = some (.ref f))
    (hb : ∀ (kV doc pm : Value) (an : Option Addr) (cdv ct : Value) (us : List Value), us.length = ps.length → bindArgs (PySem.W.fnOf x qual params body scope .none kV doc pm an cdv ct) ⟨us, []⟩ = pure (ps.zip us))
    (O : FnOkG P w K mg base k f fd ps (spF G n g)) : FnFact P w K mg base G x n k ps g :=
  ⟨f, fd, hm, F.kp, F.bindsN hb, O⟩
/-! ### the end -/
theorem walk_ofW {l : PySem.W.OpenLaw} {n k : Nat} {q : Program} {loose : List Str} {XP : (Str → Option Value) → Heap → Prop} {YP : World → Heap → Prop} {d : DefRec} {x : Str}
    (hn : l.most = some n) (hn2 : n ≤ sizeLine) (hdf : d.params.defaults = []) (hr : RG k callerA)
    (F : ∀ (w : World) (mg : Str → Option Value) (fa : Addr) (h : Heap), YP w h → h.Ns mainGlobals mg → mg d.name = some (.ref fa) →
      ∃ (K : PySem.W.Frag) (fd : FuncData) (sp : Sp), K.In h ∧ (∀ (s : Shared) (u : Value), BindsTo s fd ⟨[u], []⟩ [(x, u)]) ∧
        (∀ (H : Hp) (a : Addr) (ns : List Int), ns.length ≤ n → Only H → SqL K H a (ns.map V.int) → sp [.ref a] H (fun v _ => v = .bl true) fun _ _ _ => False) ∧
        ∀ base : Heap, K.In base → base.Ns mainGlobals mg → FnOkG l.prog w K mg base k fa fd [x] sp)
    (hCX : ∀ (w : World) (H : Hp) (s : Shared) (e : Value) (s' : Shared), L2.CX l.prog w [] H s (fun _ _ _ => False) e s' → False) :
    PySem.W.WalkO q loose XP YP l.row.toRowW d [] (fun f vs => PySem.call f vs) := by
  refine Att.attach_call hn hdf fun w s₀ s₁ mg mb fa o pm cd doc a vs ns G Y ho hd hcd hmg hobj hints hlen hg => ?_
  obtain ⟨K, fd, sp, KX, hb, hsp, hF⟩ := F w mg fa _ Y G.T.g hmg
  exact law_callG KX G.T.g G.T.b G.T.builtins G.T.nolimit hg hobj hints (Nat.le_trans hlen hn2) hr hF hb (fun H hO hS => hsp H a ns hlen hO hS) fun H e s' => hCX w H s₁ e s'
/-- what the end asks of the law's own function -/
theorem law_sp {G : Gx} {f : Fn} (h : ∀ ns : List Int, ns.length ≤ 63 → f [.v (.scr ns)] = .ret (.val (.bl true)) []) (H : Hp) (a : Addr) (ns : List Int) (hl : ns.length ≤ 63) (hS : SqL G.K H a (ns.map V.int)) : spF G 1 f [.ref a] H (fun v _ => v = .bl true) fun _ _ _ => False := by
  refine ⟨rfl, H, [.v (.scr ns)], [], fun _ => False, Same.refl _, .v (.scr hS) .nil, (fun a h => by cases h), (fun a h => h.elim), ?_⟩
  rw [h ns hl]
  intro v F' H' L' _ _ _ q
  cases q
  rfl
theorem hCX_ok {P : Program} (w : World) (H : Hp) (s : Shared) (e : Value) (s' : Shared) (h : L2.CX P w [] H s (fun _ _ _ => False) e s') : False := by
  obtain ⟨_, _, _, _, _, _, _, _, _, _, _, _, z⟩ := h
  exact z.elim
theorem hu1 {A : Around} {k : Nat} (hr : RG k A) : A.units + 1 < cLine := by have := hr.un; omega
theorem hu64 {A : Around} {k : Nat} (hr : RG k A) : A.units + 64 < cLine := by have := hr.un; omega
theorem hu65 {A : Around} {k : Nat} (hr : RG k A) : A.units + 65 < cLine := by have := hr.un; omega
end PyD

namespace PyD
open PySem PySem.Spec PyProof.Rows L2

/-! ### how the functions are run: rows for simp. A continuation is not looked at before what stands ahead of it is known. -/
section
variable {α β : Type}
theorem cg_bindO {o o' : Out α} {k : α → Rho → Out β} (h : o = o') : bindO o k = bindO o' k := by rw [h]
theorem cg_bindF {o o' : Out Res} {k : Res → Rho → Out β} (h : o = o') : bindF o k = bindF o' k := by rw [h]
theorem cg_bindSO {o o' : Out α} {k : α → Rho → SOut} (h : o = o') : bindSO o k = bindSO o' k := by rw [h]
theorem cg_bindSF {o o' : Out Res} {k : Res → Rho → SOut} (h : o = o') : bindSF o k = bindSF o' k := by rw [h]
@[simp] theorem x_bindO {a : α} {ρ : Rho} {k : α → Rho → Out β} : bindO (.ok a ρ) k = k a ρ := rfl
@[simp] theorem x_bindOx {x : Exc} {ρ : Rho} {k : α → Rho → Out β} : bindO (.exc x ρ) k = .exc x ρ := rfl
@[simp] theorem x_bindOs {k : α → Rho → Out β} : bindO .stuck k = .stuck := rfl
@[simp] theorem x_bindFv {d : D} {ρ : Rho} {k : Res → Rho → Out β} : bindF (.ok (.val d) ρ) k = k (.val d) ρ := rfl
@[simp] theorem x_bindFn {d : D} {ρ : Rho} {k : Res → Rho → Out β} : bindF (.ok (.new d) ρ) k = k (.val (strip d)) ρ := rfl
@[simp] theorem x_bindFa {i : Nat} {ρ : Rho} {k : Res → Rho → Out β} : bindF (.ok (.at i) ρ) k = k (.at i) ρ := rfl
@[simp] theorem x_bindFx {x : Exc} {ρ : Rho} {k : Res → Rho → Out β} : bindF (.exc x ρ) k = .exc x ρ := rfl
@[simp] theorem x_bindSO {a : α} {ρ : Rho} {k : α → Rho → SOut} : bindSO (.ok a ρ) k = k a ρ := rfl
@[simp] theorem x_bindSOx {x : Exc} {ρ : Rho} {k : α → Rho → SOut} : bindSO (.exc x ρ) k = .exc x ρ := rfl
@[simp] theorem x_bindSFv {d : D} {ρ : Rho} {k : Res → Rho → SOut} : bindSF (.ok (.val d) ρ) k = k (.val d) ρ := rfl
@[simp] theorem x_bindSFn {d : D} {ρ : Rho} {k : Res → Rho → SOut} : bindSF (.ok (.new d) ρ) k = k (.val (strip d)) ρ := rfl
@[simp] theorem x_bindSFa {i : Nat} {ρ : Rho} {k : Res → Rho → SOut} : bindSF (.ok (.at i) ρ) k = k (.at i) ρ := rfl
@[simp] theorem x_bindSFx {x : Exc} {ρ : Rho} {k : Res → Rho → SOut} : bindSF (.exc x ρ) k = .exc x ρ := rfl
/-- optional steps -/
def optO (o : Option α) (k : α → Out β) : Out β := match o with | some a => k a | none => .stuck
def optS (o : Option α) (k : α → SOut) : SOut := match o with | some a => k a | none => .stuck
def optF (o : Option α) (k : α → FOut) : FOut := match o with | some a => k a | none => .stuck
def bindN (o : Out α) (k : α → Rho → Out β) : Out β := match o with | .ok a ρ => k a ρ | _ => .stuck
def loopS (o : SOut) (k : Rho → SOut) : SOut := match o with | .nx ρ => k ρ | .ct ρ => k ρ | .bk ρ => .nx ρ | o => o
def seqS (o : SOut) (k : Rho → SOut) : SOut := match o with | .nx ρ => k ρ | o => o
theorem cg_optO {o o' : Option α} {k : α → Out β} (h : o = o') : optO o k = optO o' k := by rw [h]
theorem cg_optS {o o' : Option α} {k : α → SOut} (h : o = o') : optS o k = optS o' k := by rw [h]
theorem cg_optF {o o' : Option α} {k : α → FOut} (h : o = o') : optF o k = optF o' k := by rw [h]
theorem cg_bindN {o o' : Out α} {k : α → Rho → Out β} (h : o = o') : bindN o k = bindN o' k := by rw [h]
theorem cg_loopS {o o' : SOut} {k : Rho → SOut} (h : o = o') : loopS o k = loopS o' k := by rw [h]
theorem cg_seqS {o o' : SOut} {k : Rho → SOut} (h : o = o') : seqS o k = seqS o' k := by rw [h]
@[simp] theorem x_optO {a : α} {k : α → Out β} : optO (some a) k = k a := rfl
@[simp] theorem x_optOn {k : α → Out β} : optO none k = .stuck := rfl
@[simp] theorem x_optS {a : α} {k : α → SOut} : optS (some a) k = k a := rfl
@[simp] theorem x_optF {a : α} {k : α → FOut} : optF (some a) k = k a := rfl
@[simp] theorem x_bindN {a : α} {ρ : Rho} {k : α → Rho → Out β} : bindN (.ok a ρ) k = k a ρ := rfl
@[simp] theorem x_bindNx {x : Exc} {ρ : Rho} {k : α → Rho → Out β} : bindN (.exc x ρ) k = .stuck := rfl
@[simp] theorem x_loopSn {ρ : Rho} {k : Rho → SOut} : loopS (.nx ρ) k = k ρ := rfl
@[simp] theorem x_loopSc {ρ : Rho} {k : Rho → SOut} : loopS (.ct ρ) k = k ρ := rfl
@[simp] theorem x_loopSb {ρ : Rho} {k : Rho → SOut} : loopS (.bk ρ) k = .nx ρ := rfl
@[simp] theorem x_loopSr {r : Res} {ρ : Rho} {k : Rho → SOut} : loopS (.ret r ρ) k = .ret r ρ := rfl
@[simp] theorem x_loopSx {x : Exc} {ρ : Rho} {k : Rho → SOut} : loopS (.exc x ρ) k = .exc x ρ := rfl
@[simp] theorem x_seqSn {ρ : Rho} {k : Rho → SOut} : seqS (.nx ρ) k = k ρ := rfl
@[simp] theorem x_seqSr {r : Res} {ρ : Rho} {k : Rho → SOut} : seqS (.ret r ρ) k = .ret r ρ := rfl
@[simp] theorem x_seqSx {x : Exc} {ρ : Rho} {k : Rho → SOut} : seqS (.exc x ρ) k = .exc x ρ := rfl
@[simp] theorem x_seqSb {ρ : Rho} {k : Rho → SOut} : seqS (.bk ρ) k = .bk ρ := rfl
@[simp] theorem x_seqSc {ρ : Rho} {k : Rho → SOut} : seqS (.ct ρ) k = .ct ρ := rfl
end
/-! slots -/
@[simp] theorem x_stripL {xs : List D} : strip (.lst xs) = .lst xs := by simp [strip]
@[simp] theorem x_stripT {xs : List D} : strip (.tup xs) = .tup xs := by simp [strip]
@[simp] theorem x_stripD {xs : List (Key × D)} : strip (.dct xs) = .dct xs := by simp [strip]
@[simp] theorem x_stripO {c : Nat} {xs : List (Str × D)} : strip (.obj c xs) = .obj c xs := by simp [strip]
@[simp] theorem x_stripI {i : Int} : strip (.int i) = .int i := by simp [strip]
@[simp] theorem x_stripS {i : Str} : strip (.str i) = .str i := by simp [strip]
@[simp] theorem x_stripB {i : Bool} : strip (.bl i) = .bl i := by simp [strip]
@[simp] theorem x_stripN : strip .non = .non := by simp [strip]
@[simp] theorem x_stripLO {xs : List D} : strip (.lstO xs) = .lst (strips xs) := by simp [strip]
@[simp] theorem x_stripDO {xs : List (Key × D)} : strip (.dctO xs) = .dct (stripK xs) := by simp [strip]
@[simp] theorem x_stripOO {c : Nat} {xs : List (Str × D)} : strip (.objO c xs) = .obj c (stripF xs) := by simp [strip]
@[simp] theorem x_stripK {d : D} : strip (.kid d) = strip d := by simp [strip]
@[simp] theorem x_stripsN : strips [] = [] := by simp [strips]
@[simp] theorem x_stripsC {d : D} {ds : List D} : strips (d :: ds) = strip d :: strips ds := by simp [strips]
@[simp] theorem x_stripKN : stripK [] = [] := by simp [stripK]
@[simp] theorem x_stripKC {k : Key} {d : D} {ds : List (Key × D)} : stripK ((k, d) :: ds) = (k, strip d) :: stripK ds := by simp [stripK]
@[simp] theorem x_stripFN : stripF [] = [] := by simp [stripF]
@[simp] theorem x_stripFC {k : Str} {d : D} {ds : List (Str × D)} : stripF ((k, d) :: ds) = (k, strip d) :: stripF ds := by simp [stripF]
def slotD : Option (Option Slot) → Option D
  | some (some (.val d)) => some d
  | some (some (.own _ d)) => some d
  | _ => none
@[simp] theorem x_slotDv {d : D} : slotD (some (some (.val d))) = some d := rfl
@[simp] theorem x_slotDo {b : Option Nat} {d : D} : slotD (some (some (.own b d))) = some d := rfl
@[simp] theorem x_resV {ρ : Rho} {d : D} : resolve ρ (.val d) = some d := rfl
@[simp] theorem x_resA {ρ : Rho} {i : Nat} : resolve ρ (.at i) = slotD ρ[i]? := by
  unfold resolve slotD; rfl
def varR (o : Option (Option Slot)) (i : Nat) (ρ : Rho) : Out Res := match o with
  | some (some (.val d)) => .ok (.val d) ρ
  | some (some (.own _ _)) => .ok (.at i) ρ
  | _ => .stuck
theorem cg_varR {o o' : Option (Option Slot)} {i : Nat} {ρ : Rho} (h : o = o') : varR o i ρ = varR o' i ρ := by rw [h]
@[simp] theorem x_varRv {d : D} {i : Nat} {ρ : Rho} : varR (some (some (.val d))) i ρ = .ok (.val d) ρ := rfl
@[simp] theorem x_varRo {b : Option Nat} {d : D} {i : Nat} {ρ : Rho} : varR (some (some (.own b d))) i ρ = .ok (.at i) ρ := rfl
@[simp] theorem x_mVar {i : Nat} {ρ : Rho} : mVar i ρ = varR ρ[i]? i ρ := by unfold mVar varR; rfl
@[simp] theorem x_mC {d : D} {ρ : Rho} : mC d ρ = .ok (.val d) ρ := rfl
def settleA (o : Option (Option Slot)) (i : Nat) (ρ : Rho) : Option (D × Rho) := match o with
  | some (some (.val d)) => some (d, ρ)
  | some (some (.own none d)) => some (strip d, ρ.set i (some (.val (strip d))))
  | _ => none
theorem cg_settleA {o o' : Option (Option Slot)} {i : Nat} {ρ : Rho} (h : o = o') : settleA o i ρ = settleA o' i ρ := by rw [h]
@[simp] theorem x_settleAv {d : D} {i : Nat} {ρ : Rho} : settleA (some (some (.val d))) i ρ = some (d, ρ) := rfl
@[simp] theorem x_settleAo {d : D} {i : Nat} {ρ : Rho} : settleA (some (some (.own none d))) i ρ = some (strip d, ρ.set i (some (.val (strip d)))) := rfl
@[simp] theorem x_setV {d : D} {ρ : Rho} : PyD.settle (.val d) ρ = some (d, ρ) := rfl
@[simp] theorem x_setA {i : Nat} {ρ : Rho} : PyD.settle (.at i) ρ = settleA ρ[i]? i ρ := by unfold PyD.settle settleA; rfl
/-! operators -/
def fOut (o : Option Res) (ρ : Rho) : Out Res := match o with | some r => .ok r ρ | none => .stuck
theorem cg_fOut {o o' : Option Res} {ρ : Rho} (h : o = o') : fOut o ρ = fOut o' ρ := by rw [h]
@[simp] theorem x_fOut {r : Res} {ρ : Rho} : fOut (some r) ρ = .ok r ρ := rfl
@[simp] theorem x_fOutn {ρ : Rho} : fOut none ρ = .stuck := rfl
@[simp] theorem x_op2 {f : D → D → Option Res} {a b : Res} {ρ : Rho} : op2 f a b ρ = optO (resolve ρ a) fun x => optO (resolve ρ b) fun y => fOut (f x y) ρ := by
  unfold op2 optO fOut; cases resolve ρ a <;> cases resolve ρ b <;> rfl
@[simp] theorem x_op1 {f : D → Option Res} {a : Res} {ρ : Rho} : op1 f a ρ = optO (resolve ρ a) fun x => fOut (f x) ρ := by
  unfold op1 optO fOut; cases resolve ρ a <;> rfl
@[simp] theorem x_mBin {f : D → D → Option Res} {ma mb : M} {ρ : Rho} : mBin f ma mb ρ = bindF (ma ρ) fun a ρ1 => bindF (mb ρ1) fun b ρ2 => op2 f a b ρ2 := rfl
@[simp] theorem x_mUn {f : D → Option Res} {ma : M} {ρ : Rho} : mUn f ma ρ = bindF (ma ρ) fun a ρ1 => op1 f a ρ1 := rfl
@[simp] theorem x_blV {k : Bool} {ρ : Rho} : blR (.val (.bl k)) ρ = .ok k ρ := rfl
def blA (o : Option (Option Slot)) (ρ : Rho) : Out Bool := match o with | some (some (.val (.bl k))) => .ok k ρ | _ => .stuck
@[simp] theorem x_blA {k : Bool} {ρ : Rho} : blA (some (some (.val (.bl k)))) ρ = .ok k ρ := rfl
@[simp] theorem x_blAt {i : Nat} {ρ : Rho} : blR (.at i) ρ = blA ρ[i]? ρ := by unfold blR blA; rfl
@[simp] theorem x_mBl {m : M} {ρ : Rho} : mBl m ρ = bindF (m ρ) fun a ρ1 => blR a ρ1 := rfl
@[simp] theorem x_mBinB {f : D → D → Option Res} {ma mb : M} {ρ : Rho} : mBinB f ma mb ρ = mBl (mBin f ma mb) ρ := rfl
def kOut (o : Option Bool) (ρ : Rho) : Out Bool := match o with | some r => .ok r ρ | none => .stuck
@[simp] theorem x_kOut {r : Bool} {ρ : Rho} : kOut (some r) ρ = .ok r ρ := rfl
@[simp] theorem x_truR {a : Res} {ρ : Rho} : truR a ρ = optO (resolve ρ a) fun d => kOut (truD d) ρ := by
  unfold truR optO kOut; cases resolve ρ a <;> rfl
@[simp] theorem x_mTru {m : M} {ρ : Rho} : mTru m ρ = bindF (m ρ) fun a ρ1 => truR a ρ1 := rfl
@[simp] theorem x_truDn : truD .non = some false := rfl
@[simp] theorem x_truDb {b : Bool} : truD (.bl b) = some b := rfl
@[simp] theorem x_truDi {i : Int} : truD (.int i) = some (i != 0) := rfl
@[simp] theorem x_truDl {xs : List D} : truD (.lst xs) = some (!xs.isEmpty) := rfl
@[simp] theorem x_truDt {xs : List D} : truD (.tup xs) = some (!xs.isEmpty) := rfl
@[simp] theorem x_mChain {f g : D → D → Option Res} {ma mb mc : M} {ρ : Rho} : mChain f g ma mb mc ρ = bindF (ma ρ) fun a ρ1 => bindF (mb ρ1) fun b ρ2 => bindF (op2 f a b ρ2) fun z ρ3 => bindO (blR z ρ3) fun k ρ3 =>
  if k = true then bindF (mc ρ3) fun c ρ4 => op2 g b c ρ4 else .ok (.val (.bl false)) ρ3 := rfl
@[simp] theorem x_mAndB {ta tb : MB} {ρ : Rho} : mAndB ta tb ρ = bindO (ta ρ) fun k ρ1 => if k = true then tb ρ1 else .ok false ρ1 := rfl
@[simp] theorem x_mOrB {ta tb : MB} {ρ : Rho} : mOrB ta tb ρ = bindO (ta ρ) fun k ρ1 => if k = true then .ok true ρ1 else tb ρ1 := rfl
@[simp] theorem x_mNotB {ta : MB} {ρ : Rho} : mNotB ta ρ = bindO (ta ρ) fun k ρ1 => .ok (!k) ρ1 := rfl
@[simp] theorem x_mAndV {ma mb : M} {ρ : Rho} : mAndV ma mb ρ = bindF (ma ρ) fun a ρ1 => bindO (blR a ρ1) fun k ρ1 => if k = true then mb ρ1 else .ok (.val (.bl false)) ρ1 := rfl
@[simp] theorem x_mOrV {ma mb : M} {ρ : Rho} : mOrV ma mb ρ = bindF (ma ρ) fun a ρ1 => bindO (blR a ρ1) fun k ρ1 => if k = true then .ok (.val (.bl true)) ρ1 else mb ρ1 := rfl
@[simp] theorem x_mNotV {ma : M} {ρ : Rho} : mNotV ma ρ = bindF (ma ρ) fun a ρ1 => bindO (blR a ρ1) fun k ρ1 => .ok (.val (.bl (!k))) ρ1 := rfl
@[simp] theorem x_mIf {t : MB} {ma mb : M} {ρ : Rho} : mIf t ma mb ρ = bindO (t ρ) fun k ρ1 => if k = true then ma ρ1 else mb ρ1 := rfl
@[simp] theorem x_mYes {ρ : Rho} : mYes ρ = .ok true ρ := rfl
@[simp] theorem x_mDnew {ρ : Rho} : mDnew ρ = .ok (.new (.dct [])) ρ := rfl
/-! arguments -/
@[simp] theorem x_mNil {ρ : Rho} : mNil ρ = .ok [] ρ := rfl
@[simp] theorem x_mCons {ma : M} {mr : MA} {ρ : Rho} : mCons ma mr ρ = bindF (ma ρ) fun a ρ1 => bindO (mr ρ1) fun as ρ2 => .ok (a :: as) ρ2 := rfl
def consO {α : Type} : Option α → Option (List α) → Option (List α)
  | some a, some as => some (a :: as)
  | _, _ => none
@[simp] theorem x_consO {α : Type} {a : α} {as : List α} : consO (some a) (some as) = some (a :: as) := rfl
@[simp] theorem x_resN {ρ : Rho} : resolves ρ [] = some [] := rfl
@[simp] theorem x_resC {ρ : Rho} {r : Res} {rs : List Res} : resolves ρ (r :: rs) = consO (resolve ρ r) (resolves ρ rs) := by
  show (match resolve ρ r, resolves ρ rs with | some d, some ds => some (d :: ds) | _, _ => none) = _
  cases resolve ρ r <;> cases resolves ρ rs <;> rfl
@[simp] theorem x_opN {f : List D → Option Res} {as : List Res} {ρ : Rho} : opN f as ρ = optO (resolves ρ as) fun ds => fOut (f ds) ρ := by
  unfold opN optO fOut; cases resolves ρ as <;> rfl
@[simp] theorem x_mCB {f : List D → Option Res} {ma : MA} {ρ : Rho} : mCB f ma ρ = bindO (ma ρ) fun as ρ1 => opN f as ρ1 := rfl
@[simp] theorem x_stN {ρ : Rho} : settles [] ρ = some ([], ρ) := rfl
def stC (o : Option (D × Rho)) (k : Rho → Option (List D × Rho)) : Option (List D × Rho) := match o with
  | some (d, ρ) => (k ρ).map fun p => (d :: p.1, p.2)
  | none => none
theorem cg_stC {o o' : Option (D × Rho)} {k : Rho → Option (List D × Rho)} (h : o = o') : stC o k = stC o' k := by rw [h]
@[simp] theorem x_stC {d : D} {ρ : Rho} {k : Rho → Option (List D × Rho)} : stC (some (d, ρ)) k = (k ρ).map fun p => (d :: p.1, p.2) := rfl
@[simp] theorem x_stCons {r : Res} {rs : List Res} {ρ : Rho} : settles (r :: rs) ρ = stC (PyD.settle r ρ) fun ρ1 => settles rs ρ1 := by
  simp only [settles, stC]
  cases PyD.settle r ρ with
  | none => rfl
  | some p =>
    obtain ⟨d, ρ1⟩ := p
    simp only
    cases settles rs ρ1 with
    | none => rfl
    | some p => rfl
@[simp] theorem x_opS {f : List D → Option Res} {as : List Res} {ρ : Rho} : opS f as ρ = optO (settles as ρ) fun p => fOut (f p.1) p.2 := by
  unfold opS optO fOut; cases settles as ρ <;> rfl
@[simp] theorem x_mCS {f : List D → Option Res} {ma : MA} {ρ : Rho} : mCS f ma ρ = bindO (ma ρ) fun as ρ1 => opS f as ρ1 := rfl
/-! slices -/
def intO {α : Type} (o : Option D) (k : Int → Out α) : Out α := match o with | some (.int i) => k i | _ => .stuck
theorem cg_intO {α : Type} {o o' : Option D} {k : Int → Out α} (h : o = o') : intO o k = intO o' k := by rw [h]
@[simp] theorem x_intO {α : Type} {i : Int} {k : Int → Out α} : intO (some (.int i)) k = k i := rfl
@[simp] theorem x_partN {β : Type} {ρ : Rho} {k : Option Int → Rho → Out β} : part none ρ k = k none ρ := rfl
@[simp] theorem x_partS {β : Type} {m : M} {ρ : Rho} {k : Option Int → Rho → Out β} : part (some m) ρ k = bindF (m ρ) fun r ρ1 => intO (resolve ρ1 r) fun i => k (some i) ρ1 := by
  simp only [part, intO] <;> rfl
@[simp] theorem x_opSl {a : Res} {lo hi : Option Int} {ρ : Rho} : opSl a lo hi ρ = optO (resolve ρ a) fun x => fOut (slD x lo hi) ρ := by
  unfold opSl optO fOut; cases resolve ρ a <;> rfl
@[simp] theorem x_mSl {ma : M} {lo hi : Option M} {ρ : Rho} : mSl ma lo hi ρ = bindF (ma ρ) fun a ρ1 => part lo ρ1 fun l ρ2 => part hi ρ2 fun h ρ3 => opSl a l h ρ3 := rfl
/-! methods -/
@[simp] theorem x_guard {α : Type} {T : String} {o : Res} {ρ : Rho} {k : Out α} : guard T o ρ k = optO (resolve ρ o) fun d => if tyOk T d then k else .stuck := by
  unfold guard optO; cases resolve ρ o <;> rfl
@[simp] theorem x_mMutT {T : String} {f : D → List D → Option (D × D)} {mo : M} {ma : MA} {ρ : Rho} : mMutT T f mo ma ρ = bindF (mo ρ) fun o ρ1 => guard T o ρ1 (bindO (ma ρ1) fun rs ρ2 => mutR f o rs ρ2) := rfl
@[simp] theorem x_mMtT {T : String} {f : D → List D → Option Res} {mo : M} {ma : MA} {ρ : Rho} : mMtT T f mo ma ρ = bindF (mo ρ) fun o ρ1 => guard T o ρ1 (bindO (ma ρ1) fun rs ρ2 => mtR f o rs ρ2) := rfl
def ownO (o : Option (Option Slot)) : Option (Option Nat × D) := match o with
  | some (some (.own b d)) => some (b, d)
  | _ => none
@[simp] theorem x_ownO {b : Option Nat} {d : D} : ownO (some (some (.own b d))) = some (b, d) := rfl
@[simp] theorem x_mutR {f : D → List D → Option (D × D)} {i : Nat} {rs : List Res} {ρ : Rho} : mutR f (.at i) rs ρ = optO (settles rs ρ) fun p => optO (ownO p.2[i]?) fun q => optO (f q.2 p.1) fun z => .ok (.val z.2) (p.2.set i (some (.own q.1 z.1))) := by
  simp only [mutR, optO, ownO]
  cases settles rs ρ with
  | none => rfl
  | some p =>
    obtain ⟨ds, ρ1⟩ := p
    simp only
    cases ρ1[i]? with
    | none => rfl
    | some s =>
      cases s with
      | none => rfl
      | some s =>
        cases s with
        | val d => rfl
        | exn => rfl
        | own b d => simp only; cases f d ds <;> rfl
@[simp] theorem x_mtR {f : D → List D → Option Res} {ro : Res} {rs : List Res} {ρ : Rho} : mtR f ro rs ρ = optO (resolve ρ ro) fun d => optO (resolves ρ rs) fun ds => fOut (f d ds) ρ := by
  unfold mtR optO fOut; cases resolve ρ ro <;> cases resolves ρ rs <;> rfl
/-! statements -/
@[simp] theorem x_mNext {ρ : Rho} : mNext ρ = .nx ρ := rfl
@[simp] theorem x_mSeq {m1 m2 : MS} {ρ : Rho} : mSeq m1 m2 ρ = seqS (m1 ρ) m2 := by unfold mSeq seqS; cases m1 ρ <;> rfl
@[simp] theorem x_setRv {i : Nat} {d : D} {ρ : Rho} : setR i (.val d) ρ = if i < ρ.length then .nx (ρ.set i (some (.val d))) else .stuck := rfl
@[simp] theorem x_setRn {i : Nat} {d : D} {ρ : Rho} : setR i (.new d) ρ = if i < ρ.length then .nx (ρ.set i (some (.own none d))) else .stuck := rfl
@[simp] theorem x_setRa {i j : Nat} {ρ : Rho} : setR i (.at j) ρ = if i < ρ.length then optS (PyD.settle (.at j) ρ) fun p => .nx (p.2.set i (some (.val p.1))) else .stuck := by
  show (if i < ρ.length then (match PyD.settle (.at j) ρ with | some (d, ρ1) => SOut.nx (ρ1.set i (some (.val d))) | none => .stuck) else .stuck) = _
  split
  · cases PyD.settle (.at j) ρ <;> rfl
  · rfl
@[simp] theorem x_mSet {i : Nat} {m : M} {ρ : Rho} : mSet i m ρ = bindSO (m ρ) fun r ρ1 => setR i r ρ1 := rfl
@[simp] theorem x_mExpr {m : M} {ρ : Rho} : mExpr m ρ = bindSO (m ρ) fun _ ρ1 => .nx ρ1 := rfl
@[simp] theorem x_retRv {d : D} {ρ : Rho} : retR (.val d) ρ = .ret (.val d) ρ := rfl
@[simp] theorem x_retRn {d : D} {ρ : Rho} : retR (.new d) ρ = .ret (.new d) ρ := rfl
def retA (o : Option (Option Slot)) (j : Nat) (ρ : Rho) : SOut := match o with
  | some (some (.val d)) => .ret (.val d) ρ
  | some (some (.own none d)) => .ret (.new d) (ρ.set j none)
  | _ => .stuck
@[simp] theorem x_retAv {d : D} {j : Nat} {ρ : Rho} : retA (some (some (.val d))) j ρ = .ret (.val d) ρ := rfl
@[simp] theorem x_retAo {d : D} {j : Nat} {ρ : Rho} : retA (some (some (.own none d))) j ρ = .ret (.new d) (ρ.set j none) := rfl
@[simp] theorem x_retRa {j : Nat} {ρ : Rho} : retR (.at j) ρ = retA ρ[j]? j ρ := by unfold retR retA; rfl
@[simp] theorem x_mRet {m : M} {ρ : Rho} : mRet m ρ = bindSO (m ρ) fun r ρ1 => retR r ρ1 := rfl
@[simp] theorem x_mIfS {t : MB} {m1 m2 : MS} {ρ : Rho} : mIfS t m1 m2 ρ = bindSO (t ρ) fun k ρ1 => if k = true then m1 ρ1 else m2 ρ1 := rfl
@[simp] theorem x_gN {i : Nat} {d : D} {ρ : Rho} : gN i d ρ = if i < ρ.length then some (ρ.set i (some (.val d))) else none := rfl
@[simp] theorem x_gsNil {ρ : Rho} : gsNil [] ρ = some ρ := rfl
@[simp] theorem x_gsCons {f : Tg} {g : Tgs} {d : D} {ds : List D} {ρ : Rho} : gsCons f g (d :: ds) ρ = (f d ρ).bind fun ρ1 => g ds ρ1 := rfl
@[simp] theorem x_gT {n : Nat} {g : Tgs} {ds : List D} {ρ : Rho} : gT n g (.tup ds) ρ = if ds.length = n then g ds ρ else none := rfl
@[simp] theorem x_tgtR {f : Tg} {r : Res} {ρ : Rho} : tgtR f r ρ = optS (PyD.settle r ρ) fun p => optS (f p.1 p.2) fun ρ2 => .nx ρ2 := by
  unfold tgtR optS
  cases PyD.settle r ρ with
  | none => rfl
  | some p => obtain ⟨d, ρ1⟩ := p; simp only; cases f d ρ1 <;> rfl
@[simp] theorem x_mAsg {f : Tg} {m : M} {ρ : Rho} : mAsg f m ρ = bindSF (m ρ) fun r ρ1 => tgtR f r ρ1 := rfl
@[simp] theorem x_storeR {rv ri : Res} {s : Nat} {ρ : Rho} : storeR rv (.at s) ri ρ = optS (PyD.settle rv ρ) fun p => optS (ownO p.2[s]?) fun q => optS (resolve p.2 ri) fun i => optS (setD q.2 i p.1) fun c => .nx (p.2.set s (some (.own q.1 c))) := by
  simp only [storeR, optS, ownO]
  cases PyD.settle rv ρ with
  | none => rfl
  | some p =>
    obtain ⟨d, ρ1⟩ := p
    simp only
    cases ρ1[s]? with
    | none => rfl
    | some sl =>
      cases sl with
      | none => rfl
      | some sl =>
        cases sl with
        | val d => rfl
        | exn => rfl
        | own b d2 =>
          simp only
          cases resolve ρ1 ri with
          | none => rfl
          | some i => simp only; cases setD d2 i d <;> rfl
@[simp] theorem x_mStore {mo mi me : M} {ρ : Rho} : mStore mo mi me ρ = bindSF (me ρ) fun rv ρ1 => bindSF (mo ρ1) fun ro ρ2 => bindSF (mi ρ2) fun ri ρ3 => storeR rv ro ri ρ3 := rfl
def valO (o : Option (Option Slot)) : Option D := match o with
  | some (some (.val d)) => some d
  | _ => none
@[simp] theorem x_valO {d : D} : valO (some (some (.val d))) = some d := rfl
def valS (o : Option Res) (k : D → SOut) : SOut := match o with
  | some (.val d) => k d
  | _ => .stuck
@[simp] theorem x_valS {d : D} {k : D → SOut} : valS (some (.val d)) k = k d := rfl
@[simp] theorem x_augR {f : D → D → Option Res} {i : Nat} {r : Res} {ρ : Rho} : PyD.augR f i r ρ = optS (valO ρ[i]?) fun d => optS (resolve ρ r) fun e => valS (f d e) fun z => .nx (ρ.set i (some (.val z))) := by
  simp only [PyD.augR, optS, valO, valS]
  cases ρ[i]? with
  | none => rfl
  | some s =>
    cases s with
    | none => rfl
    | some s =>
      cases s with
      | own b d => rfl
      | exn => rfl
      | val d =>
        simp only
        cases resolve ρ r with
        | none => rfl
        | some e => rfl
@[simp] theorem x_mAug {f : D → D → Option Res} {i : Nat} {m : M} {ρ : Rho} : mAug f i m ρ = optS (valO ρ[i]?) fun _ => bindSF (m ρ) fun r ρ1 => PyD.augR f i r ρ1 := by
  simp only [mAug, optS, valO]
  cases ρ[i]? with
  | none => rfl
  | some s =>
    cases s with
    | none => rfl
    | some s => cases s <;> rfl
/-! loops -/
@[simp] theorem x_itemsL {xs : List D} : itemsD (.lst xs) = some xs := rfl
@[simp] theorem x_itemsT {xs : List D} : itemsD (.tup xs) = some xs := rfl
@[simp] theorem x_itemsS {z : Str} : itemsD (.str z) = some (signsD z) := rfl
@[simp] theorem x_itemsR {r : Res} {ρ : Rho} : itemsR r ρ = optO (PyD.settle r ρ) fun p => optO (itemsD p.1) fun ds => .ok ds p.2 := by
  unfold itemsR optO
  cases PyD.settle r ρ with
  | none => rfl
  | some p => obtain ⟨d, ρ1⟩ := p; simp only; cases itemsD d <;> rfl
@[simp] theorem x_iSeq {m : M} {ρ : Rho} : iSeq m ρ = bindF (m ρ) fun r ρ1 => itemsR r ρ1 := rfl
def rng1 (o : Option (List D)) (ρ : Rho) : Out (List D) := match o with
  | some [.int j] => if decide (-(2 ^ 62) ≤ j) && decide (j < 2 ^ 62) then .ok (rangeD 0 j.toNat) ρ else .stuck
  | _ => .stuck
@[simp] theorem x_rng1 {j : Int} {ρ : Rho} : rng1 (some [.int j]) ρ = if decide (-(2 ^ 62) ≤ j) && decide (j < 2 ^ 62) then .ok (rangeD 0 j.toNat) ρ else .stuck := rfl
@[simp] theorem x_iRange {ma : MA} {ρ : Rho} : iRange ma ρ = bindO (ma ρ) fun rs ρ1 => rng1 (resolves ρ1 rs) ρ1 := rfl
@[simp] theorem x_forN {f : Tg} {b : MS} {ρ : Rho} : forD f b [] ρ = .nx ρ := rfl
@[simp] theorem x_forC {f : Tg} {b : MS} {d : D} {ds : List D} {ρ : Rho} : forD f b (d :: ds) ρ = optS (f d ρ) fun ρ1 => loopS (b ρ1) fun ρ2 => forD f b ds ρ2 := by
  simp only [forD, optS, loopS]
  cases f d ρ with
  | none => rfl
  | some ρ1 => simp only <;> cases b ρ1 <;> rfl
@[simp] theorem x_mFor {mi : MI} {f : Tg} {b : MS} {ρ : Rho} : mFor mi f b ρ = bindSO (mi ρ) fun ds ρ1 => forD f b ds ρ1 := rfl
theorem x_while {t : MB} {b : MS} {n : Nat} {ρ : Rho} (h : 0 < n) : whileD t b n ρ = bindSO (t ρ) fun k ρ1 => if k = true then loopS (b ρ1) (whileD t b (n - 1)) else .nx ρ1 := by
  cases n with
  | zero => omega
  | succ n =>
    simp only [whileD, bindSO, loopS, Nat.add_sub_cancel]
    cases t ρ with
    | ok k ρ1 => cases k <;> simp <;> cases b ρ1 <;> rfl
    | exc x ρ1 => rfl
    | stuck => rfl
@[simp] theorem x_lcN {vs : List Nat} {f : Tg} {t : MB} {me : M} {acc : List D} {ρ : Rho} : lcD vs f t me [] acc ρ = .ok acc ρ := rfl
theorem x_lcC {vs : List Nat} {f : Tg} {t : MB} {me : M} {d : D} {ds acc : List D} {ρ : Rho} : lcD vs f t me (d :: ds) acc ρ = optO (f d ρ) fun ρ1 => bindN (t ρ1) fun k ρ2 => if k = true then bindN (me ρ2) fun r ρ3 => optO (PyD.settle r.frz ρ3) fun p => if acc.length < sizeLine then lcD vs f t me ds (acc ++ [p.1]) (wipeR p.2 vs) else .stuck
    else lcD vs f t me ds acc (wipeR ρ2 vs) := by
  simp only [lcD, optO, bindN]
  cases f d ρ with
  | none => rfl
  | some ρ1 =>
    simp only
    cases t ρ1 with
    | ok k ρ2 =>
      cases k with
      | true =>
        simp only [if_true]
        cases me ρ2 with
        | ok r ρ3 =>
          simp only
          cases PyD.settle r.frz ρ3 with
          | none => rfl
          | some p => rfl
        | exc x ρ3 => rfl
        | stuck => rfl
      | false => rfl
    | exc x ρ2 => rfl
    | stuck => rfl
def lcF (o : Out (List D)) : Out Res := match o with | .ok acc ρ => .ok (.new (.lst acc)) ρ | _ => .stuck
@[simp] theorem x_lcF {acc : List D} {ρ : Rho} : lcF (.ok acc ρ) = .ok (.new (.lst acc)) ρ := rfl
@[simp] theorem x_mLc {vs : List Nat} {mi : MI} {f : Tg} {t : MB} {me : M} {ρ : Rho} : mLc vs mi f t me ρ = bindO (mi ρ) fun ds ρ1 => lcF (lcD vs f t me ds [] (wipeR ρ1 vs)) := rfl
@[simp] theorem x_frzV {d : D} : (Res.val d).frz = .val d := rfl
@[simp] theorem x_frzN {d : D} : (Res.new d).frz = .val (strip d) := rfl
@[simp] theorem x_frzA {i : Nat} : (Res.at i).frz = .at i := rfl
/-! calls -/
def cRet (o : FOut) (as : List BArg) (ρ : Rho) : Out Res := match o with
  | .ret r os => optO (wb as os ρ) fun ρ2 => .ok r ρ2
  | .exc x os => (match wb as os ρ with | some ρ2 => .exc x ρ2 | none => .stuck)
  | .stuck => .stuck
theorem cg_cRet {o o' : FOut} {as : List BArg} {ρ : Rho} (h : o = o') : cRet o as ρ = cRet o' as ρ := by rw [h]
@[simp] theorem x_cRet {r : Res} {os : List D} {as : List BArg} {ρ : Rho} : cRet (.ret r os) as ρ = optO (wb as os ρ) fun ρ2 => .ok r ρ2 := rfl
def excO (x : Exc) (o : Option Rho) : Out Res := match o with | some ρ => .exc x ρ | none => .stuck
@[simp] theorem x_excO {x : Exc} {ρ : Rho} : excO x (some ρ) = .exc x ρ := rfl
@[simp] theorem x_cRetx {x : Exc} {os : List D} {as : List BArg} {ρ : Rho} : cRet (.exc x os) as ρ = excO x (wb as os ρ) := rfl
@[simp] theorem x_callR {mk : List Bool} {f : Fn} {rs : List Res} {ρ : Rho} : callR mk f rs ρ = optO (prep1 mk rs ρ) fun p => optO (prep2 p.2 p.1) fun as => cRet (f (as.map BArg.strip)) as p.2 := by
  simp only [callR, optO, cRet]
  cases prep1 mk rs ρ with
  | none => rfl
  | some p =>
    obtain ⟨ms, ρ1⟩ := p
    simp only
    cases prep2 ρ1 ms with
    | none => rfl
    | some as =>
      simp only
      cases f (as.map BArg.strip) with
      | ret r os => simp only; cases wb as os ρ1 <;> rfl
      | exc x os => rfl
      | stuck => rfl
@[simp] theorem x_mCall {n : Nat} {mk : List Bool} {f : Fn} {ma : MA} {ρ : Rho} : mCall n mk f ma ρ = bindO (ma ρ) fun rs ρ1 => if rs.length = n then callR mk f rs ρ1 else .stuck := rfl
@[simp] theorem x_p1N {mk : List Bool} {ρ : Rho} : prep1 mk [] ρ = some ([], ρ) := by cases mk <;> rfl
def p1C (o : Option (D × Rho)) (k : Rho → Option (List (D ⊕ Nat) × Rho)) : Option (List (D ⊕ Nat) × Rho) := match o with
  | some (d, ρ) => (k ρ).map fun p => (.inl d :: p.1, p.2)
  | none => none
theorem cg_p1C {o o' : Option (D × Rho)} {k : Rho → Option (List (D ⊕ Nat) × Rho)} (h : o = o') : p1C o k = p1C o' k := by rw [h]
@[simp] theorem x_p1C {d : D} {ρ : Rho} {k : Rho → Option (List (D ⊕ Nat) × Rho)} : p1C (some (d, ρ)) k = (k ρ).map fun p => (.inl d :: p.1, p.2) := rfl
theorem p1_aux {mk : List Bool} {r : Res} {rs : List Res} {ρ : Rho} : (match PyD.settle r ρ with
    | some (d, ρ1) => (match prep1 mk.tail rs ρ1 with
      | some (ms, ρ2) => some (Sum.inl d :: ms, ρ2)
      | none => none)
    | none => none) = p1C (PyD.settle r ρ) fun ρ1 => prep1 mk.tail rs ρ1 := by
  unfold p1C
  cases PyD.settle r ρ with
  | none => rfl
  | some p =>
    simp only
    cases prep1 mk.tail rs p.2 <;> rfl
@[simp] theorem x_p1V {mk : List Bool} {d : D} {rs : List Res} {ρ : Rho} : prep1 mk (.val d :: rs) ρ = p1C (PyD.settle (.val d) ρ) fun ρ1 => prep1 mk.tail rs ρ1 := by
  rw [← p1_aux]
  cases mk with
  | nil => rfl
  | cons b bs => cases b <;> rfl
@[simp] theorem x_p1F {mk : List Bool} {i : Nat} {rs : List Res} {ρ : Rho} : prep1 (false :: mk) (.at i :: rs) ρ = p1C (PyD.settle (.at i) ρ) fun ρ1 => prep1 mk rs ρ1 := by
  rw [show (fun ρ1 => prep1 mk rs ρ1) = (fun ρ1 => prep1 (false :: mk).tail rs ρ1) from rfl, ← p1_aux]; rfl
@[simp] theorem x_p1E {i : Nat} {rs : List Res} {ρ : Rho} : prep1 [] (.at i :: rs) ρ = p1C (PyD.settle (.at i) ρ) fun ρ1 => prep1 [] rs ρ1 := by
  rw [show (fun ρ1 => prep1 [] rs ρ1) = (fun ρ1 => prep1 ([] : List Bool).tail rs ρ1) from rfl, ← p1_aux]; rfl
@[simp] theorem x_p1T {mk : List Bool} {i : Nat} {rs : List Res} {ρ : Rho} : prep1 (true :: mk) (.at i :: rs) ρ = (prep1 mk rs ρ).map fun p => (.inr i :: p.1, p.2) := by
  show (match prep1 mk rs ρ with | some (ms, ρ2) => some (Sum.inr i :: ms, ρ2) | none => none) = _
  cases prep1 mk rs ρ <;> rfl
@[simp] theorem x_p2N {ρ : Rho} : prep2 ρ [] = some [] := rfl
@[simp] theorem x_p2V {ρ : Rho} {d : D} {ms : List (D ⊕ Nat)} : prep2 ρ (.inl d :: ms) = (prep2 ρ ms).map (.v d :: ·) := rfl
def p2A (o : Option (Option Slot)) (i : Nat) (r : Option (List BArg)) : Option (List BArg) := match o with
  | some (some (.own b d)) => r.bind fun as => if i ∈ idx as then none else some (.o i b d :: as)
  | some (some (.val d)) => r.map (.v d :: ·)
  | _ => none
@[simp] theorem x_p2Ao {b : Option Nat} {d : D} {i : Nat} {r : Option (List BArg)} : p2A (some (some (.own b d))) i r = r.bind fun as => if i ∈ idx as then none else some (.o i b d :: as) := rfl
@[simp] theorem x_p2Av {d : D} {i : Nat} {r : Option (List BArg)} : p2A (some (some (.val d))) i r = r.map (.v d :: ·) := rfl
@[simp] theorem x_p2A {ρ : Rho} {i : Nat} {ms : List (D ⊕ Nat)} : prep2 ρ (.inr i :: ms) = p2A ρ[i]? i (prep2 ρ ms) := by
  simp only [prep2, p2A]
  cases ρ[i]? with
  | none => rfl
  | some s =>
    cases s with
    | none => rfl
    | some s =>
      cases s with
      | val d => rfl
      | exn => rfl
      | own b d => simp only; cases prep2 ρ ms <;> rfl
@[simp] theorem x_idxN : idx [] = [] := rfl
@[simp] theorem x_idxV {d : D} {as : List BArg} : idx (.v d :: as) = idx as := rfl
@[simp] theorem x_idxO {i : Nat} {b : Option Nat} {d : D} {as : List BArg} : idx (.o i b d :: as) = i :: idx as := rfl
@[simp] theorem x_strV {d : D} : (BArg.v d).strip = .v d := rfl
@[simp] theorem x_strO {i : Nat} {b : Option Nat} {d : D} : (BArg.o i b d).strip = .o d := rfl
@[simp] theorem x_wbN {ρ : Rho} : wb [] [] ρ = some ρ := rfl
@[simp] theorem x_wbV {d : D} {as : List BArg} {os : List D} {ρ : Rho} : wb (.v d :: as) os ρ = wb as os ρ := by cases os <;> rfl
@[simp] theorem x_wbO {i : Nat} {b : Option Nat} {d d' : D} {as : List BArg} {os : List D} {ρ : Rho} : wb (.o i b d :: as) (d' :: os) ρ = (wb as os ρ).map fun ρ => ρ.set i (some (.own b d')) := rfl
/-! a def's own run -/
def finS (as : List Arg) (o : SOut) : FOut := match o with
  | .nx ρ => optF (outsOf ρ 0 as) fun os => .ret (.val .non) os
  | .ret (.val d) ρ => optF (outsOf ρ 0 as) fun os => .ret (.val d) os
  | .ret (.new d) ρ => optF (outsOf ρ 0 as) fun os => .ret (.new d) os
  | .exc x ρ => optF (outsOf ρ 0 as) fun os => .exc x os
  | _ => .stuck
@[simp] theorem x_finSn {as : List Arg} {ρ : Rho} : finS as (.nx ρ) = optF (outsOf ρ 0 as) fun os => .ret (.val .non) os := rfl
@[simp] theorem x_finSv {as : List Arg} {d : D} {ρ : Rho} : finS as (.ret (.val d) ρ) = optF (outsOf ρ 0 as) fun os => .ret (.val d) os := rfl
@[simp] theorem x_finSw {as : List Arg} {d : D} {ρ : Rho} : finS as (.ret (.new d) ρ) = optF (outsOf ρ 0 as) fun os => .ret (.new d) os := rfl
@[simp] theorem x_finSx {as : List Arg} {x : Exc} {ρ : Rho} : finS as (.exc x ρ) = optF (outsOf ρ 0 as) fun os => .exc x os := rfl
theorem x_mkFn {nl : Nat} {m : MS} {as : List Arg} : mkFn nl m as = finS as (m (slotsOf 0 as ++ List.replicate nl none)) := by
  simp only [mkFn, finS, fin, optF]
  cases m (slotsOf 0 as ++ List.replicate nl none) with
  | ret r ρ => cases r <;> first | rfl | (simp only; cases outsOf ρ 0 as <;> rfl)
  | nx ρ => simp only; cases outsOf ρ 0 as <;> rfl
  | exc x ρ => simp only; cases outsOf ρ 0 as <;> rfl
  | _ => rfl
@[simp] theorem x_slN {k : Nat} : slotsOf k [] = [] := rfl
@[simp] theorem x_slV {k : Nat} {d : D} {as : List Arg} : slotsOf k (.v d :: as) = some (.val d) :: slotsOf (k + 1) as := rfl
@[simp] theorem x_slO {k : Nat} {d : D} {as : List Arg} : slotsOf k (.o d :: as) = some (.own (some k) d) :: slotsOf (k + 1) as := rfl
@[simp] theorem x_outN {ρ : Rho} {k : Nat} : outsOf ρ k [] = some [] := rfl
@[simp] theorem x_outV {ρ : Rho} {k : Nat} {d : D} {as : List Arg} : outsOf ρ k (.v d :: as) = outsOf ρ (k + 1) as := rfl
def outA (o : Option (Option Slot)) (k : Nat) (r : Option (List D)) : Option (List D) := match o with
  | some (some (.own (some j) d)) => if j = k then r.map (d :: ·) else none
  | _ => none
@[simp] theorem x_outA {j : Nat} {d : D} {k : Nat} {r : Option (List D)} : outA (some (some (.own (some j) d))) k r = if j = k then r.map (d :: ·) else none := rfl
@[simp] theorem x_outO {ρ : Rho} {k : Nat} {d : D} {as : List Arg} : outsOf ρ k (.o d :: as) = outA ρ[k]? k (outsOf ρ (k + 1) as) := by
  cases h : ρ[k]? with
  | none => simp only [outsOf, outA, h]
  | some s =>
    cases s with
    | none => simp only [outsOf, outA, h]
    | some s =>
      cases s with
      | val d => simp only [outsOf, outA, h]
      | exn => simp only [outsOf, outA, h]
      | own b d => cases b <;> simp only [outsOf, outA, h]
@[simp] theorem x_wipeN {ρ : Rho} : wipeR ρ [] = ρ := rfl
@[simp] theorem x_wipeC {ρ : Rho} {v : Nat} {vs : List Nat} : wipeR ρ (v :: vs) = (wipeR ρ vs).set v none := rfl
/-! data -/
@[simp] theorem x_addI {i j : Int} : addD (.int i) (.int j) = some (.val (.int (i + j))) := rfl
@[simp] theorem x_addS {i j : Str} : addD (.str i) (.str j) = if i.length + j.length ≤ sizeLine then some (.val (.str (i ++ j))) else none := by
  by_cases h : i.length + j.length ≤ sizeLine <;> simp [addD, orF, fII, fAddS, h, fAddT, fAddL]
@[simp] theorem x_addL {i j : List D} : addD (.lst i) (.lst j) = if i.length + j.length ≤ sizeLine then some (.new (.lst (i ++ j))) else none := rfl
@[simp] theorem x_addT {i j : List D} : addD (.tup i) (.tup j) = if i.length + j.length ≤ sizeLine then some (.val (.tup (i ++ j))) else none := by
  by_cases h : i.length + j.length ≤ sizeLine <;> simp [addD, orF, fII, fAddS, h, fAddT, fAddL]
@[simp] theorem x_subI {i j : Int} : subD (.int i) (.int j) = some (.val (.int (i - j))) := rfl
@[simp] theorem x_mulI {i j : Int} : mulD (.int i) (.int j) = if mulC i j then some (.val (.int (i * j))) else none := by
  simp only [mulD, orF, fII]; split
  · split at * <;> simp_all
  · rename_i h; split at h <;> simp_all [fRepL, fRepT]
@[simp] theorem x_fdivI {i j : Int} : fdivD (.int i) (.int j) = if divC i j then some (.val (.int (i / j))) else none := rfl
@[simp] theorem x_modI {i j : Int} : modD (.int i) (.int j) = if 0 < j then some (.val (.int (i % j))) else none := by
  simp only [modD, fII, decide_eq_true_eq]
@[simp] theorem x_ltI {i j : Int} : ltD (.int i) (.int j) = some (.val (.bl (decide (i < j)))) := rfl
@[simp] theorem x_leI {i j : Int} : leD (.int i) (.int j) = some (.val (.bl (decide (i ≤ j)))) := rfl
@[simp] theorem x_gtI {i j : Int} : gtD (.int i) (.int j) = some (.val (.bl (decide (j < i)))) := rfl
@[simp] theorem x_geI {i j : Int} : geD (.int i) (.int j) = some (.val (.bl (decide (j ≤ i)))) := rfl
@[simp] theorem x_ltS {i j : Str} : ltD (.str i) (.str j) = some (.val (.bl (decide (i.cps.toList < j.cps.toList)))) := rfl
@[simp] theorem x_ixL {xs : List D} {i : Int} : ixD (.lst xs) (.int i) = (atI xs i).map .val := rfl
@[simp] theorem x_ixT {xs : List D} {i : Int} : ixD (.tup xs) (.int i) = (atI xs i).map .val := rfl
@[simp] theorem x_ixR {xs : List Int} {i : Int} : ixD (.scr xs) (.int i) = (atI xs i).map fun n => .val (.int n) := rfl
@[simp] theorem x_ixS {z : Str} {i : Int} : ixD (.str z) (.int i) = if z.length ≤ sizeLine then (atI z.cps.toList i).map fun c => .val (.str ⟨#[c]⟩) else none := rfl
@[simp] theorem x_isB {a b : Bool} : isD (.bl a) (.bl b) = some (.val (.bl (decide (a = b)))) := by simp [isD, orF, fIsB]
@[simp] theorem x_isNB {a b : Bool} : isNotD (.bl a) (.bl b) = some (.val (.bl (!decide (a = b)))) := by simp [isNotD, orF, fIsB]
@[simp] theorem x_isNn {x : D} : isD x .non = some (.val (.bl (isN x))) := by cases x <;> rfl
@[simp] theorem x_isNotN {x : D} : isNotD x .non = some (.val (.bl (!isN x))) := by cases x <;> rfl
@[simp] theorem x_intDi {i : Int} : intD [.int i] = some (.val (.int i)) := rfl
@[simp] theorem x_intDb {b : Bool} : intD [.bl b] = some (.val (.int (if b then 1 else 0))) := rfl
@[simp] theorem x_maxD {i j : Int} : maxD [.int i, .int j] = some (.val (.int (if j > i then j else i))) := rfl
@[simp] theorem x_minD {i j : Int} : minD [.int i, .int j] = some (.val (.int (if j < i then j else i))) := rfl
@[simp] theorem x_absD {i : Int} : absD [.int i] = some (.val (.int (if i < 0 then -i else i))) := rfl
@[simp] theorem x_lenDl {xs : List D} : lenD [.lst xs] = some (.val (.int (xs.length : Nat))) := rfl
@[simp] theorem x_lenDt {xs : List D} : lenD [.tup xs] = some (.val (.int (xs.length : Nat))) := rfl
@[simp] theorem x_lenDr {xs : List Int} : lenD [.scr xs] = some (.val (.int (xs.length : Nat))) := rfl
@[simp] theorem x_lenDd {xs : List (Key × D)} : lenD [.dct xs] = some (.val (.int (xs.length : Nat))) := rfl
@[simp] theorem x_lenDs {z : Str} : lenD [.str z] = if z.length ≤ sizeLine then some (.val (.int (z.length : Nat))) else none := by
  simp only [lenD, lenN]; split <;> rfl
@[simp] theorem x_tupD {ds : List D} : tupD ds = if ds.length ≤ sizeLine then some (.val (.tup ds)) else none := rfl
@[simp] theorem x_lstD {ds : List D} : lstD ds = if ds.length ≤ sizeLine then some (.new (.lst ds)) else none := rfl
@[simp] theorem x_listT {xs : List D} : listD [.tup xs] = some (.new (.lst xs)) := rfl
@[simp] theorem x_listL {xs : List D} : listD [.lst xs] = some (.new (.lst xs)) := rfl
@[simp] theorem x_tupleT {xs : List D} : tupleD [.tup xs] = some (.val (.tup xs)) := rfl
@[simp] theorem x_tupleL {xs : List D} : tupleD [.lst xs] = some (.val (.tup xs)) := rfl
@[simp] theorem x_sz : sizeLine = 16777216 := sizeLine_eq
end PyD

namespace PyD
open PySem PySem.Spec PyProof.Rows L2
/-! ### comprehensions and loops as plain functions -/
theorem lc_map {vs : List Nat} {f : Tg} {t : MB} {me : M} {g : D → D} {ρ : Rho} : ∀ {ds acc : List D}, (∀ d ∈ ds, ∃ ρ1 r, f d ρ = some ρ1 ∧ t ρ1 = .ok true ρ1 ∧ me ρ1 = .ok r ρ1 ∧ r.frz = .val (g d) ∧ wipeR ρ1 vs = ρ) → acc.length + ds.length ≤ sizeLine →
    lcD vs f t me ds acc ρ = .ok (acc ++ ds.map g) ρ
  | [], acc, _, _ => by simp
  | d :: ds, acc, h, hl => by
    obtain ⟨ρ1, r, h1, h2, h3, h4, h5⟩ := h d (List.mem_cons_self ..)
    have hl' : acc.length < sizeLine := by simp only [List.length_cons] at hl; omega
    rw [x_lcC, h1]
    simp only [x_optO, h2, x_bindN, if_true, h3, h4, x_setV, hl', h5]
    rw [lc_map (fun d' hd => h d' (List.mem_cons_of_mem _ hd)) (by simp only [List.length_append, List.length_cons, List.length_nil] at hl ⊢; omega)]
    simp
/-- with a test -/
theorem lc_filter {vs : List Nat} {f : Tg} {t : MB} {me : M} {p : D → Bool} {g : D → D} {ρ : Rho} : ∀ {ds acc : List D}, (∀ d ∈ ds, ∃ ρ1, f d ρ = some ρ1 ∧ t ρ1 = .ok (p d) ρ1 ∧ wipeR ρ1 vs = ρ ∧ (p d = true → ∃ r, me ρ1 = .ok r ρ1 ∧ r.frz = .val (g d))) → acc.length + ds.length ≤ sizeLine →
    lcD vs f t me ds acc ρ = .ok (acc ++ (ds.filter p).map g) ρ
  | [], acc, _, _ => by simp
  | d :: ds, acc, h, hl => by
    obtain ⟨ρ1, h1, h2, h5, h6⟩ := h d (List.mem_cons_self ..)
    have hl' : acc.length < sizeLine := by simp only [List.length_cons] at hl; omega
    rw [x_lcC, h1]
    simp only [x_optO, h2, x_bindN]
    cases hp : p d with
    | true =>
      obtain ⟨r, h3, h4⟩ := h6 hp
      simp only [if_true, h3, h4, x_setV, hl', h5, x_bindN, x_optO]
      rw [lc_filter (fun d' hd => h d' (List.mem_cons_of_mem _ hd)) (by simp only [List.length_append, List.length_cons, List.length_nil] at hl ⊢; omega)]
      simp [hp]
    | false =>
      simp only [Bool.false_eq_true, if_false, h5]
      rw [lc_filter (fun d' hd => h d' (List.mem_cons_of_mem _ hd)) (by simp only [List.length_cons] at hl; omega)]
      simp [hp]
/-! ### texts and equality -/
theorem ofS_inj {a b : String} : (Str.ofString a = Str.ofString b) ↔ a = b := by
  constructor
  · intro h
    rw [Str.ofString_eq_toList, Str.ofString_eq_toList] at h
    have h1 : a.toList.map Char.toNat = b.toList.map Char.toNat := by
      have := congrArg Str.cps h
      simpa using congrArg Array.toList this
    have inj : ∀ x y : List Char, x.map Char.toNat = y.map Char.toNat → x = y := fun x => by
      induction x with
      | nil => intro y h; cases y with | nil => rfl | cons c y => simp at h
      | cons c x ih =>
        intro y h
        cases y with
        | nil => simp at h
        | cons d y =>
          simp only [List.map_cons, List.cons.injEq] at h
          rw [ih y h.2]
          have : c = d := by
            have e := h.1
            exact Char.ext (UInt32.toNat_inj.mp e)
          rw [this]
    exact String.toList_inj.mp (inj _ _ h1)
  · intro h; rw [h]
@[simp] theorem x_ofS {a b : String} : decide (Str.ofString a = Str.ofString b) = decide (a = b) := by simp only [ofS_inj]
@[simp] theorem x_eqS {a b : Str} : eqD (.str a) (.str b) = some (.val (.bl (decide (a = b)))) := rfl
@[simp] theorem x_eqI {a b : Int} : eqD (.int a) (.int b) = some (.val (.bl (decide (a = b)))) := rfl
@[simp] theorem x_eqBl {a b : Bool} : eqD (.bl a) (.bl b) = some (.val (.bl (decide (a = b)))) := rfl
@[simp] theorem x_eqNI {b : Int} : eqD .non (.int b) = some (.val (.bl false)) := rfl
@[simp] theorem x_eqIN {b : Int} : eqD (.int b) .non = some (.val (.bl false)) := rfl
@[simp] theorem x_neS {a b : Str} : neD (.str a) (.str b) = some (.val (.bl (!decide (a = b)))) := rfl
@[simp] theorem x_neI {a b : Int} : neD (.int a) (.int b) = some (.val (.bl (!decide (a = b)))) := rfl
@[simp] theorem x_neBl {a b : Bool} : neD (.bl a) (.bl b) = some (.val (.bl (!decide (a = b)))) := rfl
/-! ### the pools that laws draw from -/
structure Pl where
  a : Int
  b : Int
  h : 0 ≤ a ∧ 0 ≤ b ∧ b < 2147483647
def poolD (p : Pl) : D := .lst [.int p.a, .int p.b]
def pd (p : Pl) (n : Int) : Int := if 0 < p.a then p.a % n else (p.b * 48271 + 11) % 2147483647 * ((p.b * 48271 + 11) % 2147483647) % 2147483629 / 16 % n
def pn (p : Pl) (n : Int) : Pl := if h : 0 < p.a ∧ 0 < n then ⟨p.a / n, p.b, Int.ediv_nonneg p.h.1 (Int.le_of_lt h.2), p.h.2⟩ else if 0 < p.a then p else ⟨p.a, (p.b * 48271 + 11) % 2147483647, p.h.1, Int.emod_nonneg _ (by decide), Int.emod_lt_of_pos _ (by decide)⟩
theorem pd_nonneg (p : Pl) {n : Int} (h : 0 < n) : 0 ≤ pd p n := by
  unfold pd; split <;> exact Int.emod_nonneg _ (by omega)
theorem pd_lt (p : Pl) {n : Int} (h : 0 < n) : pd p n < n := by
  unfold pd; split <;> exact Int.emod_lt_of_pos _ h
theorem mulC_l {i j : Int} (h : -(2 ^ 64) < i) (h2 : i < 2 ^ 64) : mulC i j = true := by unfold mulC; simp; omega
theorem mulC_r {i j : Int} (h : -(2 ^ 64) < j) (h2 : j < 2 ^ 64) : mulC i j = true := by unfold mulC; simp; omega
theorem divC_ok {i j : Int} (h : 0 < j) (h2 : j < 1073741824) : divC i j = true := by unfold divC; simp [h, h2]
/-- the item at a drawn place -/
theorem atI_of {α : Type} {xs : List α} {i : Int} (h : 0 ≤ i) (h2 : i < xs.length) : L2.atI xs i = xs[i.toNat]? := by
  unfold L2.atI ixN
  simp [h, h2]
end PyD

namespace PyD
open PySem PySem.Spec PyProof.Rows L2

/-! ### attributes of instances -/
def fldD (T : Tab) (f : Str) : D → Option Res
  | .obj c fs => if c < T.n ∧ f ∈ T.flds c then (fs.lookup f).map .val else none
  | _ => none
section
variable {X : Cx} {Γ : Gm} {W : WX} {e o : Expr} {m mo me : M} {pos pos' : Pos} {f : Str} {T : Tab}
theorem je_fld (O : TabOk Γ.G T) (hK : X.K = Γ.G.K) (he : PE X e (tM Γ W m)) (hb : attributeBase e f X.env (eval e X.env) = eval e X.env := by rfl) : PE X (.Attribute e f pos) (tM Γ W (mUn (fldD T f) m)) :=
  (pe_fld (je_f he) hb).imp fun σ H Q ⟨ρ, F, R, p⟩ => ⟨ρ, F, R, p.bindF fun r ρ1 v F1 H1 s1 hr p1 => by
    unfold op1 at p1
    split at p1
    · rename_i d e1
      split at p1
      · rename_i res e2
        unfold fldD at e2
        split at e2
        · rename_i c fs
          split at e2
          · rename_i w
            obtain ⟨z, e3, rfl⟩ := Option.map_eq_some_iff.mp e2
            obtain ⟨a, dx, vs, rfl, h1, t⟩ := (hr.view s1.rel e1).obj s1.rel.sub
            obtain ⟨u, h2, h3⟩ := t.look e3
            rw [hK]
            exact ⟨a, _, dx, vs, u, rfl, h1, O.cls c w.1, O.fld c w.1 f w.2, h2, p1 u F1 H1 (.refl s1.rel) h3⟩
          · cases e2
        · cases e2
      · exact p1.elim
    · exact p1.elim⟩
/-! self.f = e -/
def fldR (T : Tab) (f : Str) (rv ro : Res) (ρ : Rho) : SOut := match ro with
  | .at s => (match settle rv ρ with
    | some (d, ρ1) => (match ρ1[s]? with
      | some (some (.own b (.obj c fs))) => if (c < T.n ∧ f ∈ T.flds c) ∧ fs.length < 1000 then .nx (ρ1.set s (some (.own b (.obj c (putD f d fs))))) else .stuck
      | _ => .stuck)
    | none => .stuck)
  | _ => .stuck
def mFldS (T : Tab) (f : Str) (mo me : M) : MS := fun ρ => bindSF (me ρ) fun rv ρ1 => bindSF (mo ρ1) fun ro ρ2 => fldR T f rv ro ρ2
theorem js_fld (O : TabOk Γ.G T) (hK : X.K = Γ.G.K) (ho : PE X o (tM Γ W mo)) (he : PE X e (tM Γ W me)) (hs : swapsWith e (some (.Attribute o f pos')) pos.line X.env = pure false := by rfl) : PS X (.Assign [.Attribute o f pos'] e pos) (tMS Γ W (mFldS T f mo me)) :=
  (ps_fld (je_f ho) (je_f he) hs).imp fun D σ H ⟨ρ, F, R, p⟩ => ⟨ρ, F, R, p.bindF fun rv ρ1 v F1 H1 s1 hv p1 => ⟨ρ1, F1, s1.rel, p1.bindF fun ro ρ2 x F2 H2 s2 ho' p2 => by
    unfold fldR at p2
    split at p2
    · rename_i s
      split at p2
      · rename_i d ρ3 e1
        obtain ⟨F3, s3, q3⟩ := settle_ok s2.rel (hv.mono s2.subF) e1
        split at p2
        · rename_i b c fs e2
          split at p2
          · rename_i w
            have ho' : σ[s]? = some (some x) := ho'
            obtain ⟨a, L, z, ce, hb, ow⟩ := s3.rel.slotO e2 ho'
            subst z
            obtain ⟨dx, vs, h2, t⟩ := (ce.cell rfl).1
            rw [hK]
            refine ⟨a, _, dx, vs, rfl, h2, O.cls c w.1.1, O.fld c w.1.1 f w.1.2, by rw [t.length]; exact w.2, ?_⟩
            exact p2 σ F3 _ (s3.trans (s3.rel.upd e2 ho' ce rfl ⟨dx, _, upd_same, t.put q3⟩))
          · exact p2.elim
        · exact p2.elim
      · exact p2.elim
    · exact p2.elim⟩⟩
end

/-! ### o.m(..) -/
/-- what is known of a method -/
structure MtFact (P : Program) (w : World) (K : PySem.W.Frag) (mg : Str → Option Value) (base : Heap) (G : Gx) (c : Nat) (m : Str) (n k : Nat) (ps : List Str) (g : Fn) : Prop where
  ex : ∃ f fd, Meth K (G.cl c) m f ∧ Binds K fd ps [] ∧ FnOkG P w K mg base k f fd ps (spF G n g)
def methR (c : Nat) (m : Str) (r : Res) (ρ : Rho) : Bool := match resolve ρ r with
  | some (.obj c' fs) => c' == c && (fs.lookup m).isNone
  | _ => false
def mMeth (c : Nat) (m : Str) (n : Nat) (mk : List Bool) (f : Fn) (mo : M) (ma : MA) : M := fun ρ => bindF (mo ρ) fun r ρ1 => if methR c m r ρ1 = true then bindO (ma ρ1) fun rs ρ2 => if (r :: rs).length = n then callR mk f (r :: rs) ρ2 else .stuck else .stuck
section
variable {X : Cx} {Γ : Gm} {W : WX} {o e : Expr} {es : List Expr} {mo : M} {ma : MA} {pos apos : Pos} {m : Str} {c n k : Nat} {ps : List Str} {mk : List Bool} {g : Fn}
theorem methR_ok {ρ : Rho} {σ : St} {F H : Hp} {r : Res} {v : V} (R : Rel Γ ρ σ F H) (hr : RepF Γ.G σ F v r) (h : methR c m r ρ = true) : ∃ a dx fs, v = .ref a ∧ H a = some (.ins (Γ.G.cl c) dx fs) ∧ fs.lookup m = none := by
  unfold methR at h
  split at h
  · rename_i c' fs e
    obtain ⟨h1, h2⟩ := Bool.and_eq_true_iff.mp h
    obtain rfl : c' = c := by simpa using h1
    obtain ⟨a, dx, vs, rfl, ha, t⟩ := (hr.view R e).obj R.sub
    exact ⟨a, dx, vs, rfl, ha, t.lookN (by simpa using h2)⟩
  · cases h
theorem je_meth {pl : Sem Bool} (tk : Takes X W) (Fo : MtFact X.prog X.w X.K X.mg X.base Γ.G c m n k ps g) (hc : Cls X.K (Γ.G.cl c)) (hr : RG k X.A) (he : PE X o (tM Γ W mo)) (ha : PA X (e :: es) (tMA Γ W ma))
    (hst : starEach (e :: es) X.env = (false, eval e X.env) :: starEach es X.env := by rfl) (hpl : (backTo pos (starEach es X.env)).any (·.1) = false := by rfl)
    (ht : eval (.Call (.Attribute o m apos) (e :: es) [] pos) X.env = (do let ov ← eval o X.env; standAt apos.atName; let (f, first) ← holding [ov] (getMethod ov m pl); callWith pos f first (backTo pos (starEach (e :: es) X.env)) (backToKw pos (keywordEach [] X.env))) := by rfl) :
    PE X (.Call (.Attribute o m apos) (e :: es) [] pos) (tM Γ W (mMeth c m n mk g mo ma)) := by
  obtain ⟨f, fd, hm, hb, F1⟩ := Fo.ex
  refine ⟨fun pins s σ H Q I ⟨ρ, F, R, h⟩ => ?_⟩
  refine PySem.W.methodCall_KW (pl := pl) (thn ((je_f he).run pins s σ H (fun x H1 => ∃ a dx fs, x = .ref a ∧ H1 a = some (.ins (Γ.G.cl c) dx fs) ∧ fs.lookup m = none ∧ tMA Γ W ma σ H1 fun vs H2 => spF Γ.G n g (x :: vs) H2 Q fun cls d H' => W cls d σ H') I ⟨ρ, F, R, h.bindF fun r ρ1 v F1 H1 s1 hr1 p1 => ?_⟩) fun u s1 ⟨x, H1, I1, rx, a, dx, fs, ex, ea, l, q⟩ => ?_) ht
  · split at p1
    · rename_i w
      obtain ⟨a, dx, fs, rfl, ha', l⟩ := methR_ok s1.rel hr1 w
      refine ⟨a, dx, fs, rfl, ha', l, ρ1, F1, s1.rel, p1.bindA fun rs ρ2 vs F2 H2 s2 hr2 p2 => ?_⟩
      exact call_go s2.rel (.cons (hr1.mono s2.subF) hr2) p2
    · exact p1.elim
  · subst ex
    obtain rfl : u = Value.ref a := rx
    refine getmeth_ok I1 ea hc hm l ?_
    refine PySem.W.callWith_K (first := [.ref a]) (h₀ := X.base) I.ok.mod.kin hm.kp (thn (ha.run pos pins s1 σ H1 _ I1 q) fun us s2 ⟨vs, H2, I2, rv, q2⟩ => ⟨I2.kIn, ?_⟩) hst hpl
    refine run_fnG (us := .ref a :: us) (vs := .ref a :: vs) (dvs := []) (ds := []) (E := fun σ cls d H' => W cls d σ H') F1 hr hb .nil (passAt tk σ) I2 (.cons rfl rv) ?_
    rw [List.append_nil]
    exact q2
theorem je_meth0 {pl : Sem Bool} (tk : Takes X W) (Fo : MtFact X.prog X.w X.K X.mg X.base Γ.G c m n k ps g) (hc : Cls X.K (Γ.G.cl c)) (hr : RG k X.A) (he : PE X o (tM Γ W mo))
    (ht : eval (.Call (.Attribute o m apos) [] [] pos) X.env = (do let ov ← eval o X.env; standAt apos.atName; let (f, first) ← holding [ov] (getMethod ov m pl); callWith pos f first (backTo pos (starEach [] X.env)) (backToKw pos (keywordEach [] X.env))) := by rfl) :
    PE X (.Call (.Attribute o m apos) [] [] pos) (tM Γ W (mMeth c m n mk g mo mNil)) := by
  obtain ⟨f, fd, hm, hb, F1⟩ := Fo.ex
  refine ⟨fun pins s σ H Q I ⟨ρ, F, R, h⟩ => ?_⟩
  refine PySem.W.methodCall_KW (pl := pl) (thn ((je_f he).run pins s σ H (fun x H1 => ∃ a dx fs, x = .ref a ∧ H1 a = some (.ins (Γ.G.cl c) dx fs) ∧ fs.lookup m = none ∧ spF Γ.G n g [x] H1 Q fun cls d H' => W cls d σ H') I ⟨ρ, F, R, h.bindF fun r ρ1 v F1 H1 s1 hr1 p1 => ?_⟩) fun u s1 ⟨x, H1, I1, rx, a, dx, fs, ex, ea, l, q⟩ => ?_) ht
  · split at p1
    · rename_i w
      obtain ⟨a, dx, fs, rfl, ha', l⟩ := methR_ok s1.rel hr1 w
      exact ⟨a, dx, fs, rfl, ha', l, call_go s1.rel (.cons hr1 .nil) p1⟩
    · exact p1.elim
  · subst ex
    obtain rfl : u = Value.ref a := rx
    refine getmeth_ok I1 ea hc hm l ?_
    refine PySem.W.callWith_K0 (first := [.ref a]) I1.kIn hm.kp ?_
    exact run_fnG (us := [.ref a]) (vs := [.ref a]) (dvs := []) (ds := []) (E := fun σ cls d H' => W cls d σ H') F1 hr hb .nil (passAt tk σ) I1 (.cons rfl .nil) q
end
/-- one of two readings -/
def mAlt (c : Rho → Bool) (m1 m2 : M) : M := fun ρ => if c ρ = true then m1 ρ else m2 ρ
theorem je_alt {X : Cx} {Γ : Gm} {W : WX} {e : Expr} {m1 m2 : M} (c : Rho → Bool) (h1 : PE X e (tM Γ W m1)) (h2 : PE X e (tM Γ W m2)) : PE X e (tM Γ W (mAlt c m1 m2)) :=
  ⟨fun pins s σ H Q I ⟨ρ, F, R, h⟩ => by
    unfold mAlt at h
    by_cases q : c ρ = true
    · simp only [q, if_true] at h; exact h1.run pins s σ H Q I ⟨ρ, F, R, h⟩
    · simp only [q] at h; exact h2.run pins s σ H Q I ⟨ρ, F, R, h⟩⟩
/-- of which class the receiver is -/
def isC (c : Nat) (mo : M) (ρ : Rho) : Bool := match mo ρ with
  | .ok r ρ1 => (match resolve ρ1 r.frz with
    | some (.obj c' _) => c' == c
    | _ => false)
  | _ => false
end PyD

namespace PyD
open PySem PySem.Spec PyProof.Rows L2

/-! ### C(..): a new instance, lent to __init__ -/
def makeR (c : Nat) (mk : List Bool) (f : Fn) (rs : List Res) (ρ : Rho) : Out Res := match prep1 mk rs ρ with
  | some (ms, ρ1) => (match prep2 ρ1 ms with
    | some as => (match f (.o (.obj c []) :: as.map BArg.strip) with
      | .ret (.val .non) (d :: os) => (match wb as os ρ1 with
        | some ρ2 => .ok (.new d) ρ2
        | none => .stuck)
      | .exc x (_ :: os) => (match wb as os ρ1 with
        | some ρ2 => .exc x ρ2
        | none => .stuck)
      | _ => .stuck)
    | none => .stuck)
  | none => .stuck
theorem ARel.ext {G : Gx} {F H H' : Hp} (e : Same H H') : ∀ {vs : List V} {as : List Arg} {L : List Addr}, ARel G F H vs as L → ARel G F H' vs as L
  | _, _, _, .nil => .nil
  | _, _, _, .v h t => .v h (t.ext e)
  | _, _, _, .o c nl t => .o (c.mono (Same.refl _) fun b _ o q => e b o q) nl (t.ext e)
theorem ARel.there {G : Gx} {F H : Hp} : ∀ {vs : List V} {as : List Arg} {L : List Addr}, ARel G F H vs as L → ∀ a ∈ L, ∃ o, H a = some o
  | _, _, _, .nil, a, h => by cases h
  | _, _, _, .v _ t, a, h => t.there a h
  | _, _, _, .o c nl t, a, h => by
    rcases List.mem_append.mp h with e | h
    · exact c.there a e
    · exact t.there a h
theorem makeR_ok {Γ : Gm} {W : WX} {c : Nat} {mk : List Bool} {f : Fn} {rs : List Res} {ρ : Rho} {σ : St} {F H : Hp} {Q : VK} {vs : List V} {n : Nat} {x dx : Addr} (R : Rel Γ ρ σ F H) (ha : RepFs Γ.G σ F vs rs) (hn : vs.length + 1 = n) (hx : H x = none) (hd : H dx = none) (ne : dx ≠ x) (h : Post Γ W (makeR c mk f rs ρ) ρ σ F H Q) :
    spF Γ.G n f (.ref x :: vs) (upd (upd H dx (.own x)) x (.ins (Γ.G.cl c) dx [])) (fun v H2 => v = .non ∧ Q (.ref x) H2) (fun cls d H' => W cls d σ H') := by
  have eH : Same H (upd (upd H dx (.own x)) x (.ins (Γ.G.cl c) dx [])) := fun b o q => by rw [upd_ne (ne_of_none q hx), upd_ne (ne_of_none q hd)]; exact q
  unfold makeR at h
  split at h
  · rename_i ms ρ1 e1
    obtain ⟨F1, s1, m1⟩ := prep1_ok R ha e1
    split at h
    · rename_i as e2
      obtain ⟨L, B⟩ := prep2_ok s1.rel m1 e2
      have AR := B.arel s1.rel
      have al := callU_ali s1.rel as
      have xF : F1 x = none := Same.free s1.rel.sub hx
      have xU : ¬ callU Γ ρ1 σ F1 H as x := fun z => by
        obtain ⟨_, o, q⟩ := al x z; rw [hx] at q; cases q
      have xL : x ∉ L := fun z => by
        obtain ⟨o, q⟩ := AR.there x z
        rw [hx] at q; cases q
      have al2 : Ali (callU Γ ρ1 σ F1 H as) F1 (upd (upd H dx (.own x)) x (.ins (Γ.G.cl c) dx [])) := fun a z => by
        obtain ⟨h1, o, h2⟩ := al a z; exact ⟨h1, o, eH a o h2⟩
      refine ⟨by simpa using hn, F1, .o (.obj c []) :: as.map BArg.strip, [x] ++ L, callU Γ ρ1 σ F1 H as, s1.rel.sub.trans eH, .o (.flat ⟨dx, [], upd_same, .nil⟩) (fun b hb => by rw [List.mem_singleton.mp hb]; exact xL) (AR.ext eH), fun a z => ?_, al2, ?_⟩
      · rcases List.mem_append.mp z with w | w
        · obtain rfl : a = x := by simpa using w
          exact ⟨xF, xU⟩
        · exact B.off s1.rel a w
      have down : ∀ {F' H' : Hp}, CStp (callU Γ ρ1 σ F1 H as) F1 (upd (upd H dx (.own x)) x (.ins (Γ.G.cl c) dx [])) F' H' → CStp (callU Γ ρ1 σ F1 H as) F1 H F' H' := fun {F' H'} C =>
        ⟨C.fh, C.subF, fun a z => by
          obtain ⟨_, o, q⟩ := al a z
          rw [C.keep a z, q, eH a o q], C.frn, fun a o q => C.there a o (eH a o q)⟩
      split at h
      · rename_i d os e3
        split at h
        · rename_i ρ2 e4
          rw [e3]
          intro v F' H' L' C O fo q
          cases O with
          | o c' dj O' =>
            obtain ⟨s2, bk⟩ := call_stp s1.rel B (down C) O' (fun a z => fo a (List.mem_append_right _ z)) e4
            cases q
            refine ⟨rfl, h _ F' H' (s1.trans s2) ⟨x, _, rfl, c', fun b hb => ⟨(fo b (List.mem_append_left _ hb)).1, fun z => (fo b (List.mem_append_left _ hb)).2 (.inl z), fun z => ?_⟩⟩⟩
            rcases bk b z with w | w
            · exact dj b hb w
            · exact (fo b (List.mem_append_left _ hb)).2 w
        · exact h.elim
      · rename_i y o os e3
        split at h
        · rename_i ρ2 e4
          rw [e3]
          intro d F' H' L' C O fo q
          cases O with
          | o c' dj O' => exact h d F' H' (s1.trans (call_stp s1.rel B (down C) O' (fun a z => fo a (List.mem_append_right _ z)) e4).1) q
        · exact h.elim
      · exact h.elim
    · exact h.elim
  · exact h.elim

/-! ### how arguments reach the parameters: by place, by keyword, by default -/
def pick {α : Type} (p : List Nat) (l : List α) : List α := p.filterMap fun i => l[i]?
theorem RepFs.get {G : Gx} {σ : St} {F : Hp} : ∀ {vs : List V} {rs : List Res} (i : Nat), RepFs G σ F vs rs → (vs[i]? = none ∧ rs[i]? = none) ∨ ∃ v r, vs[i]? = some v ∧ rs[i]? = some r ∧ RepF G σ F v r
  | _, _, _, .nil => .inl ⟨rfl, rfl⟩
  | _, _, 0, .cons h _ => .inr ⟨_, _, rfl, rfl, h⟩
  | _, _, i + 1, .cons _ t => by simpa using RepFs.get i t
theorem RepFs.pick {G : Gx} {σ : St} {F : Hp} {vs : List V} {rs : List Res} (h : RepFs G σ F vs rs) : ∀ p : List Nat, RepFs G σ F (pick p vs) (pick p rs)
  | [] => .nil
  | i :: p => by
    have t := h.pick p
    unfold PyD.pick at t ⊢
    rcases h.get i with ⟨e1, e2⟩ | ⟨v, r, e1, e2, q⟩
    · simp only [List.filterMap_cons, e1, e2]; exact t
    · simp only [List.filterMap_cons, e1, e2]; exact .cons q t
theorem RepFs.app {G : Gx} {σ : St} {F : Hp} : ∀ {vs ws : List V} {rs ts : List Res}, RepFs G σ F vs rs → RepFs G σ F ws ts → RepFs G σ F (vs ++ ws) (rs ++ ts)
  | _, _, _, _, .nil, s => s
  | _, _, _, _, .cons h t, s => .cons h (t.app s)
theorem vals_get {vs : List V} {us : List Value} : ∀ (i : Nat), Vals vs us → (vs[i]? = none ∧ us[i]? = none) ∨ ∃ v u, vs[i]? = some v ∧ us[i]? = some u ∧ RelV v u := by
  induction vs generalizing us with
  | nil => intro i h; cases h; exact .inl ⟨rfl, rfl⟩
  | cons a vs ih =>
    intro i h
    cases h with
    | cons ha t =>
      cases i with
      | zero => exact .inr ⟨_, _, rfl, rfl, ha⟩
      | succ i => simpa using ih i t
theorem vals_pick {vs : List V} {us : List Value} (h : Vals vs us) : ∀ p : List Nat, Vals (pick p vs) (pick p us)
  | [] => .nil
  | i :: p => by
    have t := vals_pick h p
    unfold pick at t ⊢
    rcases vals_get i h with ⟨e1, e2⟩ | ⟨v, u, e1, e2, q⟩
    · simp only [List.filterMap_cons, e1, e2]; exact t
    · simp only [List.filterMap_cons, e1, e2]; exact .cons q t
/-- n values by place, keywords ks; the parameters are the places p of: the values, the defaults dvs, the keywords' values -/
structure Ways (K : PySem.W.Frag) (fd : FuncData) (ps : List Str) (n : Nat) (ks : List Str) (dvs : List V) (p : List Nat) : Prop where
  ex : ∃ mv : List Value, Vals dvs mv ∧ ∀ (s : Shared) (us ws : List Value), K.In s.heap → us.length = n → ws.length = ks.length → BindsTo s fd ⟨us, ks.zip ws⟩ (ps.zip (pick p (us ++ mv ++ ws)))
/-- defaults as data -/
def Dfl (G : Gx) (dvs : List V) (dds : List D) : Prop := ∀ F, DpL G F dvs dds
theorem dfl_rep {G : Gx} {σ : St} {F : Hp} : ∀ {vs : List V} {ds : List D}, DpL G F vs ds → RepFs G σ F vs (ds.map .val)
  | _, _, .nil => .nil
  | _, _, .cons h t => .cons h (dfl_rep t)
theorem zip_nil {α β : Type} : ∀ l : List α, l.zip ([] : List β) = [] := fun l => by simp
section
variable {K : PySem.W.Frag} {x qual : Str} {params : Arguments} {body : List Stmt} {scope : Scope} {dvs : List V} {kws : List (Str × V)} {f : Addr} {fd : FuncData} {ps ks : List Str} {p : List Nat}
/-- every parameter is given, by place or keyword -/
theorem ways_all (F : FunD K x qual params body scope dvs kws f fd) (n : Nat) (hd : dvs = [])
    (h : ∀ (kV doc pm : Value) (an : Option Addr) (cdv ct : Value) (us ws : List Value), us.length = n → ws.length = ks.length → bindArgs (PySem.W.fnOf x qual params body scope .none kV doc pm an cdv ct) ⟨us, ks.zip ws⟩ = pure (ps.zip (pick p (us ++ [] ++ ws)))) : Ways K fd ps n ks [] p := by
  obtain ⟨oc, od, dV, kV, doc, pm, an, cdv, ct, osl, rfl, lk, hcd, hD, hK⟩ := F.ex
  subst hd
  rcases hD with ⟨_, rfl⟩ | ⟨e, _⟩
  · exact ⟨[], .nil, fun s us ws X l1 l2 => .of_eq (h kV doc pm an cdv ct us ws l1 l2)⟩
  · exact absurd rfl e
/-- some keyword-only ones lack: ms -/
theorem ways_kw (F : FunD K x qual params body scope dvs kws f fd) (n : Nat) (ms : List (Str × V)) (hd : dvs = []) (hk : kws ≠ []) (hms : ∀ q ∈ ms, q ∈ kws)
    (h : ∀ (D : Addr) (doc pm : Value) (an : Option Addr) (cdv ct : Value) (us mv ws : List Value), us.length = n → mv.length = ms.length → ws.length = ks.length →
      KwChain D ((ms.map (·.1)).zip mv) (bindArgs (PySem.W.fnOf x qual params body scope .none (.ref D) doc pm an cdv ct) ⟨us, ks.zip ws⟩) (ps.zip (pick p (us ++ mv ++ ws)))) : Ways K fd ps n ks (ms.map (·.2)) p := by
  obtain ⟨oc, od, dV, kV, doc, pm, an, cdv, ct, osl, rfl, lk, hcd, hD, hK⟩ := F.ex
  subst hd
  rcases hD with ⟨_, rfl⟩ | ⟨e, _⟩
  · rcases hK with e | ⟨D, rfl, hq⟩
    · exact absurd e hk
    · obtain ⟨mv, hl, rk, hks⟩ := kwd_vals (ms := ms) fun q hm => hq q (hms q hm)
      exact ⟨mv, rk, fun s us ws X l1 l2 => BindsTo.of_looks fun M => KwChain.looks X hks (h D doc pm an cdv ct us mv ws l1 hl l2)⟩
  · exact absurd rfl e
/-- defaults by place, no keyword-only ones: all defaults stand among the values, p takes what is wanted -/
theorem ways_dfl (F : FunD K x qual params body scope dvs kws f fd) (n : Nat) (hd : dvs ≠ [])
    (h : ∀ (T : Addr) (kV doc pm : Value) (an : Option Addr) (cdv ct : Value) (us its ws : List Value), us.length = n → its.length = dvs.length → ws.length = ks.length →
      ∃ k, bindArgs (PySem.W.fnOf x qual params body scope (.ref T) kV doc pm an cdv ct) ⟨us, ks.zip ws⟩ = seqItems? (.ref T) >>= k ∧ k (some its.toArray) = pure (ps.zip (pick p (us ++ its ++ ws)))) : Ways K fd ps n ks dvs p := by
  obtain ⟨oc, od, dV, kV, doc, pm, an, cdv, ct, osl, rfl, lk, hcd, hD, hK⟩ := F.ex
  rcases hD with ⟨e, _⟩ | ⟨_, T, o, its, m, rfl, lT, oT, rT⟩
  · exact absurd e hd
  · refine ⟨its, rT, fun s us ws X l1 l2 => ?_⟩
    obtain ⟨k, e1, e2⟩ := h T kV doc pm an cdv ct us its ws l1 rT.length.symm l2
    refine BindsTo.of_looks fun M => ?_
    rw [e1]
    exact looks_items X lT oT (.of_pure e2)
end

/-- the callee runs, arguments by ways -/
theorem run_ways {X : Cx} {k n : Nat} {f : Addr} {fd : FuncData} {ps ks : List Str} {sp : Sp} {E : St → XK} {dvs : List V} {p : List Nat} {pins : List (Addr × Obj)} {σ : St} {H : Hp} {s : Shared} {Q : VK} {us ws : List Value} {vs zs : List V} (F : FnOkG X.prog X.w X.K X.mg X.base k f fd ps sp) (hr : RG k X.A) (hb : Ways X.K fd ps n ks dvs p) (hx : PassesAt (L2.CX X.prog X.w) X σ (E σ))
    (I : Inv X pins σ H s) (r : Vals vs us) (rz : Vals zs ws) (l1 : vs.length = n) (l2 : zs.length = ks.length) (h : sp (pick p (vs ++ dvs ++ zs)) H Q (E σ)) : wpAny (model X.prog X.w) X.A (call (.ref f) us (ks.zip ws)) (EP X pins σ Q) X.xe s := by
  obtain ⟨mv, rm, to⟩ := hb.ex
  have rv := vals_pick ((r.append rm).append rz) p
  have hq := F.run X.A X.stack s H ⟨us, ks.zip ws⟩ (pick p (us ++ mv ++ ws)) (pick p (vs ++ dvs ++ zs)) Q (E σ) hr I.env0 (to s us ws I.kIn (r.length.symm.trans l1) (rz.length.symm.trans l2)) rv h
  refine wpAny_call (codeAny_mono hq fun r s' hq => ?_)
  cases r with
  | error e => exact hx pins H s e s' I hq
  | ok fl => cases fl with
    | ret u => exact I.after hq
    | _ => exact (show False from hq).elim
/-- __init__ runs on a new instance -/
theorem run_mkw {X : Cx} {k n : Nat} {f C : Addr} {fd : FuncData} {ps ks : List Str} {sp : Sp} {E : St → XK} {dvs : List V} {p : List Nat} {pins : List (Addr × Obj)} {σ : St} {H : Hp} {s : Shared} {Q : VK} {us ws : List Value} {vs zs : List V} (M : Mk X.K C f) (F : FnOkG X.prog X.w X.K X.mg X.base k f fd ps sp) (hr : RG (k + 1) X.A) (hb : Ways X.K fd ps (n + 1) ks dvs p) (hx : PassesAt (L2.CX X.prog X.w) X σ (E σ))
    (I : Inv X pins σ H s) (r : Vals vs us) (rz : Vals zs ws) (l1 : vs.length = n) (l2 : zs.length = ks.length)
    (h : ∀ x dx, H x = none → H dx = none → dx ≠ x → sp (pick p (.ref x :: vs ++ dvs ++ zs)) (upd (upd H dx (.own x)) x (.ins C dx [])) (fun v H2 => v = .non ∧ Q (.ref x) H2) (E σ)) :
    wpAny (model X.prog X.w) X.A (call (.ref C) us (ks.zip ws)) (EP X pins σ Q) X.xe s := by
  obtain ⟨mv, rm, to⟩ := hb.ex
  have I2 := Inv.made (C := C) I
  have fr1 : H (s.heap.objs.size + 1) = none := I.hok.fresh (Nat.le_succ _)
  have fr2 : H s.heap.objs.size = none := I.hok.fresh (Nat.le_refl _)
  have hq := h _ _ fr1 fr2 (Nat.ne_of_lt (Nat.lt_succ_self _))
  have rs : Vals (V.ref (s.heap.objs.size + 1) :: vs) (Value.ref (s.heap.objs.size + 1) :: us) := .cons rfl r
  have rv := vals_pick ((rs.append rm).append rz) p
  have ls : (Value.ref (s.heap.objs.size + 1) :: us).length = n + 1 := by rw [← rs.length, List.length_cons, l1]
  have run := F.run _ X.stack _ _ ⟨Value.ref (s.heap.objs.size + 1) :: us, ks.zip ws⟩ _ _ _ (E σ) (hr.make C us (ks.zip ws)) (I2.env0.make C us (ks.zip ws)) (to _ _ ws I2.kIn ls (rz.length.symm.trans l2)) rv hq
  refine wpAny_call (make_map (f := f) I.kIn M.makes M.init (beq_iff_eq.mp M.fn) (codeAny_mono run fun r s' hq' => ?_))
  cases r with
  | error e => exact hx pins _ _ e s' I2 hq'
  | ok fl => cases fl with
    | ret u =>
      obtain ⟨v, H', I3, rv', ev, q3⟩ := I2.after hq'
      subst ev
      exact ⟨rv', ⟨.ref _, H', I3, rfl, q3⟩⟩
    | _ => exact (show False from hq').elim
end PyD

namespace PyD
open PySem PySem.Spec PyProof.Rows L2

def outW (ok : Bool) (o : Out Res) : Out Res := if ok = true then o else .stuck
def mCallW (n nk np : Nat) (p : List Nat) (dds : List D) (mk : List Bool) (f : Fn) (ma mz : MA) : M := fun ρ => bindO (ma ρ) fun rs ρ1 => bindO (mz ρ1) fun zs ρ2 =>
  outW (rs.length == n && zs.length == nk && (pick p (rs ++ dds.map .val ++ zs)).length == np) (callR mk f (pick p (rs ++ dds.map .val ++ zs)) ρ2)
def mMakeW (c n nk np : Nat) (q : List Nat) (dds : List D) (mk : List Bool) (f : Fn) (ma mz : MA) : M := fun ρ => bindO (ma ρ) fun rs ρ1 => bindO (mz ρ1) fun zs ρ2 =>
  outW (rs.length == n && zs.length == nk && (pick q (rs ++ dds.map .val ++ zs)).length + 1 == np) (makeR c mk f (pick q (rs ++ dds.map .val ++ zs)) ρ2)
theorem pick_self {α : Type} (x : α) (q : List Nat) (l : List α) : pick (0 :: q.map (· + 1)) (x :: l) = x :: pick q l := by
  unfold pick
  simp only [List.filterMap_cons, List.getElem?_cons_zero]
  congr 1
  rw [List.filterMap_map]
  congr 1
section
variable {X : Cx} {Γ : Gm} {W : WX}
theorem callW_go {ρ : Rho} {σ : St} {F H : Hp} {Q : VK} {rs ts : List Res} {vs zs dvs : List V} {dds : List D} {n nk np : Nat} {p : List Nat} {mk : List Bool} {g : Fn} (R : Rel Γ ρ σ F H) (ha : RepFs Γ.G σ F vs rs) (hz : RepFs Γ.G σ F zs ts) (hd : Dfl Γ.G dvs dds)
    (h : Post Γ W (outW (rs.length == n && ts.length == nk && (pick p (rs ++ dds.map .val ++ ts)).length == np) (callR mk g (pick p (rs ++ dds.map .val ++ ts)) ρ)) ρ σ F H Q) :
    vs.length = n ∧ zs.length = nk ∧ spF Γ.G np g (pick p (vs ++ dvs ++ zs)) H Q (fun cls d H' => W cls d σ H') := by
  unfold outW at h
  split at h
  · rename_i w
    obtain ⟨w, w3⟩ := Bool.and_eq_true_iff.mp w
    obtain ⟨w1, w2⟩ := Bool.and_eq_true_iff.mp w
    have rp := ((ha.app (dfl_rep (hd F))).app hz).pick p
    exact ⟨by rw [ha.len]; simpa using w1, by rw [hz.len]; simpa using w2, callR_ok R rp (by rw [rp.len]; simpa using w3) h⟩
  · exact h.elim
theorem makeW_go {ρ : Rho} {σ : St} {F H : Hp} {Q : VK} {rs ts : List Res} {vs zs dvs : List V} {dds : List D} {c n nk np : Nat} {q : List Nat} {mk : List Bool} {g : Fn} (R : Rel Γ ρ σ F H) (ha : RepFs Γ.G σ F vs rs) (hz : RepFs Γ.G σ F zs ts) (hd : Dfl Γ.G dvs dds)
    (h : Post Γ W (outW (rs.length == n && ts.length == nk && (pick q (rs ++ dds.map .val ++ ts)).length + 1 == np) (makeR c mk g (pick q (rs ++ dds.map .val ++ ts)) ρ)) ρ σ F H Q) :
    vs.length = n ∧ zs.length = nk ∧ ∀ x dx, H x = none → H dx = none → dx ≠ x → spF Γ.G np g (pick (0 :: q.map (· + 1)) (.ref x :: vs ++ dvs ++ zs)) (upd (upd H dx (.own x)) x (.ins (Γ.G.cl c) dx [])) (fun v H2 => v = .non ∧ Q (.ref x) H2) (fun cls d H' => W cls d σ H') := by
  unfold outW at h
  split at h
  · rename_i w
    obtain ⟨w, w3⟩ := Bool.and_eq_true_iff.mp w
    obtain ⟨w1, w2⟩ := Bool.and_eq_true_iff.mp w
    have rp := ((ha.app (dfl_rep (hd F))).app hz).pick q
    refine ⟨by rw [ha.len]; simpa using w1, by rw [hz.len]; simpa using w2, fun x dx hx hdx ne => ?_⟩
    rw [show (V.ref x :: vs ++ dvs ++ zs) = V.ref x :: (vs ++ dvs ++ zs) from rfl, pick_self]
    exact makeR_ok R rp (by rw [rp.len]; simpa using w3) hx hdx ne h
  · exact h.elim
end
/-! the keywords' values -/
section
variable {X : Cx} {Γ : Gm} {W : WX} {e : Expr} {ma : M} {mr : MA} {kws : List Keyword} {nm : Option Str} {kpos : Pos}
theorem jk_nil : PK X [] (tMA Γ W mNil) := ⟨fun pos pins s σ H Q I ⟨ρ, F, R, p⟩ => wpAny_evalAll_nil ⟨[], H, I, .nil, p [] F H (.refl R) .nil⟩⟩
theorem jk_cons (ha : PE X e (tM Γ W ma)) (hr : PK X kws (tMA Γ W mr)) : PK X (⟨nm, e, kpos⟩ :: kws) (tMA Γ W (mCons ma mr)) := ⟨fun pos pins s σ H Q I h => (pk_cons (je_f ha) hr).run pos pins s σ H Q I (tCons_ok σ H Q h)⟩
end
/-- what is known of a def that is called with n values and the keywords ks -/
structure FwFact (P : Program) (w : World) (K : PySem.W.Frag) (mg : Str → Option Value) (base : Heap) (G : Gx) (x : Str) (np k : Nat) (n : Nat) (ks : List Str) (p : List Nat) (dds : List D) (g : Fn) : Prop where
  ex : ∃ f fd ps dvs, mg x = some (.ref f) ∧ PySem.W.keepIn K (.ref f) = true ∧ Ways K fd ps n ks dvs p ∧ Dfl G dvs dds ∧ FnOkG P w K mg base k f fd ps (spF G np g)
/-- .. of a class -/
structure MwFact (P : Program) (w : World) (K : PySem.W.Frag) (mg : Str → Option Value) (base : Heap) (G : Gx) (x : Str) (c np k : Nat) (n : Nat) (ks : List Str) (q : List Nat) (dds : List D) (g : Fn) : Prop where
  ex : ∃ f fd ps dvs, mg x = some (.ref (G.cl c)) ∧ Mk K (G.cl c) f ∧ Ways K fd ps (n + 1) ks dvs (0 :: q.map (· + 1)) ∧ Dfl G dvs dds ∧ FnOkG P w K mg base k f fd ps (spF G np g)
section
variable {X : Cx} {Γ : Gm} {W : WX} {e : Expr} {ma mz : MA} {pos p : Pos} {es : List Expr} {kws : List Keyword} {x : Str} {c k n np nk : Nat} {ks : List Str} {pl : List Nat} {dds : List D} {mk : List Bool} {g : Fn}
/-- f(e, .., k = v, ..) -/
theorem je_callW (tk : Takes X W) (Fo : FwFact X.prog X.w X.K X.mg X.base Γ.G x np k n ks pl dds g) (hr : RG k X.A) (ha : PA X (e :: es) (tMA Γ W ma)) (hz : PK X kws (tMA Γ W mz)) (hks : (backToKw pos (keywordEach kws X.env)).filterMap (·.1) = ks := by rfl)
    (hg : Gl X x := by rfl) (hall : (backToKw pos (keywordEach kws X.env)).all (·.1.isSome) = true := by rfl) (hdb : (x == ("__debug__" : Str)) = false := by decide) (he : starEach (e :: es) X.env = (false, eval e X.env) :: starEach es X.env := by rfl)
    (hpl : ((backTo pos (starEach (e :: es) X.env)).any (·.1) || (backToKw pos (keywordEach kws X.env)).any (·.1.isNone)) = false := by rfl) (hnk : ks.length = nk := by rfl) : PE X (.Call (.Name x p) (e :: es) kws pos) (tM Γ W (mCallW n nk np pl dds mk g ma mz)) := by
  subst hnk
  obtain ⟨f, fd, ps, dvs, hm, hk, hb, hd, F1⟩ := Fo.ex
  refine ⟨fun pins s σ H Q I ⟨ρ, F, R, h⟩ => wpAny_Call_Name_kw (ld_glob I hg hm ?_ hdb)⟩
  refine PySem.W.callWith_KW (h₀ := X.base) I.ok.mod.kin hk hall (thn (ha.run pos pins s σ H (fun vs H1 => tMA Γ W mz σ H1 fun zs H2 => vs.length = n ∧ zs.length = ks.length ∧ spF Γ.G np g (pick pl (vs ++ dvs ++ zs)) H2 Q fun cls d H' => W cls d σ H') I
    ⟨ρ, F, R, h.bindA fun rs ρ1 vs F1 H1 s1 hr1 p1 => ⟨ρ1, F1, s1.rel, p1.bindA fun ts ρ2 zs F2 H2 s2 hr2 p2 => callW_go s2.rel (hr1.mono s2.subF) hr2 hd p2⟩⟩) fun us s1 ⟨vs, H1, I1, r, q⟩ => ?_) hpl he
  refine thn (hz.run pos pins s1 σ H1 _ I1 q) fun ws s2 ⟨zs, H2, I2, rz, l1, l2, q2⟩ => ⟨I2.kIn, ?_⟩
  rw [hks]
  exact run_ways (E := fun σ cls d H' => W cls d σ H') F1 hr hb (passAt tk σ) I2 r rz l1 l2 q2
theorem je_callW0 (tk : Takes X W) (Fo : FwFact X.prog X.w X.K X.mg X.base Γ.G x np k 0 ks pl dds g) (hr : RG k X.A) (hz : PK X kws (tMA Γ W mz)) (hks : (backToKw pos (keywordEach kws X.env)).filterMap (·.1) = ks := by rfl)
    (hg : Gl X x := by rfl) (hall : (backToKw pos (keywordEach kws X.env)).all (·.1.isSome) = true := by rfl) (hdb : (x == ("__debug__" : Str)) = false := by decide)
    (hpl : ((backTo pos (starEach [] X.env)).any (·.1) || (backToKw pos (keywordEach kws X.env)).any (·.1.isNone)) = false := by rfl) (hnk : ks.length = nk := by rfl) : PE X (.Call (.Name x p) [] kws pos) (tM Γ W (mCallW 0 nk np pl dds mk g mNil mz)) := by
  subst hnk
  obtain ⟨f, fd, ps, dvs, hm, hk, hb, hd, F1⟩ := Fo.ex
  refine ⟨fun pins s σ H Q I ⟨ρ, F, R, h⟩ => wpAny_Call_Name_kw (ld_glob I hg hm ?_ hdb)⟩
  refine PySem.W.callWith_KW0 (h₀ := X.base) I.ok.mod.kin hk hall ?_ hpl
  have hz' : tMA Γ W mz σ H fun zs H2 => ([] : List V).length = 0 ∧ zs.length = ks.length ∧ spF Γ.G np g (pick pl ([] ++ dvs ++ zs)) H2 Q fun cls d H' => W cls d σ H' :=
    ⟨ρ, F, R, Post.bindA h fun ts ρ2 zs F2 H2 s2 hr2 p2 => callW_go (rs := []) s2.rel .nil hr2 hd p2⟩
  refine thn (hz.run pos pins s σ H _ I hz') fun ws s2 ⟨zs, H2, I2, rz, l1, l2, q2⟩ => ⟨I2.kIn, ?_⟩
  rw [hks]
  exact run_ways (us := []) (vs := []) (E := fun σ cls d H' => W cls d σ H') F1 hr hb (passAt tk σ) I2 .nil rz l1 l2 q2
/-- f(e, ..), defaults fill up -/
theorem je_callD (tk : Takes X W) (Fo : FwFact X.prog X.w X.K X.mg X.base Γ.G x np k n [] pl dds g) (hr : RG k X.A) (ha : PA X (e :: es) (tMA Γ W ma))
    (hg : Gl X x := by rfl) (hdb : (x == ("__debug__" : Str)) = false := by decide) (he : starEach (e :: es) X.env = (false, eval e X.env) :: starEach es X.env := by rfl) (hpl : (backTo pos (starEach es X.env)).any (·.1) = false := by rfl) :
    PE X (.Call (.Name x p) (e :: es) [] pos) (tM Γ W (mCallW n 0 np pl dds mk g ma mNil)) := by
  obtain ⟨f, fd, ps, dvs, hm, hk, hb, hd, F1⟩ := Fo.ex
  refine ⟨fun pins s σ H Q I ⟨ρ, F, R, h⟩ => wpAny_Call_Name_kw (ld_glob I hg hm ?_ hdb)⟩
  refine PySem.W.callWith_K (h₀ := X.base) I.ok.mod.kin hk (thn (ha.run pos pins s σ H (fun vs H1 => vs.length = n ∧ ([] : List V).length = 0 ∧ spF Γ.G np g (pick pl (vs ++ dvs ++ [])) H1 Q fun cls d H' => W cls d σ H') I
    ⟨ρ, F, R, h.bindA fun rs ρ1 vs F1 H1 s1 hr1 p1 => callW_go (ts := []) s1.rel hr1 .nil hd p1⟩) fun us s1 ⟨vs, H1, I1, r, l1, l2, q⟩ => ⟨I1.kIn, ?_⟩) he hpl
  exact run_ways (ks := []) (ws := []) (zs := []) (E := fun σ cls d H' => W cls d σ H') F1 hr hb (passAt tk σ) I1 r .nil l1 l2 q
/-! C(..) -/
theorem je_makeW (tk : Takes X W) (Fo : MwFact X.prog X.w X.K X.mg X.base Γ.G x c np k n ks pl dds g) (hr : RG (k + 1) X.A) (ha : PA X (e :: es) (tMA Γ W ma)) (hz : PK X kws (tMA Γ W mz)) (hks : (backToKw pos (keywordEach kws X.env)).filterMap (·.1) = ks := by rfl)
    (hg : Gl X x := by rfl) (hall : (backToKw pos (keywordEach kws X.env)).all (·.1.isSome) = true := by rfl) (hdb : (x == ("__debug__" : Str)) = false := by decide) (he : starEach (e :: es) X.env = (false, eval e X.env) :: starEach es X.env := by rfl)
    (hpl : ((backTo pos (starEach (e :: es) X.env)).any (·.1) || (backToKw pos (keywordEach kws X.env)).any (·.1.isNone)) = false := by rfl) (hnk : ks.length = nk := by rfl) : PE X (.Call (.Name x p) (e :: es) kws pos) (tM Γ W (mMakeW c n nk np pl dds mk g ma mz)) := by
  subst hnk
  obtain ⟨f, fd, ps, dvs, hm, M, hb, hd, F1⟩ := Fo.ex
  refine ⟨fun pins s σ H Q I ⟨ρ, F, R, h⟩ => wpAny_Call_Name_kw (ld_glob I hg hm ?_ hdb)⟩
  refine PySem.W.callWith_KW (h₀ := X.base) I.ok.mod.kin M.kp hall (thn (ha.run pos pins s σ H (fun vs H1 => tMA Γ W mz σ H1 fun zs H2 => vs.length = n ∧ zs.length = ks.length ∧ ∀ y dy, H2 y = none → H2 dy = none → dy ≠ y → spF Γ.G np g (pick (0 :: pl.map (· + 1)) (.ref y :: vs ++ dvs ++ zs)) (upd (upd H2 dy (.own y)) y (.ins (Γ.G.cl c) dy [])) (fun v H3 => v = .non ∧ Q (.ref y) H3) fun cls d H' => W cls d σ H') I
    ⟨ρ, F, R, h.bindA fun rs ρ1 vs F1 H1 s1 hr1 p1 => ⟨ρ1, F1, s1.rel, p1.bindA fun ts ρ2 zs F2 H2 s2 hr2 p2 => makeW_go s2.rel (hr1.mono s2.subF) hr2 hd p2⟩⟩) fun us s1 ⟨vs, H1, I1, r, q⟩ => ?_) hpl he
  refine thn (hz.run pos pins s1 σ H1 _ I1 q) fun ws s2 ⟨zs, H2, I2, rz, l1, l2, q2⟩ => ⟨I2.kIn, ?_⟩
  rw [hks]
  exact run_mkw (E := fun σ cls d H' => W cls d σ H') M F1 hr hb (passAt tk σ) I2 r rz l1 l2 q2
theorem je_makeW0 (tk : Takes X W) (Fo : MwFact X.prog X.w X.K X.mg X.base Γ.G x c np k 0 ks pl dds g) (hr : RG (k + 1) X.A) (hz : PK X kws (tMA Γ W mz)) (hks : (backToKw pos (keywordEach kws X.env)).filterMap (·.1) = ks := by rfl)
    (hg : Gl X x := by rfl) (hall : (backToKw pos (keywordEach kws X.env)).all (·.1.isSome) = true := by rfl) (hdb : (x == ("__debug__" : Str)) = false := by decide)
    (hpl : ((backTo pos (starEach [] X.env)).any (·.1) || (backToKw pos (keywordEach kws X.env)).any (·.1.isNone)) = false := by rfl) (hnk : ks.length = nk := by rfl) : PE X (.Call (.Name x p) [] kws pos) (tM Γ W (mMakeW c 0 nk np pl dds mk g mNil mz)) := by
  subst hnk
  obtain ⟨f, fd, ps, dvs, hm, M, hb, hd, F1⟩ := Fo.ex
  refine ⟨fun pins s σ H Q I ⟨ρ, F, R, h⟩ => wpAny_Call_Name_kw (ld_glob I hg hm ?_ hdb)⟩
  refine PySem.W.callWith_KW0 (h₀ := X.base) I.ok.mod.kin M.kp hall ?_ hpl
  have hz' : tMA Γ W mz σ H fun zs H2 => ([] : List V).length = 0 ∧ zs.length = ks.length ∧ ∀ y dy, H2 y = none → H2 dy = none → dy ≠ y → spF Γ.G np g (pick (0 :: pl.map (· + 1)) (.ref y :: [] ++ dvs ++ zs)) (upd (upd H2 dy (.own y)) y (.ins (Γ.G.cl c) dy [])) (fun v H3 => v = .non ∧ Q (.ref y) H3) fun cls d H' => W cls d σ H' :=
    ⟨ρ, F, R, Post.bindA h fun ts ρ2 zs F2 H2 s2 hr2 p2 => makeW_go (rs := []) s2.rel .nil hr2 hd p2⟩
  refine thn (hz.run pos pins s σ H _ I hz') fun ws s2 ⟨zs, H2, I2, rz, l1, l2, q2⟩ => ⟨I2.kIn, ?_⟩
  rw [hks]
  exact run_mkw (us := []) (vs := []) (E := fun σ cls d H' => W cls d σ H') M F1 hr hb (passAt tk σ) I2 .nil rz l1 l2 q2
theorem je_makeD (tk : Takes X W) (Fo : MwFact X.prog X.w X.K X.mg X.base Γ.G x c np k n [] pl dds g) (hr : RG (k + 1) X.A) (ha : PA X (e :: es) (tMA Γ W ma))
    (hg : Gl X x := by rfl) (hdb : (x == ("__debug__" : Str)) = false := by decide) (he : starEach (e :: es) X.env = (false, eval e X.env) :: starEach es X.env := by rfl) (hpl : (backTo pos (starEach es X.env)).any (·.1) = false := by rfl) :
    PE X (.Call (.Name x p) (e :: es) [] pos) (tM Γ W (mMakeW c n 0 np pl dds mk g ma mNil)) := by
  obtain ⟨f, fd, ps, dvs, hm, M, hb, hd, F1⟩ := Fo.ex
  refine ⟨fun pins s σ H Q I ⟨ρ, F, R, h⟩ => wpAny_Call_Name_kw (ld_glob I hg hm ?_ hdb)⟩
  refine PySem.W.callWith_K (h₀ := X.base) I.ok.mod.kin M.kp (thn (ha.run pos pins s σ H (fun vs H1 => vs.length = n ∧ ([] : List V).length = 0 ∧ ∀ y dy, H1 y = none → H1 dy = none → dy ≠ y → spF Γ.G np g (pick (0 :: pl.map (· + 1)) (.ref y :: vs ++ dvs ++ [])) (upd (upd H1 dy (.own y)) y (.ins (Γ.G.cl c) dy [])) (fun v H3 => v = .non ∧ Q (.ref y) H3) fun cls d H' => W cls d σ H') I
    ⟨ρ, F, R, h.bindA fun rs ρ1 vs F1 H1 s1 hr1 p1 => makeW_go (ts := []) s1.rel hr1 .nil hd p1⟩) fun us s1 ⟨vs, H1, I1, r, l1, l2, q⟩ => ⟨I1.kIn, ?_⟩) he hpl
  exact run_mkw (ks := []) (ws := []) (zs := []) (E := fun σ cls d H' => W cls d σ H') M F1 hr hb (passAt tk σ) I1 r .nil l1 l2 q
theorem je_makeD0 (tk : Takes X W) (Fo : MwFact X.prog X.w X.K X.mg X.base Γ.G x c np k 0 [] pl dds g) (hr : RG (k + 1) X.A) (hg : Gl X x := by rfl) (hdb : (x == ("__debug__" : Str)) = false := by decide) :
    PE X (.Call (.Name x p) [] [] pos) (tM Γ W (mMakeW c 0 0 np pl dds mk g mNil mNil)) := by
  obtain ⟨f, fd, ps, dvs, hm, M, hb, hd, F1⟩ := Fo.ex
  refine ⟨fun pins s σ H Q I ⟨ρ, F, R, h⟩ => wpAny_Call_Name_kw (ld_glob I hg hm ?_ hdb)⟩
  obtain ⟨l1, l2, q⟩ := makeW_go (rs := []) (ts := []) (vs := []) (zs := []) R .nil .nil hd h
  exact PySem.W.callWith_K0 I.kIn M.kp (run_mkw (us := []) (vs := []) (ks := []) (ws := []) (zs := []) (E := fun σ cls d H' => W cls d σ H') M F1 hr hb (passAt tk σ) I .nil .nil l1 l2 q)
end
end PyD

/-! ### own exceptions over any of the built-in bases: Base.__init__(self, text), self.f = v -/
namespace PyD
open PySem PySem.Spec PyProof.Rows L2
open Builtin Builtin.ObjectAttr

structure EBase (B newId initId : String) (tl : List Value) : Prop where
  F : ExcBaseFacts B newId initId tl
  S : StoreFacts B tl "object.__setattr__" "object"
theorem eb_ve : EBase "ValueError" "ValueError.__new__" "ValueError.__init__" [.type "ValueError", .type "Exception", .type "BaseException", .type "object"] := ⟨F.excBase_ValueError, F.store_ValueError⟩
theorem eb_oe : EBase "OverflowError" "OverflowError.__new__" "OverflowError.__init__" [.type "OverflowError", .type "ArithmeticError", .type "Exception", .type "BaseException", .type "object"] := ⟨F.excBase_OverflowError, F.store_OverflowError⟩
theorem eb_re : EBase "RuntimeError" "RuntimeError.__new__" "RuntimeError.__init__" [.type "RuntimeError", .type "Exception", .type "BaseException", .type "object"] := ⟨F.excBase_RuntimeError, F.store_RuntimeError⟩

/-- what the written part says of the class at C -/
structure XC (K : PySem.W.Frag) (C : Addr) (tl : List Value) (newId : String) : Prop where
  cls : ∃ nm q N bs bm sn sub ab col dd k0 k1 k2 k3 k5, K.lookup C = some (excClassObj nm q C N bs bm true sn sub ab col dd k0 k1 k2 k3 k5 newId) ∧ PySem.W.excTail tl bm = true
  sa : PySem.W.findIn K (.ref C) "__setattr__" = some (some (.builtin "object.__setattr__"))
  exC : PySem.W.subIn K (.ref C) (.type "BaseException") = some true
  tyC : PySem.W.typeIn K (.ref C) = some (.type "type")
  kC : PySem.W.keepIn K (.ref C) = true
theorem XC.cd {K : PySem.W.Frag} {C : Addr} {tl : List Value} {newId : String} (T : XC K C tl newId) : PySem.W.hasDictIn K C = true ∧ PySem.W.excOver K C tl = true := by
  obtain ⟨nm, q, N, bs, bm, sn, sub, ab, col, dd, k0, k1, k2, k3, k5, e, t⟩ := T.cls
  have hcl : PySem.W.clsIn K C = some { name := nm, bases := bs, mro := .ref C :: bm, ns := N, qualname := q, hasDict := true, slotNames := sn, subclasses := sub, abstract := ab, collection := col, hasDel := false } := by unfold PySem.W.clsIn; rw [e]
  constructor
  · unfold PySem.W.hasDictIn; rw [hcl]; rfl
  · unfold PySem.W.excOver; rw [hcl]; simp [t]
section
variable {X : Cx} {pins : List (Addr × Obj)} {σ : St} {H : Hp} {s : Shared} {a C : Addr} {f : Str} {y : V} {u : Value} {tl : List Value} {B newId initId : String} {A : Around} {E : Value → Shared → Prop}
/-- self.f = y on a fresh exception -/
theorem xst_ok {Q : Unit → Shared → Prop} (Z : EBase B newId initId tl) (T : XC X.K C tl newId) (I : Inv X pins σ H s) (e : H a = some (exo a C none)) (hno : PySem.W.findIn X.K (.ref C) f = some none) (ry : RelV y u)
    (h : ∀ dx s', H dx = none → dx ≠ a → Inv X pins σ (upd (upd H dx (exd dx [(f, y)])) a (exo a C (some dx))) s' → Q () s') : wpAny (model X.prog X.w) A (setAttr (.ref a) f u) Q E s := by
  obtain ⟨t1, ho⟩ := exo_at I.hok e
  obtain ⟨hd, ov⟩ := T.cd
  obtain ⟨cd, hcd, hhd⟩ := PySem.W.any_some hd
  refine PySem.W.set_plain I.kIn (ox := { cls := .ref C, dict := none, data := .fields #[.ref t1, .none, .none, .none, .bool false, .none] }) (od := none) ⟨ho, rfl, rfl, trivial⟩ T.sa ?_
  refine PySem.W.osa_openX (r := none) (od := none) (ox := { cls := .ref C, dict := none, data := .fields #[.ref t1, .none, .none, .none, .bool false, .none] }) Z.S I.kIn ⟨ho, rfl, rfl, trivial⟩ ov (by unfold PySem.W.takerIn; rw [hno]; rfl) fun b => ?_
  have hcls : PySem.W.Looks (model X.prog X.w) s.heap (classData C) cd := PySem.W.looks_clsIn I.kIn hcd
  refine wpAny_bind (wpAny_pure (wpAny_bind (PySem.W.instanceDict_exc ho hcls hhd ?_)))
  have hlt : a < s.heap.objs.size := Heap.lt_size ho
  have hpu := Heap.get?_push_of_some (h := s.heap) (PySem.W.dictOf [] 0) ho
  have e1 : ((s.heap.push (PySem.W.dictOf [] 0)).update a fun o => { o with dict := some s.heap.objs.size }).Ns s.heap.objs.size (fun _ => none) :=
    ⟨_, #[], _, (Heap.get?_update_ne _ _ _ _ (Nat.ne_of_gt hlt)).trans (Heap.get?_push_at rfl rfl), rfl, fun e he => absurd he (by simp), fun _ => rfl⟩
  show wpAny _ _ (storeInDict s.heap.objs.size _ f u) _ _ _
  obtain ⟨hp, g, d, t, os⟩ := s
  refine PySem.HandSPX.store_in_new e1 fun h' tk' hn hs => ?_
  have hnd : H hp.objs.size = none := I.hok.fresh (Nat.le_refl _)
  have dne : hp.objs.size ≠ a := Nat.ne_of_gt hlt
  have k : ∀ b o, b ≠ a → hp.get? b = some o → h'.get? b = some o := fun b o hb q =>
    (hs.2 b (Nat.ne_of_lt (Heap.lt_size q))).trans ((Heap.get?_update_ne _ _ _ _ hb).trans (Heap.get?_push_of_some _ q))
  have hx : h'.get? a = some ({ cls := .ref C, dict := some hp.objs.size, data := .fields #[.ref t1, .none, .none, .none, .bool false, .none] } : Obj) :=
    (hs.2 a (Ne.symm dne)).trans (Heap.get?_update_self _ hpu rfl)
  have na : ∀ {b : Addr}, H b = none → b ≠ a := fun {b} n z => by rw [z, e] at n; cases n
  have nd : ∀ {b : Addr} {o : Obj}, hp.get? b = some o → b ≠ hp.objs.size := fun {b o} q => Nat.ne_of_lt (Heap.lt_size q)
  have U : Un X.fs [] H (upd (upd H hp.objs.size (exd hp.objs.size [(f, y)])) a (exo a C (some hp.objs.size))) hp h' := {
    keep := fun b o q n w1 w2 => k b o (na n) q
    slot := fun b o q n w1 w2 => ⟨o.slots, k b o (na n) q⟩
    free := fun b o q n w => by rw [upd_ne (na n), upd_ne (nd q)]; exact n
    there := fun b o q w => by
      by_cases hb : b = a
      · exact ⟨_, by rw [hb]; exact hx⟩
      · exact ⟨o, k b o hb q⟩
    tups := fun b xs q => by rw [upd_ne (at_ne e q exo_tup), upd_ne (ne_of_none q hnd)]; exact q
    frzs := fun b o v q => by rw [upd_ne (at_ne e q exo_frz), upd_ne (ne_of_none q hnd)]; exact q
    tbls := fun b ps q => ⟨#[], by rw [upd_ne (at_ne e q exo_tbl), upd_ne (ne_of_none q hnd), q]; simp⟩ }
  refine h _ _ hnd dne (I.un (t' := tk') U fun b o q => ?_)
  by_cases hb : b = a
  · subst hb; rw [upd_same] at q; cases q; exact exo_ok hx
  · rw [upd_ne hb] at q
    by_cases hd' : b = hp.objs.size
    · subst hd'; rw [upd_same] at q; cases q; exact exd_ok hn (relO_put (fs := []) ry fun g => True.intro)
    · rw [upd_ne hd'] at q
      refine (I.hok b o q).stay (fun c v hc z => k c v ?_ z) (fun c hc => by rw [upd_ne (at_ne e hc exo_own), upd_ne (ne_of_none hc hnd)]; exact hc) (fun c xs hc => by rw [upd_ne (at_ne e hc exo_tup), upd_ne (ne_of_none hc hnd)]; exact hc)
      rcases hc with hc | hc
      · rw [hc]; exact hb
      · exact at_ne e hc exo_own
/-- Base.__init__(self, ..) on a fresh exception -/
theorem xinit_ok {us : List Value} {Q : Value → Shared → Prop} (Z : EBase B newId initId tl) (T : XC X.K C tl newId) (I : Inv X pins σ H s) (e : H a = some (exo a C none)) (hl : us.length ≤ sizeLine) (h : ∀ s', Inv X pins σ H s' → Q .none s') :
    wpAny (model X.prog X.w) A (call (.builtin initId) (.ref a :: us)) Q E s := by
  obtain ⟨nm, q, N, bs, bm, sn, sub, ab, col, dd, k0, k1, k2, k3, k5, hC, hbm⟩ := T.cls
  obtain ⟨t1, ho⟩ := exo_at I.hok e
  obtain ⟨hp, g, d, t, os⟩ := s
  refine wpAny_call (PySem.HandSPX.init_base Z.F (fun Y => PySem.W.excTail_contains Y bm hbm) (I.kIn _ _ hC) ho hl fun h' t2 k hx => ?_)
  have J := I.write (t' := t) (x := a) (e := a) (o := exo a C none) (by rw [e]; exact True.intro) (.inl rfl) k ⟨_, hx⟩ (exo_ok hx)
  have eu : upd H a (exo a C none) = H := by
    funext b
    by_cases hb : b = a
    · subst hb; rw [upd_same, e]
    · exact upd_ne hb
  rw [eu] at J
  exact h _ J
end
/-- Base.__init__, Base a built-in or an own class -/
structure BaseAt (X : Cx) (b : Str) (initId : String) : Prop where
  gm : ∀ (pins : List (Addr × Obj)) (s : Shared) (σ : St) (H : Hp) (p : Pos) (pl : Sem Bool) (Q : Value × List Value → Shared → Prop), Inv X pins σ H s → (∀ s', Inv X pins σ H s' → Q (.builtin initId, []) s') →
    wpAny (model X.prog X.w) X.A (eval (.Name b p) X.env) (fun ov s1 => wpAny (model X.prog X.w) X.A (getMethod ov "__init__" pl) Q X.xe s1) X.xe s
theorem base_blt {X : Cx} {B initId : String} {b : Str} (hm : X.mg b = none) (hv : bootBuiltins b = some (.type B)) (ht : typeOf (.type B) = pure (.type "type")) (hs : Manifest.isStub B = false) (hf : PySem.W.findCls X.K (.type B) (.type "type") "__init__" = some (.val (.builtin initId)))
    (hh : PySem.W.handedIn (.builtin initId) = true := by rfl) (hg : Gl X b := by rfl) (hn : b ≠ "__name__" := by decide) (hd : (b == ("__debug__" : Str)) = false := by decide) : BaseAt X b initId := ⟨fun pins s σ H p pl Q I h => by
  refine ld_blt I hg hm hv ?_ hn hd
  obtain ⟨m, fr⟩ := I.fr
  exact PySem.W.method_type fr I.ok.mod.kin ht hs hf hh (h _ (I.tok _))⟩
theorem base_own {X : Cx} {initId : String} {b : Str} {T : Addr} (hm : X.mg b = some (.ref T)) (hg1 : PySem.W.specialIn X.K (.ref T) "__getattribute__" = some (some (.builtin "type.__getattribute__"))) (hr : PySem.W.readsIn X.K T (.type "type") = true)
    (hf : PySem.W.findCls X.K (.ref T) (.type "type") "__init__" = some (.val (.builtin initId))) (hh : PySem.W.handedIn (.builtin initId) = true := by rfl) (hg : Gl X b := by rfl) (hd : (b == ("__debug__" : Str)) = false := by decide) : BaseAt X b initId := ⟨fun pins s σ H p pl Q I h => by
  refine ld_glob I hg hm ?_ hd
  exact PySem.W.method_cls I.kIn hg1 (PySem.W.cls_value I.kIn hr hf hh (h _ (I.tok _)))⟩

/-- the promise of such an __init__ -/
def spX (K : PySem.W.Frag) (tl : List Value) (newId : String) (f : Str) : Sp := fun vs H Q _ => ∃ (a C : Addr) (v : V), vs = [.ref a, v] ∧ XC K C tl newId ∧ PySem.W.findIn K (.ref C) f = some none ∧ H a = some (exo a C none) ∧
  ∀ dx, H dx = none → dx ≠ a → Q .non (upd (upd H dx (exd dx [(f, v)])) a (exo a C (some dx)))
section
variable {X : Cx} {tl : List Value} {B newId initId : String} {b f : Str} {e o : Expr} {es : List Expr} {ta : TA} {te to : TE} {p1 p2 pos pos' : Pos}
theorem pe_binit {pl : Sem Bool} (Z : EBase B newId initId tl) (hB : BaseAt X b initId) (ha : PA X (e :: es) ta)
    (hc : eval (.Call (.Attribute (.Name b p1) "__init__" p2) (e :: es) [] pos) X.env = (do let ov ← eval (.Name b p1) X.env; standAt p2.atName; let (f, first) ← holding [ov] (getMethod ov "__init__" pl); callWith pos f first (backTo pos (starEach (e :: es) X.env)) (backToKw pos (keywordEach [] X.env))) := by rfl)
    (he : starEach (e :: es) X.env = (false, eval e X.env) :: starEach es X.env := by rfl) (hpl : (backTo pos (starEach es X.env)).any (·.1) = false := by rfl) :
    PE X (.Call (.Attribute (.Name b p1) "__init__" p2) (e :: es) [] pos) (fun σ H Q => ta σ H fun vs H1 => ∃ (a C : Addr) (ws : List V), vs = .ref a :: ws ∧ ws.length ≤ 1000 ∧ XC X.K C tl newId ∧ H1 a = some (exo a C none) ∧ Q .non H1) := by
  refine ⟨fun pins s σ H Q I h => PySem.W.methodCall_KW (pl := pl) (hB.gm pins s σ H p1 pl _ I fun s0 I0 => ?_) hc⟩
  refine PyProof.Rows.callWith_method1 (thn (ha.run pos pins _ σ H _ I0 h) fun us s1 ⟨vs, H1, I1, r1, a, C, ws, ev, hl, T, ea, q⟩ => ?_) he hpl
  subst ev
  cases r1 with
  | @cons _ u0 _ ur ra rr =>
    obtain rfl : u0 = Value.ref a := ra
    have hlen : ur.length ≤ sizeLine := by have := rr.length; rw [sizeLine_eq]; omega
    exact xinit_ok Z T I1 ea hlen fun s' J => ⟨.non, H1, J, rfl, q⟩
theorem ps_xst (Z : EBase B newId initId tl) (ho : PE X o to) (he : PE X e te) (hs : swapsWith e (some (.Attribute o f pos')) pos.line X.env = pure false := by rfl) : PS X (.Assign [.Attribute o f pos'] e pos)
    (fun D σ H => te σ H fun y H1 => to σ H1 fun x H2 => ∃ a C : Addr, x = .ref a ∧ XC X.K C tl newId ∧ PySem.W.findIn X.K (.ref C) f = some none ∧ H2 a = some (exo a C none) ∧ ∀ dx, H2 dx = none → dx ≠ a → D.nx σ (upd (upd H2 dx (exd dx [(f, y)])) a (exo a C (some dx)))) := by
  refine ⟨fun pins s σ H D I h => plainObj_wpAny_Assign_Attribute (thn (he.run pins s σ H _ I h) fun v s1 ⟨y, H1, I1, r1, q1⟩ => thn (ho.run pins s1 σ H1 _ I1 q1) fun w s2 ⟨x, H2, I2, r2, a, C, ex, T, hno, ea, q⟩ => ?_) hs⟩
  subst ex
  obtain rfl : w = Value.ref a := r2
  exact xst_ok Z T I2 ea hno r1 fun dx s' n ne J => ⟨σ, _, J, q dx n ne⟩
end
end PyD

namespace PyD
open PySem PySem.Spec PyProof.Rows L2

/-! ### raise C(e) -/
/-- what is known of an own exception class with one field -/
structure XcFact (P : Program) (w : World) (K : PySem.W.Frag) (mg : Str → Option Value) (base : Heap) (G : Gx) (x : Str) (c k : Nat) (f : Str) : Prop where
  ex : ∃ tl B newId initId fI fd ps, EBase B newId initId tl ∧ XC K (G.cl c) tl newId ∧ PySem.W.findIn K (.ref (G.cl c)) f = some none ∧ mg x = some (.ref (G.cl c)) ∧ PySem.W.findIn K (.ref (G.cl c)) "__init__" = some (some (.ref fI)) ∧
    PySem.W.typeIn K (.ref fI) = some (.type "function") ∧ Binds K fd ps [] ∧ FnOkG P w K mg base k fI fd ps (spX K tl newId f)
def raiseR (c : Nat) (f : Str) (r : Res) (ρ : Rho) : SOut := match settle r ρ with
  | some (d, ρ1) => .exc ⟨.own c, [(f, d)]⟩ ρ1
  | none => .stuck
def mRaise (c : Nat) (f : Str) (me : M) : MS := fun ρ => bindSF (me ρ) fun r ρ1 => raiseR c f r ρ1
section
variable {X : Cx} {Γ : Gm} {W : WX} {e : Expr} {m : M} {x f : Str} {c k : Nat} {p pos pos2 : Pos}
theorem pmk_x {C fI : Addr} {fd : FuncData} {ps : List Str} {tl : List Value} {B newId initId : String} {te : TE} (Z : EBase B newId initId tl) (T : XC X.K C tl newId) (hno : PySem.W.findIn X.K (.ref C) f = some none) (iC : PySem.W.findIn X.K (.ref C) "__init__" = some (some (.ref fI))) (tI : PySem.W.typeIn X.K (.ref fI) = some (.type "function"))
    (F1 : FnOkG X.prog X.w X.K X.mg X.base k fI fd ps (spX X.K tl newId f)) (hr : RG (k + 1) X.A) (hb : Binds X.K fd ps []) (hm : X.mg x = some (.ref C)) (ha : PE X e te)
    (hg : Gl X x := by rfl) (hdb : (x == ("__debug__" : Str)) = false := by decide) (he : starEach [e] X.env = (false, eval e X.env) :: starEach [] X.env := by rfl) (hpl : (backTo pos (starEach [] X.env)).any (·.1) = false := by rfl) :
    PMk X (.Call (.Name x p) [e] [] pos) (fun σ H Q => te σ H fun v H1 => ∀ d, H1 d = none → Q (.ref C) (some d) (upd H1 d (.xd [(f, v)]))) := by
  intro pins s σ H Q I h
  obtain ⟨nm, q, N, bs, bm, sn, sub, ab, col, dd, k0, k1, k2, k3, k5, hC, hbm⟩ := T.cls
  refine wpAny_Call_Name_kw (ld_glob I hg hm ?_ hdb)
  refine PySem.W.callWith_K (h₀ := X.base) I.ok.mod.kin T.kC (thn ((pa_cons ha pa_nil he).run pos pins s σ H (fun vs H1 => match vs with | [v] => ∀ d, H1 d = none → Q (.ref C) (some d) (upd H1 d (.xd [(f, v)])) | _ => False) I h) fun us s1 ⟨vs, H1, I1, r1, q1⟩ => ⟨I1.kIn, ?_⟩) he hpl
  cases r1 with
  | nil => exact q1.elim
  | @cons v u vs2 us2 rv rr =>
    cases rr with
    | cons _ _ => exact q1.elim
    | nil =>
      have q1 : ∀ d, H1 d = none → Q (.ref C) (some d) (upd H1 d (.xd [(f, v)])) := q1
      show wpAny _ _ (call (.ref C) [u]) _ _ _
      obtain ⟨hp, g, dr, tk, os⟩ := s1
      have hsz : hp.objs.size ≤ hp.objs.size + 1 := Nat.le_succ _
      have hn : H1 (hp.objs.size + 1) = none := I1.hok.fresh hsz
      have kk : ∀ b o, hp.get? b = some o → ((hp.push (PySem.W.kdv_tup [u])).push (PySem.HandSPX.excO C hp.objs.size)).get? b = some o := fun b o e => Heap.get?_push_of_some _ (Heap.get?_push_of_some _ e)
      have hget : ((hp.push (PySem.W.kdv_tup [u])).push (PySem.HandSPX.excO C hp.objs.size)).get? (hp.objs.size + 1) = some (PySem.HandSPX.excO C hp.objs.size) := by heap_get
      have I2 := I1.laid (t' := tk) (a := hp.objs.size + 1) (o := exo (hp.objs.size + 1) C none) (h' := (hp.push (PySem.W.kdv_tup [u])).push (PySem.HandSPX.excO C hp.objs.size)) kk hsz (exo_ok hget)
      have r2 : Vals [V.ref (hp.objs.size + 1), v] [Value.ref (hp.objs.size + 1), u] := .cons rfl (.cons rv .nil)
      have hq : spX X.K tl newId f [.ref (hp.objs.size + 1), v] (upd H1 (hp.objs.size + 1) (exo (hp.objs.size + 1) C none))
          (fun z H2 => z = .non ∧ ∃ (d : Addr) (fs : List (Str × V)), H2 (hp.objs.size + 1) = some (exo (hp.objs.size + 1) C (some d)) ∧ H2 d = some (exd d fs) ∧ H1 d = none ∧ Q (.ref C) (some d) (upd (del H2 (hp.objs.size + 1)) d (.xd fs))) (fun _ _ _ => False) := by
        refine ⟨_, C, v, rfl, T, hno, upd_same, fun dx h1 h2 => ⟨rfl, dx, _, upd_same, by rw [upd_ne h2, upd_same], by rw [upd_ne h2] at h1; exact h1, ?_⟩⟩
        have h1' : H1 dx = none := by rw [upd_ne h2] at h1; exact h1
        have eq : upd (del (upd (upd (upd H1 (hp.objs.size + 1) (exo (hp.objs.size + 1) C none)) dx (exd dx [(f, v)])) (hp.objs.size + 1) (exo (hp.objs.size + 1) C (some dx))) (hp.objs.size + 1)) dx (.xd [(f, v)]) = upd H1 dx (.xd [(f, v)]) := by
          funext b
          by_cases hb : b = dx
          · subst hb; rw [upd_same, upd_same]
          · rw [upd_ne hb, upd_ne hb]
            by_cases hc : b = hp.objs.size + 1
            · subst hc; rw [del_same, hn]
            · rw [del_ne hc, upd_ne hc, upd_ne hb, upd_ne hc]
        rw [eq]
        exact q1 dx h1'
      have hl : ([Value.ref (hp.objs.size + 1), u] ++ []).length = ps.length := by
        have e := F1.len _ _ _ _ hq
        rw [← e]; rfl
      have run := F1.run _ X.stack _ _ ⟨[Value.ref (hp.objs.size + 1), u], []⟩ [Value.ref (hp.objs.size + 1), u] _ _ (fun _ _ _ => False) (hr.make C [u] []) (I2.env0.make C [u] []) (hb _ [Value.ref (hp.objs.size + 1), u] I2.kIn hl) r2 hq
      refine wpAny_call (PySem.HandSPX.call_own Z.F (fun Y => PySem.W.excTail_contains Y bm hbm) (I1.kIn _ _ hC) (PySem.W.looks_findIn I1.kIn iC) (fun self => PySem.W.bind_fn I1.kIn self tI) (by rw [sizeLine_eq]; exact (by decide : 1 ≤ 16777216)) (codeAny_mono run fun r s' hq' => ?_))
      cases r with
      | error er =>
        obtain ⟨_, _, _, _, _, _, _, _, _, _, _, _, z⟩ := hq'
        exact z.elim
      | ok fl => cases fl with
        | ret u' =>
          obtain ⟨z, H2, os2, bare2, un2, hok2, rz, ez, d, fs, ea, ed, hd1, q2⟩ := hq'
          subst ez
          obtain ⟨h2, g2, d2, t2, os'⟩ := s'
          exact ⟨rz, mk_end (raises_own T.exC T.tyC) I1 hsz kk un2 hok2 os2 bare2 ea ed hd1 q2⟩
        | _ => exact (show False from hq').elim
theorem js_raise (hc : X.calm = true) (tk : Takes X W) (Fo : XcFact X.prog X.w X.K X.mg X.base Γ.G x c k f) (hr : RG (k + 1) X.A) (ha : PE X e (tM Γ W m))
    (hg : Gl X x := by rfl) (hdb : (x == ("__debug__" : Str)) = false := by decide) (he : starEach [e] X.env = (false, eval e X.env) :: starEach [] X.env := by rfl) (hpl : (backTo pos (starEach [] X.env)).any (·.1) = false := by rfl) :
    PS X (.Raise (some (.Call (.Name x p) [e] [] pos)) none pos2) (tMS Γ W (mRaise c f m)) := by
  obtain ⟨tl, B, newId, initId, fI, fd, ps, Z, T, hno, hm, iC, tI, hb, F1⟩ := Fo.ex
  refine (ps_raise hc tk (pmk_x Z T hno iC tI F1 hr hb hm (je_f ha) hg hdb he hpl)).imp fun D σ H ⟨ρ, F, R, p⟩ => ⟨ρ, F, R, p.bindF fun r ρ1 v F1 H1 s1 hr1 p1 d hd => ?_⟩
  unfold raiseR at p1
  split at p1
  · rename_i z ρ2 e1
    obtain ⟨F2, s2, q2⟩ := settle_ok s1.rel hr1 e1
    have al : Alc F2 H1 (upd F2 d (.xd [(f, v)])) (upd H1 d (.xd [(f, v)])) := Alc.tup s2.rel.sub hd
    exact p1 (some d) σ _ _ (s2.trans (al.stp s2.rel)) ⟨_, upd_same, .cons (q2.mono al.subF) .nil⟩
  · exact p1.elim
end
end PyD

namespace PyD
open PySem PySem.Spec PyProof.Rows L2

/-! ### try: several clauses, with names or without -/
abbrev TSx := Addr → Value → Option Addr → TS
def wTry (K : PySem.W.Frag) (Wout : WX) (D : Ends) : List (Value × Option Nat × TSx) → WX
  | [] => Wout
  | (c, some i, ts) :: r => fun cls d σ H => ∃ b, PySem.W.exmOne K cls c = some b ∧ (b = true → ∀ a, H a = none → ts a cls d ⟨fun σ' H' => D.nx (σ'.set i none) H', D.rt, fun σ' H' => D.bk (σ'.set i none) H', fun σ' H' => D.ct (σ'.set i none) H'⟩ (σ.set i (some (.ref a))) H) ∧ (b = false → wTry K Wout D r cls d σ H)
  | (c, none, ts) :: r => fun cls d σ H => ∃ b, PySem.W.exmOne K cls c = some b ∧ (b = true → ∀ a, H a = none → ts a cls d D σ H) ∧ (b = false → wTry K Wout D r cls d σ H)
abbrev SuOk (X : Cx) (sts : List Stmt) (ts : TSx) : Prop := ∀ (a : Addr) (oe : Obj) (cls : Value) (d : Option Addr) (pn : List (Addr × Obj)), Zc cls d oe → (∃ vs, oe.data = .fields vs) → PSs (X.suite a ((a, oe) :: pn)) sts (ts a cls d)
inductive Cls' (X : Cx) : List ExceptHandler → List (Value × Option Nat × TSx) → Prop
  | nil : Cls' X [] []
  | as {x n : Str} {c : Value} {i : Nat} {ts : TSx} {b₀ : Stmt} {suite : List Stmt} {np pos' : Pos} {hds : List ExceptHandler} {l : List (Value × Option Nat × TSx)} (hc : Names X x c) (hi : X.N[i]? = some n) (hln : X.env.kindOf n = some .local) (hsu : SuOk X (b₀ :: suite) ts) (r : Cls' X hds l) :
      Cls' X (.ExceptHandler (some (.Name x np)) (some n) (b₀ :: suite) pos' :: hds) ((c, some i, ts) :: l)
  | only {x : Str} {c : Value} {ts : TSx} {b₀ : Stmt} {suite : List Stmt} {np pos' : Pos} {hds : List ExceptHandler} {l : List (Value × Option Nat × TSx)} (hc : Names X x c) (hsu : SuOk X (b₀ :: suite) ts) (r : Cls' X hds l) :
      Cls' X (.ExceptHandler (some (.Name x np)) none (b₀ :: suite) pos' :: hds) ((c, none, ts) :: l)
section
variable {X : Cx} {body : List Stmt} {hds : List ExceptHandler} {l : List (Value × Option Nat × TSx)} {h₀ : ExceptHandler} {pos : Pos} {tb : WX → TS} {Wout : WX}
theorem ps_tryM (hs : X.stack = X.env :: X.outer) (hf : X.env.frame = some X.env.locals) (hN : X.N.Nodup) (tk : Takes X Wout)
    (hb : ∀ (W : WX) (pn : List (Addr × Obj)) (xe : Value → Shared → Prop), Takes (X.tr pn xe) W → PassesOwn (model X.prog X.w) X.A X.env xe → PSs (X.tr pn xe) body (tb W))
    (hh : Cls' X (h₀ :: hds) l) : PS X (.Try body (h₀ :: hds) [] [] pos) (fun D σ H => tb (wTry X.K Wout D l) D σ H) := by
  refine ⟨fun pins s σ H D I h => wpAny_Try_except ?_⟩
  have ok := I.ok
  have hfr : X.A.frames = some (X.env :: X.outer) := by rw [ok.frames, hs]
  let xe : Value → Shared → Prop := fun e s₁ => wpAny (model X.prog X.w) X.A (noteFrame e X.env) (fun _ s₂ => wpAny (model X.prog X.w) X.A (setFlight e none) (fun _ s₃ => wpAny (model X.prog X.w) X.A (handleBy e X.env (h₀ :: hds)) (SP X pins D) X.xe s₃) X.xe s₂) X.xe s₁
  have tks : Takes (X.tr (X.pn ++ pins) xe) (wTry X.K Wout D l) := fun u s' xx => by
    obtain ⟨a, B, sI, pins', σ', H', cls, d, rfl, J', nb, up, sky, na, os, ag, w⟩ := xx
    have J : Inv X pins σ' H' sI := J'.ofTry ok
    have sky' : Sky B (X.env :: X.outer) a (Zc cls d) X.env.locals s'.heap := by rw [← hs]; exact sky
    show wpAny (model X.prog X.w) X.A (noteFrame (.ref a) X.env) _ _ _
    refine Sky.land Zc.steady hfr hf sky' fun h3 fl3 up3 => ?_
    have J3 : Inv X pins σ' H' { s' with heap := h3 } := J.landed nb fl3.1 (up.trans up3) os ag
    obtain ⟨oe3, vs3, he3, hz3, hd3⟩ := fl3.there
    have nfr : a ∉ frs (X.env :: X.outer) := fun hm => by
      obtain ⟨_, o', e', hnf⟩ := fl3.2.2.1.mem hm
      rw [he3] at e'; cases e'
      exact hnf _ hd3
    have nL : a ≠ X.env.locals := fun z => nfr (List.mem_filterMap.mpr ⟨X.env, List.mem_cons_self, by rw [hf, z]⟩)
    have nF : a ∉ X.fs := fun hm => by
      obtain ⟨e, he, q⟩ := List.mem_filterMap.mp hm
      exact nfr (List.mem_filterMap.mpr ⟨e, List.mem_cons_of_mem _ he, q⟩)
    have S3 := J3.suite he3 hd3 na nL nF
    have LT : PySem.W.Looks (model X.prog X.w) h3 (typeOf (.ref a)) cls := fun A Q E s k q => wpAny_typeOf_ref (k _ _ he3) (by rw [hz3.1]; exact q)
    have test : ∀ {x : Str} {c : Value} {np : Pos} {Q : Value → Shared → Prop} {E : Value → Shared → Prop}, Names X x c → Q c { s' with heap := h3 } → wpAny (model X.prog X.w) (X.A.mark (some (.ref a))) (eval (.Name x np) X.env) Q E { s' with heap := h3 } := fun {x c np Q E} hc q => by
      obtain ⟨hg, hdbg, hm | ⟨hm, hv, hnn⟩⟩ := hc
      · exact ld_glob (X := X.suite a ((a, oe3) :: (X.pn ++ pins))) S3 hg hm q hdbg
      · exact ld_blt (X := X.suite a ((a, oe3) :: (X.pn ++ pins))) S3 hg hm hv q hnn hdbg
    have go : ∀ {hds' : List ExceptHandler} {l' : List (Value × Option Nat × TSx)}, Cls' X hds' l' → wTry X.K Wout D l' cls d σ' H' → wpAny (model X.prog X.w) X.A (handleBy (.ref a) X.env hds') (SP X pins D) X.xe { s' with heap := h3 } := by
      intro hds' l' hk
      induction hk with
      | nil =>
        intro w
        refine wpAny_handleBy_nil ?_
        obtain ⟨k1, k2, k3, oe, vs, T, oT, ts', he, hz, hd, h1, hr⟩ := id fl3
        have fin : wpAny (model X.prog X.w) X.A (setFlight (.ref a) X.env.frame) (fun _ s4 => wpAny (model X.prog X.w) X.A (throw (.ref a) : Sem Flow) (SP X pins D) X.xe s4) X.xe { s' with heap := h3 } := by
          rw [hf]
          exact HandSPX.setFlight_upZ fl3 fun h4 hh4 up4 => wpAny_throw (tk _ _ ⟨a, B, sI, pins, σ', H', cls, d, rfl, J, nb, (up.trans up3).trans up4, .inr (.inr (by rw [hs]; exact hh4)), na, os, ag, w⟩)
        unfold PySem.passOn
        refine wpAny_bind (wpAny_field he hd h1 ?_)
        rw [if_neg (show ¬ ((Value.ref T == Value.none) = true) from by simp)]
        first
          | exact wpAny_bind fin
          | exact wpAny_bind (wpAny_pure (wpAny_bind fin))
      | @only x c ts b₀ suite np pos' hds2 l2 hc hsu r ih =>
        intro w
        obtain ⟨b, hb1, hyes, hno⟩ := w
        refine wpAny_handleBy_cons (codeAny_handlers_test ?_) (by intro q; cases q)
        refine test hc ((PySem.W.exm_one (M := model X.prog X.w) (J3.kIn) LT hb1).here ?_)
        cases b with
        | false => exact ih (hno rfl)
        | true =>
          refine codeAny_handlers_suite (HandSPX.lands_againZ fl3 fun h4 fl4 up4 => ?_)
          have J4 : Inv X pins σ' H' { s' with heap := h4 } := J.landed nb fl4.1 ((up.trans up3).trans up4) os ag
          obtain ⟨oe4, vs4, he4, hz4, hd4⟩ := fl4.there
          have S4 := J4.suite he4 hd4 na nL nF
          refine wpAny_mono ((hsu a oe4 cls d (X.pn ++ pins) hz4 ⟨_, hd4⟩).run [] _ _ H' _ S4 (hyes rfl a na)) (fun f s6 hsp => ?_) (fun _ _ z => False.elim z)
          cases f with
          | ret u => obtain ⟨v6, σ6, H6, S6, r6, q6⟩ := hsp; exact ⟨_, _, _, S6.unsuite ok, r6, q6⟩
          | _ => obtain ⟨σ6, H6, S6, q6⟩ := hsp; exact ⟨_, _, S6.unsuite ok, q6⟩
      | @as x n c i ts b₀ suite np pos' hds2 l2 hc hi hln hsu r ih =>
        intro w
        obtain ⟨b, hb1, hyes, hno⟩ := w
        refine wpAny_handleBy_cons (codeAny_handlers_test ?_) (by intro q; cases q)
        refine test hc ((PySem.W.exm_one (M := model X.prog X.w) (J3.kIn) LT hb1).here ?_)
        cases b with
        | false => exact ih (hno rfl)
        | true =>
          refine codeAny_handlers_suite_as (HandSPX.lands_againZ fl3 fun h4 fl4 up4 => ?_)
          have J4 : Inv X pins σ' H' { s' with heap := h4 } := J.landed nb fl4.1 ((up.trans up3).trans up4) os ag
          obtain ⟨oe4, vs4, he4, hz4, hd4⟩ := fl4.there
          have S4 := J4.suite he4 hd4 na nL nF
          refine store_ok (X := X.suite a ((a, oe4) :: (X.pn ++ pins))) (v := .ref a) S4 hN hi (.inl hln) rfl (fun s5 S5 => ?_) (.inr hln)
          refine wpAny_mono ((hsu a oe4 cls d (X.pn ++ pins) hz4 ⟨_, hd4⟩).run [] s5 _ H' _ S5 (hyes rfl a na)) (fun f s6 hsp => ?_) (fun _ _ z => False.elim z)
          have off : ∀ {σ6 : St} {H6 : Hp} {Q : Shared → Prop}, Inv (X.suite a ((a, oe4) :: (X.pn ++ pins))) [] σ6 H6 s6 → (∀ s7, Inv X pins (σ6.set i none) H6 s7 → Q s7) → wpAny (model X.prog X.w) X.A (do bindName X.env n .none; unbindBehindTheSuite X.env n pos') (fun _ s7 => Q s7) X.xe s6 :=
            fun {σ6 H6 Q} S6 hq => gone_ok (S6.unsuite ok) hN hi hln hq
          cases f with
          | ret u => obtain ⟨v6, σ6, H6, S6, r6, q6⟩ := hsp; exact off S6 fun s7 J7 => ⟨_, _, _, J7, r6, q6⟩
          | _ => obtain ⟨σ6, H6, S6, q6⟩ := hsp; exact off S6 fun s7 J7 => ⟨_, _, J7, q6⟩
    exact go hh w
  refine wpAny_mono ((hb (wTry X.K Wout D l) (X.pn ++ pins) xe tks PassesOwn.looking).run [] s σ H D (I.toTry _) h) (fun f s1 hsp => ?_) (fun e s1 he => he)
  cases f with
  | next => obtain ⟨σ', H', J', q⟩ := hsp; exact wpAny_execs_nil ⟨σ', H', J'.ofTry ok, q⟩
  | ret u => obtain ⟨v, σ', H', J', r, q⟩ := hsp; exact ⟨v, σ', H', J'.ofTry ok, r, q⟩
  | _ => obtain ⟨σ', H', J', q⟩ := hsp; exact ⟨σ', H', J'.ofTry ok, q⟩
end
end PyD

namespace PyD
open PySem PySem.Spec PyProof.Rows L2

def noExn (ρ : Rho) : Bool := ρ.all fun s => match s with
  | some .exn => false
  | _ => true
theorem noExn_at {ρ : Rho} {i : Nat} (h : noExn ρ = true) : ρ[i]? ≠ some (some .exn) := fun e => by
  have := List.all_eq_true.mp h _ (List.mem_of_getElem? e)
  cases this
/-- the exception that a suite holds: x, at a, its dict at d -/
theorem excRep_mono {G : Gx} {F F' H H' : Hp} {x : Exc} {d : Option Addr} (e : Same F F') (h : ExcRep G F H x d) : ExcRep G F' H' x d := by
  cases d with
  | none => exact h
  | some b => obtain ⟨fvs, h1, h2⟩ := h; exact ⟨fvs, e _ _ h1, h2.mono e⟩
abbrev Gs (Γ : Gm) (a : Addr) (x : Exc) (d : Option Addr) : Gm := { Γ with x := a, J := fun F => ExcRep Γ.G F F x d, Jm := fun F F' e h => excRep_mono e h }
theorem own_gs {Γ : Gm} {ρ : Rho} {σ : St} {F H : Hp} {a : Addr} {x : Exc} {d : Option Addr} {i : Nat} {c : Addr} : OwnAt (Gs Γ a x d) ρ σ F H i c ↔ OwnAt Γ ρ σ F H i c := by
  constructor
  · rintro ⟨s, v, L, h1, h2, h3, h4⟩
    cases s with
    | val d => rw [h3.2] at h4; cases h4
    | exn => rw [h3.2] at h4; cases h4
    | own b d => exact ⟨_, v, L, h1, h2, h3, h4⟩
  · rintro ⟨s, v, L, h1, h2, h3, h4⟩
    cases s with
    | val d => rw [h3.2] at h4; cases h4
    | exn => rw [h3.2] at h4; cases h4
    | own b d => exact ⟨_, v, L, h1, h2, h3, h4⟩
theorem Rel.suite {Γ : Gm} {ρ : Rho} {σ : St} {F H : Hp} {a : Addr} {x : Exc} {d : Option Addr} (R : Rel Γ ρ σ F H) (n : noExn ρ = true) (q : ExcRep Γ.G F H x d) : Rel (Gs Γ a x d) ρ σ F H :=
  ⟨R.sub, fun i s h => by
    obtain ⟨v, L, h1, h2⟩ := R.slot i s h
    refine ⟨v, L, h1, ?_⟩
    cases s with
    | val d => exact h2
    | own b d => exact h2
    | exn => exact absurd h (noExn_at n), fun i j c h1 h2 => R.inj i j c (own_gs.mp h1) (own_gs.mp h2), fun i c h => R.own i c (own_gs.mp h), R.len, excRep_mono (H' := F) (Same.refl _) q, R.ali⟩
theorem Stp.unsuite {Γ : Gm} {ρ ρ' : Rho} {σ σ' : St} {F H F' H' : Hp} {a : Addr} {x : Exc} {d : Option Addr} (s : Stp (Gs Γ a x d) ρ σ F H ρ' σ' F' H') (n : noExn ρ' = true) (j : Γ.J F) : Stp Γ ρ σ F H ρ' σ' F' H' :=
  ⟨⟨s.rel.sub, fun i sl h => by
    obtain ⟨v, L, h1, h2⟩ := s.rel.slot i sl h
    refine ⟨v, L, h1, ?_⟩
    cases sl with
    | val d => exact h2
    | own b d => exact h2
    | exn => exact absurd h (noExn_at n), fun i j c h1 h2 => s.rel.inj i j c (own_gs.mpr h1) (own_gs.mpr h2), fun i c h => s.rel.own i c (own_gs.mpr h), s.rel.len, Γ.Jm _ _ s.subF j, s.rel.ali⟩, s.subF, s.keep, s.there⟩
theorem Stp.off {Γ : Gm} {ρ₀ ρ : Rho} {σ₀ σ : St} {F₀ H₀ F H : Hp} (s : Stp Γ ρ₀ σ₀ F₀ H₀ ρ σ F H) (i : Nat) : Stp Γ ρ₀ σ₀ F₀ H₀ (ρ.set i none) (σ.set i none) F H ∧ ∀ c, Own Γ (ρ.set i none) (σ.set i none) F H c → Own Γ ρ σ F H c := by
  obtain ⟨R, bk⟩ := s.rel.drop (σ' := σ.set i none) i (fun j e => by rw [List.getElem?_set_ne (Ne.symm e)]) (by simp)
  exact ⟨⟨R, s.subF, s.keep, s.there⟩, fun c ⟨j, o⟩ => ⟨j, (bk j c o).2⟩⟩

/-! ### the clauses -/
structure Hd where
  tst : ECl → Option Bool
  slot : Option Nat
  ms : Exc → MS
def offS (i : Nat) : SOut → SOut
  | .nx ρ => if noExn (ρ.set i none) = true then .nx (ρ.set i none) else .stuck
  | .ret r ρ => if noExn (ρ.set i none) = true then .ret r (ρ.set i none) else .stuck
  | .bk ρ => if noExn (ρ.set i none) = true then .bk (ρ.set i none) else .stuck
  | .ct ρ => if noExn (ρ.set i none) = true then .ct (ρ.set i none) else .stuck
  | _ => .stuck
def onS : SOut → SOut
  | .nx ρ => if noExn ρ = true then .nx ρ else .stuck
  | .ret r ρ => if noExn ρ = true then .ret r ρ else .stuck
  | .bk ρ => if noExn ρ = true then .bk ρ else .stuck
  | .ct ρ => if noExn ρ = true then .ct ρ else .stuck
  | _ => .stuck
def mHd : List Hd → Exc → Rho → SOut
  | [], x, ρ => .exc x ρ
  | h :: r, x, ρ => match h.tst x.c with
    | some true => if noExn ρ = true then (match h.slot with
      | some i => if i < ρ.length then offS i (h.ms x (ρ.set i (some .exn))) else .stuck
      | none => onS (h.ms x ρ)) else .stuck
    | some false => mHd r x ρ
    | none => .stuck
def mTry (mb : MS) (hs : List Hd) : MS := fun ρ => match mb ρ with
  | .exc x ρ1 => mHd hs x ρ1
  | o => o
def tsOf (Γ : Gm) (ms : Exc → MS) : TSx := fun a cls d D σ H => ∃ x, cls = ecV Γ.G x.c ∧ tMS (Gs Γ a x d) (fun _ _ _ _ => False) (ms x) D σ H
theorem suP {X : Cx} {Γ : Gm} {a : Addr} {cls : Value} {d : Option Addr} {ms : Exc → MS} {sts : List Stmt} (h : ∀ x, cls = ecV Γ.G x.c → PSs X sts (tMS (Gs Γ a x d) (fun _ _ _ _ => False) (ms x))) : PSs X sts (tsOf Γ ms a cls d) :=
  ⟨fun pins s σ H D I ⟨x, e, q⟩ => (h x e).run pins s σ H D I q⟩
inductive HdR (K : PySem.W.Frag) (Γ : Gm) : List Hd → List (Value × Option Nat × TSx) → Prop
  | nil : HdR K Γ [] []
  | cons {h : Hd} {c : Value} {r : List Hd} {l : List (Value × Option Nat × TSx)} (ht : ∀ e b, h.tst e = some b → PySem.W.exmOne K (ecV Γ.G e) c = some b) (t : HdR K Γ r l) : HdR K Γ (h :: r) ((c, h.slot, tsOf Γ h.ms) :: l)
section
variable {K : PySem.W.Frag} {Γ : Gm} {W : WX}
theorem RepOut.gs {Γ : Gm} {a : Addr} {x : Exc} {d : Option Addr} {ρ : Rho} {σ : St} {F H : Hp} {v : V} {r : Res} (h : RepOut (Gs Γ a x d) ρ σ F H v r) : RepOut Γ ρ σ F H v r := by
  cases r with
  | val d => exact h
  | «at» j => exact h
  | new d => obtain ⟨a, L, e, c, fr⟩ := h; exact ⟨a, L, e, c, fun b hb => ⟨(fr b hb).1, (fr b hb).2.1, fun ⟨j, z⟩ => (fr b hb).2.2 ⟨j, own_gs.mpr z⟩⟩⟩
theorem RepOut.sub {ρ ρ' : Rho} {σ σ' : St} {F H : Hp} {v : V} {r : Res} (bk : ∀ c, Own Γ ρ' σ' F H c → Own Γ ρ σ F H c) (h : RepOut Γ ρ σ F H v r) : RepOut Γ ρ' σ' F H v r := by
  cases r with
  | val d => exact h
  | «at» j => exact h
  | new d => obtain ⟨a, L, e, c, fr⟩ := h; exact ⟨a, L, e, c, fun b hb => ⟨(fr b hb).1, (fr b hb).2.1, fun z => (fr b hb).2.2 (bk b z)⟩⟩
theorem hd_ok {D : Ends} {x : Exc} {d : Option Addr} {ρ ρ1 : Rho} {σ σ1 : St} {F H F1 H1 : Hp} (s : Stp Γ ρ σ F H ρ1 σ1 F1 H1) (q : ExcRep Γ.G F1 H1 x d) : ∀ {hs : List Hd} {l : List (Value × Option Nat × TSx)}, HdR K Γ hs l → PostS Γ W (mHd hs x ρ1) ρ σ F H D → wTry K W D l (ecV Γ.G x.c) d σ1 H1
  | _, _, .nil, p => p d σ1 F1 H1 s q
  | _, _, .cons (h := h) (c := c) (r := r) (l := l) ht t, p => by
    simp only [mHd] at p
    cases et : h.tst x.c with
    | none => rw [et] at p; exact p.elim
    | some b =>
      rw [et] at p
      have hb := ht _ _ et
      cases b with
      | false =>
        have z := hd_ok s q t p
        cases es : h.slot with
        | none => exact ⟨false, hb, (fun w => by cases w), fun _ => z⟩
        | some i => exact ⟨false, hb, (fun w => by cases w), fun _ => z⟩
      | true =>
        simp only at p
        split at p
        · rename_i hn
          cases es : h.slot with
          | none =>
            refine ⟨true, hb, fun _ a ha => ⟨x, rfl, ρ1, F1, s.rel.suite hn q, ?_⟩, (fun w => by cases w)⟩
            rw [es] at p
            simp only at p
            cases eo : h.ms x ρ1 with
            | nx ρ2 =>
              rw [eo] at p; simp only [onS] at p; split at p
              · rename_i w; exact fun σ2 F2 H2 s2 => p σ2 F2 H2 (s.trans (s2.unsuite w s.rel.inv))
              · exact p.elim
            | bk ρ2 =>
              rw [eo] at p; simp only [onS] at p; split at p
              · rename_i w; exact fun σ2 F2 H2 s2 => p σ2 F2 H2 (s.trans (s2.unsuite w s.rel.inv))
              · exact p.elim
            | ct ρ2 =>
              rw [eo] at p; simp only [onS] at p; split at p
              · rename_i w; exact fun σ2 F2 H2 s2 => p σ2 F2 H2 (s.trans (s2.unsuite w s.rel.inv))
              · exact p.elim
            | ret r2 ρ2 =>
              rw [eo] at p; simp only [onS] at p; split at p
              · rename_i w; exact fun v σ2 F2 H2 s2 o2 => p v σ2 F2 H2 (s.trans (s2.unsuite w s.rel.inv)) o2.gs
              · exact p.elim
            | exc y ρ2 => rw [eo] at p; exact p.elim
            | stuck => rw [eo] at p; exact p.elim
          | some i =>
            refine ⟨true, hb, fun _ a ha => ?_, (fun w => by cases w)⟩
            rw [es] at p
            simp only at p
            split at p
            · rename_i hi
              have R1 := s.rel.suite (a := a) hn q
              have s1 : Stp (Gs Γ a x d) ρ1 σ1 F1 H1 (ρ1.set i (some .exn)) (σ1.set i (some (.ref a))) F1 H1 := (Stp.refl R1).set (L := []) hi ⟨rfl, rfl⟩ fresh_nil
              refine ⟨x, rfl, _, F1, s1.rel, ?_⟩
              cases eo : h.ms x (ρ1.set i (some .exn)) with
              | nx ρ2 =>
                rw [eo] at p; simp only [offS] at p; split at p
                · rename_i w; exact fun σ2 F2 H2 s2 => p _ F2 H2 (s.trans (((s1.trans s2).off i).1.unsuite w s.rel.inv))
                · exact p.elim
              | bk ρ2 =>
                rw [eo] at p; simp only [offS] at p; split at p
                · rename_i w; exact fun σ2 F2 H2 s2 => p _ F2 H2 (s.trans (((s1.trans s2).off i).1.unsuite w s.rel.inv))
                · exact p.elim
              | ct ρ2 =>
                rw [eo] at p; simp only [offS] at p; split at p
                · rename_i w; exact fun σ2 F2 H2 s2 => p _ F2 H2 (s.trans (((s1.trans s2).off i).1.unsuite w s.rel.inv))
                · exact p.elim
              | ret r2 ρ2 =>
                rw [eo] at p; simp only [offS] at p; split at p
                · rename_i w; exact fun v σ2 F2 H2 s2 o2 => p v _ F2 H2 (s.trans (((s1.trans s2).off i).1.unsuite w s.rel.inv)) (o2.sub ((s1.trans s2).off i).2).gs
                · exact p.elim
              | exc y ρ2 => rw [eo] at p; exact p.elim
              | stuck => rw [eo] at p; exact p.elim
            · exact p.elim
        · exact p.elim
end
theorem js_try {X : Cx} {Γ : Gm} {W : WX} {body : List Stmt} {h₀ : ExceptHandler} {hds : List ExceptHandler} {l : List (Value × Option Nat × TSx)} {hs : List Hd} {mb : MS} {pos : Pos} (hst : X.stack = X.env :: X.outer) (hf : X.env.frame = some X.env.locals) (hN : X.N.Nodup) (tk : Takes X W)
    (hb : ∀ (W : WX) (pn : List (Addr × Obj)) (xe : Value → Shared → Prop), Takes (X.tr pn xe) W → PassesOwn (model X.prog X.w) X.A X.env xe → PSs (X.tr pn xe) body (tMS Γ W mb))
    (hh : Cls' X (h₀ :: hds) l) (hr : HdR X.K Γ hs l) : PS X (.Try body (h₀ :: hds) [] [] pos) (tMS Γ W (mTry mb hs)) :=
  (ps_tryM hst hf hN tk hb hh).imp fun D σ H ⟨ρ, F, R, p⟩ => ⟨ρ, F, R, by
    unfold mTry at p
    cases e : mb ρ with
    | exc x ρ1 => rw [e] at p; exact fun d σ' F' H' s q => hd_ok s q hr p
    | nx ρ1 => rw [e] at p; exact p
    | ret r ρ1 => rw [e] at p; exact p
    | bk ρ1 => rw [e] at p; exact p
    | ct ρ1 => rw [e] at p; exact p
    | stuck => rw [e] at p; exact p.elim⟩

/-! ### what a suite asks of its exception -/
def xcO (x : Exc) (c : Nat) : Bool := match x.c with
  | .own c' => c' == c
  | _ => false
def exnAt (ρ : Rho) (i : Nat) : Bool := match ρ[i]? with
  | some (some .exn) => true
  | _ => false
def mXf (c i : Nat) (x : Exc) (f : Str) : M := fun ρ => if exnAt ρ i && xcO x c then (match x.fs.lookup f with
  | some d => .ok (.val d) ρ
  | none => .stuck) else .stuck
theorem exnAt_ok {ρ : Rho} {i : Nat} (h : exnAt ρ i = true) : ρ[i]? = some (some .exn) := by
  unfold exnAt at h; split at h
  · assumption
  · cases h
theorem xcO_ok {G : Gx} {x : Exc} {c : Nat} (h : xcO x c = true) : ecV G x.c = .ref (G.cl c) := by
  unfold xcO at h; split at h
  · rename_i c' e; rw [e]; obtain rfl : c' = c := by simpa using h
    rfl
  · cases h
section
variable {X : Cx} {Γ : Gm} {W : WX} {a : Addr} {oe : Obj} {cls : Value} {d : Option Addr} {pn : List (Addr × Obj)} {x : Exc} {n f : Str} {c i : Nat} {p pos : Pos}
theorem je_xf (T : XfC X.K (Γ.G.cl c)) (hno : PySem.W.findIn X.K (.ref (Γ.G.cl c)) f = some none) (hz : Zc cls d oe) (hf : ∃ vs, oe.data = .fields vs) (hc : cls = ecV Γ.G x.c) (hN : X.N[i]? = some n := by rfl)
    (hv : Vis X.env.scope n := by first | exact Or.inl rfl | exact Or.inr (Or.inl rfl) | exact Or.inr (Or.inr rfl)) (hd1 : (n == ("__debug__" : Str)) = false := by decide) (hcd : (n == ("__classdict__" : Str)) = false := by decide)
    (hb : attributeBase (.Name n p) f X.env (eval (.Name n p) X.env) = eval (.Name n p) X.env := by rfl) : PE (X.suite a ((a, oe) :: pn)) (.Attribute (.Name n p) f pos) (tM (Gs Γ a x d) W (mXf c i x f)) :=
  (pe_xf T hno hz hf (pe_var (X := X.suite a ((a, oe) :: pn)) hN hv hd1 hcd) hb).imp fun σ H Q ⟨ρ, F, R, q⟩ => by
    unfold mXf at q
    split at q
    · rename_i w
      obtain ⟨w1, w2⟩ := Bool.and_eq_true_iff.mp w
      obtain ⟨v, _, h1, h2, _⟩ := R.slot i _ (exnAt_ok w1)
      split at q
      · rename_i z e
        have J := R.inv
        cases d with
        | none => rw [show x.fs = [] from J] at e; cases e
        | some dd =>
          obtain ⟨fvs, g1, g2⟩ := J
          obtain ⟨u, g3, g4⟩ := g2.look e
          exact ⟨v, h1, h2, by rw [hc, xcO_ok w2], dd, fvs, u, rfl, R.sub _ _ g1, g3, q u F H (.refl R) g4⟩
      · exact q.elim
    · exact q.elim
/-- isinstance(e, C) -/
def mXi (c i : Nat) (x : Exc) (b : Bool) : M := fun ρ => if exnAt ρ i && xcO x c then .ok (.val (.bl b)) ρ else .stuck
theorem call_isX {D : Addr} {cv : Value} {b : Bool} (C : ExcC X.K D) (hz : Zc (.ref D) d oe) (hf : ∃ vs, oe.data = .fields vs) (e : PySem.W.kitOne X.K (.ref D) cv = some b) : CallR (X.suite a ((a, oe) :: pn)) (.builtin "isinstance")
    (fun xs H Q => ∃ c, xs = [.ref a, c] ∧ (∀ u, RelV c u → u = cv) ∧ (∀ dd, d = some dd → ∃ fs, H dd = some (.xd fs)) ∧ Q (.bl b) H) := by
  intro pins s σ H xs us Q I r h
  obtain ⟨c, rfl, hcv, hdd, q⟩ := h
  obtain ⟨u1, u2, rfl, r1, r2⟩ := r.two
  obtain rfl : u1 = Value.ref a := r1
  obtain rfl := hcv _ r2
  obtain ⟨hget, _⟩ := I.pin (a, oe) (List.mem_append.mpr (.inl List.mem_cons_self))
  obtain ⟨vs, hv⟩ := hf
  have hcl : (PySem.W.clsIn X.K D).isSome = true := by
    obtain ⟨cd, h1, _⟩ := PySem.W.any_some C.hd
    rw [h1]; rfl
  have J : ∃ od, PySem.W.InstAt s.heap a oe D od := by
    cases d with
    | none => exact ⟨none, hget, hz.1, by unfold PySem.W.notCls; rw [hv] <;> rfl, by rw [hz.2]; trivial⟩
    | some dd =>
      obtain ⟨fs, hx⟩ := hdd dd rfl
      obtain ⟨mA, hns, _⟩ := (show ObjOk X.prog X.w H s.heap dd (.xd fs) from I.hok dd _ hx)
      obtain ⟨od, ho, _⟩ := lookIn_ns hns
      exact ⟨some od, hget, hz.1, by unfold PySem.W.notCls; rw [hv] <;> rfl, by rw [hz.2]; exact ho⟩
  obtain ⟨od, J⟩ := J
  exact PySem.W.kia_one (PySem.W.kitx_exc hcl C.hg C.hk C.hs C.ha C.hn C.ht C.hm) I.kIn J e (fun z => nomatch z) fun tk => ⟨.bl b, H, I.kept (t' := tk) fun _ _ z => z, rfl, q⟩
theorem je_xi {e2 : Expr} {cv : Value} {cw : V} {b : Bool} {p0 : Pos} (C : ExcC X.K (Γ.G.cl c)) (hz : Zc cls d oe) (hf : ∃ vs, oe.data = .fields vs) (hc : cls = ecV Γ.G x.c) (hk : PySem.W.kitOne X.K (.ref (Γ.G.cl c)) cv = some b) (h2 : PE (X.suite a ((a, oe) :: pn)) e2 (tC cw)) (hcw : ∀ u, RelV cw u → u = cv) (hm : X.mg "isinstance" = none)
    (hcs : xcO x c = true → cls = .ref (Γ.G.cl c) := fun w => by rw [hc, xcO_ok w]) (hN : X.N[i]? = some n := by rfl) (hv : Vis X.env.scope n := by first | exact Or.inl rfl | exact Or.inr (Or.inl rfl) | exact Or.inr (Or.inr rfl)) (hd1 : (n == ("__debug__" : Str)) = false := by decide) (hcd : (n == ("__classdict__" : Str)) = false := by decide)
    (hg : Gl X "isinstance" := by rfl) (he : starEach [.Name n p, e2] X.env = (false, eval (.Name n p) X.env) :: starEach [e2] X.env := by rfl) (he2 : starEach [e2] X.env = (false, eval e2 X.env) :: starEach [] X.env := by rfl) (hpl : (backTo pos (starEach [e2] X.env)).any (·.1) = false := by rfl) :
    PE (X.suite a ((a, oe) :: pn)) (.Call (.Name "isinstance" p0) [.Name n p, e2] [] pos) (tM (Gs Γ a x d) W (mXi c i x b)) := by
  by_cases w : xcO x c = true
  · have hcl := hcs w
    subst hcl
    refine (pe_callB (call_isX C hz hf hk) hg hm (by decide +kernel) (pa_cons (pe_var (X := X.suite a ((a, oe) :: pn)) hN hv hd1 hcd) (pa_cons h2 pa_nil he2) he) (by decide) (by decide) he hpl).imp fun σ H Q ⟨ρ, F, R, q⟩ => ?_
    unfold mXi at q
    split at q
    · rename_i w'
      obtain ⟨w1, w2⟩ := Bool.and_eq_true_iff.mp w'
      obtain ⟨v, _, h1, h2', _⟩ := R.slot i _ (exnAt_ok w1)
      refine ⟨v, h1, ?_⟩
      refine ⟨cw, by rw [show v = .ref a from h2'], hcw, fun dd e => ?_, q (.bl b) F H (.refl R) (.bl b)⟩
      subst e
      obtain ⟨fvs, g1, g2⟩ := R.inv
      exact ⟨fvs, R.sub _ _ g1⟩
    · exact q.elim
  · refine ⟨fun pins s σ H Q I ⟨ρ, F, R, q⟩ => ?_⟩
    unfold mXi at q
    simp only [Bool.and_eq_true, w, and_false, Bool.false_eq_true, if_false] at q
    exact q.elim
end
end PyD

/-! ### == and != of lists and tuples whose items have an own ==: both answers -/
namespace PyQ
open PySem PySem.SeqAt GQ
open AutoSeq1 (wpAny_loadPart')
open MeetsSeq MeetsSeq2 MeetsSeq3 SeqRoads2
section
variable {prog : Program} {w : World} {A : Around} {R : Result → Shared → Prop} {neg : Bool}
def LI (l b : Addr) (N : Nat) (s : Shared) : Prop := ∃ (items items2 : Array Value) (n n2 : Nat), s.heap.get? l = some { cls := .type "list", data := .seq items n } ∧ s.heap.get? b = some { cls := .type "list", data := .seq items2 n2 } ∧ items.size = N ∧ items2.size = N
def Trn (prog : Program) (w : World) (A : Around) (E : Value → Shared → Prop) (l b : Addr) (N : Nat) (I : Nat → Shared → Prop) (J : Shared → Prop) : Prop :=
  ∀ i s, I i s → ∃ (items items2 : Array Value) (n n2 : Nat), s.heap.get? l = some { cls := .type "list", data := .seq items n } ∧ s.heap.get? b = some { cls := .type "list", data := .seq items2 n2 } ∧ items.size = N ∧ items2.size = N ∧
    ∀ (h1 : i < items.size) (h2 : i < items2.size), wpAny (model prog w) A.in1 (eqBool items[i] items2[i]) (fun r s' => (r = true ∧ I (i + 1) s') ∨ (r = false ∧ J s')) E s
def cod (neg : Bool) : Nat := if neg then 3 else 2
theorem loop2 (l b : Addr) (N : Nat) (I : Nat → Shared → Prop) (J : Shared → Prop) (hl : Trn prog w A (fun e s' => R (.error e) s') l b N I J) (hJ : ∀ s, J s → LI l b N s ∧ R (.ok (.ret (.bool neg))) s)
    (fin : ∀ s, I N s → R (.ok (.ret (.bool (!neg)))) s) (k : Nat) : ∀ i : Nat, N - i = k → i ≤ N → ∀ s, I i s →
      wpAny (model prog w) A.in1 (Builtin.«list.__eq__.loop» ⟨[.ref l, .ref b, rawInt i, rawInt (cod neg)], []⟩) (FinOf prog w A R) (fun e s' => R (.error e) s') s := by
  induction k with
  | zero =>
    intro i hk hi s h
    obtain ⟨xs, ys, n, n2, hl1, hb1, hs1, hs2, _⟩ := hl _ _ h
    have hi' : i = N := by omega
    have hR := fin s (hi' ▸ h)
    obtain ⟨hp, g, d, tk, os⟩ := s
    have hi1 : xs[((i : Nat) : Int).toNat]? = none := by simp; omega
    have hi2 : ys[((i : Nat) : Int).toNat]? = none := by simp; omega
    cases neg with
    | false =>
      wp_walk using wpAny_loadPart' hl1, wpAny_loadPart' hb1
      rw [hi1, hi2]
      wp_walk using wpAny_loadPart' hl1, wpAny_loadPart' hb1
      show R (.ok (.ret (.bool (xs.size == ys.size)))) _
      rw [hs1, hs2]; simpa using hR
    | true =>
      wp_walk using wpAny_loadPart' hl1, wpAny_loadPart' hb1
      rw [hi1, hi2]
      wp_walk using wpAny_loadPart' hl1, wpAny_loadPart' hb1
      show R (.ok (.ret (.bool (xs.size != ys.size)))) _
      rw [hs1, hs2]; simpa using hR
  | succ k ih =>
    intro i hk hi s h
    obtain ⟨xs, ys, n, n2, hl1, hb1, hs1, hs2, turn⟩ := hl _ _ h
    have lt1 : i < xs.size := by omega
    have lt2 : i < ys.size := by omega
    have ht := turn lt1 lt2
    have hc : ((i : Int) + 1) = ((i + 1 : Nat) : Int) := by omega
    have hi1 : xs[((i : Nat) : Int).toNat]? = some xs[i] := by simp [lt1]
    have hi2 : ys[((i : Nat) : Int).toNat]? = some ys[i] := by simp [lt2]
    obtain ⟨hp, g, d, tk, os⟩ := s
    cases neg with
    | false =>
      wp_walk using wpAny_loadPart' hl1, wpAny_loadPart' hb1
      rw [hi1, hi2]
      refine wpAny_bind (wpAny_mono ht (fun r s2 h2 => ?_) fun _ _ x => x)
      rcases h2 with ⟨rfl, h2⟩ | ⟨rfl, h2⟩
      · have hrec := ih (i + 1) (by omega) (by omega) s2 h2
        obtain ⟨hp2, g2, d2, tk2, os2⟩ := s2
        wp_walk
        rw [hc]
        exact ⟨plainId_quiet plain_eq_loop _, codeAny_builtin entry_eq_loop (by rw [Around.under_plainId plain_eq_loop _]; exact hrec)⟩
      · obtain ⟨⟨xs', ys', m, m2, g1, g2, z1, z2⟩, hR⟩ := hJ s2 h2
        have j1 : xs'[((i : Nat) : Int).toNat]? = some (xs'[i]'(by omega)) := by simp
        have j2 : ys'[((i : Nat) : Int).toNat]? = some (ys'[i]'(by omega)) := by simp
        obtain ⟨hp2, g2', d2, tk2, os2⟩ := s2
        wp_walk using wpAny_loadPart' g1, wpAny_loadPart' g2
        rw [j1, j2]
        wp_walk
        exact hR
    | true =>
      wp_walk using wpAny_loadPart' hl1, wpAny_loadPart' hb1
      rw [hi1, hi2]
      refine wpAny_bind (wpAny_mono ht (fun r s2 h2 => ?_) fun _ _ x => x)
      rcases h2 with ⟨rfl, h2⟩ | ⟨rfl, h2⟩
      · have hrec := ih (i + 1) (by omega) (by omega) s2 h2
        obtain ⟨hp2, g2, d2, tk2, os2⟩ := s2
        wp_walk
        rw [hc]
        exact ⟨plainId_quiet plain_eq_loop _, codeAny_builtin entry_eq_loop (by rw [Around.under_plainId plain_eq_loop _]; exact hrec)⟩
      · obtain ⟨⟨xs', ys', m, m2, g1, g2, z1, z2⟩, hR⟩ := hJ s2 h2
        have j1 : xs'[((i : Nat) : Int).toNat]? = some (xs'[i]'(by omega)) := by simp
        have j2 : ys'[((i : Nat) : Int).toNat]? = some (ys'[i]'(by omega)) := by simp
        obtain ⟨hp2, g2', d2, tk2, os2⟩ := s2
        wp_walk using wpAny_loadPart' g1, wpAny_loadPart' g2
        rw [j1, j2]
        wp_walk
        exact hR
theorem list2 (l b : Addr) (N : Nat) (I : Nat → Shared → Prop) (J : Shared → Prop) (hl : Trn prog w A (fun e s' => R (.error e) s') l b N I J) (hJ : ∀ s, J s → LI l b N s ∧ R (.ok (.ret (.bool neg))) s)
    (fin : ∀ s, I N s → R (.ok (.ret (.bool (!neg)))) s) {s : Shared} (h : I 0 s) :
    wpAny (model prog w) A.in1 ((if neg then Builtin.«list.__ne__» else Builtin.«list.__eq__») ⟨[.ref l, .ref b], []⟩) (FinOf prog w A R) (fun e s' => R (.error e) s') s := by
  obtain ⟨xs, ys, n, n2, hl1, hb1, hs1, hs2, _⟩ := hl _ _ h
  have hrec := loop2 (A := A) (R := R) l b N I J hl hJ fin _ 0 rfl (Nat.zero_le _) s h
  obtain ⟨hp, g, d, tk, os⟩ := s
  have f3 := AutoSeq1.sub_list_list
  have hne : ¬ (xs.size != ys.size) = true := by simp [hs1, hs2]
  cases neg with
  | false =>
    simp only [Bool.false_eq_true, if_false]
    wp_walk using wpAny_loadPart' hl1, wpAny_loadPart' hb1
    exact ⟨plainId_quiet plain_eq_loop _, codeAny_builtin entry_eq_loop (by rw [Around.under_plainId plain_eq_loop _]; exact hrec)⟩
  | true =>
    simp only [if_true]
    wp_walk using wpAny_loadPart' hl1, wpAny_loadPart' hb1
    exact ⟨plainId_quiet plain_eq_loop _, codeAny_builtin entry_eq_loop (by rw [Around.under_plainId plain_eq_loop _]; exact hrec)⟩
theorem listLen {l b : Addr} {xs ys : Array Value} {n n2 : Nat} {s : Shared} (hl1 : s.heap.get? l = some { cls := .type "list", data := .seq xs n }) (hb1 : s.heap.get? b = some { cls := .type "list", data := .seq ys n2 }) (hne : xs.size ≠ ys.size) (hR : R (.ok (.ret (.bool neg))) s) :
    wpAny (model prog w) A.in1 ((if neg then Builtin.«list.__ne__» else Builtin.«list.__eq__») ⟨[.ref l, .ref b], []⟩) (FinOf prog w A R) (fun e s' => R (.error e) s') s := by
  obtain ⟨hp, g, d, tk, os⟩ := s
  have f3 := AutoSeq1.sub_list_list
  have hne : (xs.size != ys.size) = true := by simpa using hne
  cases neg with
  | false =>
    simp only [Bool.false_eq_true, if_false]
    wp_walk using wpAny_loadPart' hl1, wpAny_loadPart' hb1
    exact hR
  | true =>
    simp only [if_true]
    wp_walk using wpAny_loadPart' hl1, wpAny_loadPart' hb1
    exact hR
theorem tup2 (l b : Addr) (xs ys : Array Value) (n n2 : Nat) (dd dd2 : Option Addr) (sl sl2 : Array (Option Value)) (I : Nat → Shared → Prop)
    (turn : ∀ i (h1 : i < xs.size) (h2 : i < ys.size) s, I i s → wpAny (model prog w) A.in1 (eqBool xs[i] ys[i]) (fun r s' => (r = true ∧ I (i + 1) s') ∨ (r = false ∧ R (.ok (.ret (.bool neg))) s')) (fun e s' => R (.error e) s') s)
    (fin : ∀ s, I (min xs.size ys.size) s → R (.ok (.ret (.bool (neg != decide (xs.size = ys.size))))) s) {s : Shared} (hl1 : s.heap.get? l = some { cls := .type "tuple", dict := dd, data := .seq xs n, slots := sl }) (hb1 : s.heap.get? b = some { cls := .type "tuple", dict := dd2, data := .seq ys n2, slots := sl2 }) (h : I 0 s) :
    wpAny (model prog w) A.in1 ((if neg then Builtin.«tuple.__ne__» else Builtin.«tuple.__eq__») ⟨[.ref l, .ref b], []⟩) (FinOf prog w A R) (fun e s' => R (.error e) s') s := by
  have f2 := AutoSeq1.sub_tuple_tuple
  have hZ : (xs.toList.zip ys.toList).length = min xs.size ys.size := by simp
  have h0 := h
  obtain ⟨hp, g, d, tk, os⟩ := s
  have step : ∀ {y x : Value} {rest : List (Value × Value)} {i : Nat}, (y, x) :: rest = (xs.toList.zip ys.toList).drop i → ∃ (h1 : i < xs.size) (h2 : i < ys.size), y = xs[i] ∧ x = ys[i] ∧ rest = (xs.toList.zip ys.toList).drop (i + 1) := fun {y x rest i} hz => by
    have hlt : i < (xs.toList.zip ys.toList).length := by
      rcases Nat.lt_or_ge i (xs.toList.zip ys.toList).length with h' | h'
      · exact h'
      · rw [List.drop_of_length_le h'] at hz; cases hz
    have hlt' := hlt
    rw [hZ] at hlt'
    rw [List.drop_eq_getElem_cons hlt] at hz
    injection hz with e1 e2
    refine ⟨by omega, by omega, ?_, ?_, e2⟩
    · have := congrArg Prod.fst e1; simpa using this
    · have := congrArg Prod.snd e1; simpa using this
  have ends : ∀ {i : Nat}, [] = (xs.toList.zip ys.toList).drop i → i ≤ min xs.size ys.size → i = min xs.size ys.size := fun {i} hz hi => by
    rcases Nat.lt_or_ge i (xs.toList.zip ys.toList).length with h' | h'
    · rw [List.drop_eq_getElem_cons h'] at hz; cases hz
    · rw [hZ] at h'; omega
  cases neg with
  | false =>
    simp only [Bool.false_eq_true, if_false]
    wp_walk using wpAny_loadPart' hl1, wpAny_loadPart' hb1, wpAny_forIn_list _ (fun rest b s' => (b.1 = none ∧ ∃ i, rest = (xs.toList.zip ys.toList).drop i ∧ i ≤ min xs.size ys.size ∧ I i s')) _
    case turn =>
      rintro ⟨y, x⟩ rest b s' ⟨hb', i, hz, hi, hI⟩
      obtain ⟨h1, h2, rfl, rfl, hr⟩ := step hz
      refine wpAny_bind (wpAny_mono (turn i h1 h2 s' hI) (fun r s2 q2 => ?_) fun _ _ x => x)
      rcases q2 with ⟨rfl, q2⟩ | ⟨rfl, q2⟩
      · wp_walk
        exact ⟨rfl, i + 1, hr, by omega, q2⟩
      · wp_walk
        exact q2
    case fin =>
      rintro ⟨b1, b2⟩ s' ⟨hb', i, hz, hi, hI⟩
      simp only at hb'
      subst hb'
      have hR := fin s' (ends hz hi ▸ hI)
      wp_walk
      have e : (xs.size == ys.size) = decide (xs.size = ys.size) := by by_cases q : xs.size = ys.size <;> simp [q]
      show R (.ok (.ret (.bool (xs.size == ys.size)))) s'
      rw [e]; simpa using hR
    case h => exact ⟨rfl, 0, rfl, Nat.zero_le _, h0⟩
  | true =>
    simp only [if_true]
    wp_walk using wpAny_loadPart' hl1, wpAny_loadPart' hb1, wpAny_forIn_list _ (fun rest b s' => (b.1 = none ∧ ∃ i, rest = (xs.toList.zip ys.toList).drop i ∧ i ≤ min xs.size ys.size ∧ I i s')) _
    case turn =>
      rintro ⟨y, x⟩ rest b s' ⟨hb', i, hz, hi, hI⟩
      obtain ⟨h1, h2, rfl, rfl, hr⟩ := step hz
      refine wpAny_bind (wpAny_mono (turn i h1 h2 s' hI) (fun r s2 q2 => ?_) fun _ _ x => x)
      rcases q2 with ⟨rfl, q2⟩ | ⟨rfl, q2⟩
      · wp_walk
        exact ⟨rfl, i + 1, hr, by omega, q2⟩
      · wp_walk
        exact q2
    case fin =>
      rintro ⟨b1, b2⟩ s' ⟨hb', i, hz, hi, hI⟩
      simp only at hb'
      subst hb'
      have hR := fin s' (ends hz hi ▸ hI)
      wp_walk
      have e : (xs.size != ys.size) = !decide (xs.size = ys.size) := by by_cases q : xs.size = ys.size <;> simp [q]
      show R (.ok (.ret (.bool (xs.size != ys.size)))) s'
      rw [e]; simpa using hR
    case h => exact ⟨rfl, 0, rfl, Nat.zero_le _, h0⟩
end
end PyQ

namespace PyD
open PySem PySem.Spec PyProof.Rows L2

/-! ### == where own classes have an own == -/
def callB (f : Fn) (x y : D) : Option Bool := match f [.v x, .v y] with
  | .ret (.val (.bl b)) [] => some b
  | _ => none
def flatE : D → D → Option Bool
  | .non, .non => some true
  | .bl a, .bl b => some (a == b)
  | .bl a, .int b => some ((if a then 1 else 0) == b)
  | .int a, .bl b => some (a == (if b then 1 else 0))
  | .int a, .int b => some (a == b)
  | .str a, .str b => some (a == b)
  | .non, .bl _ => some false
  | .non, .int _ => some false
  | .non, .str _ => some false
  | .bl _, .non => some false
  | .int _, .non => some false
  | .str _, .non => some false
  | .bl _, .str _ => some false
  | .int _, .str _ => some false
  | .str _, .bl _ => some false
  | .str _, .int _ => some false
  | _, _ => none
def eqLs (e : D → D → Option Bool) : List D → List D → Option Bool
  | x :: xs, y :: ys => match e x y with
    | some true => eqLs e xs ys
    | some false => some false
    | none => none
  | _, _ => some true
/-- the value's class is known -/
def tyK (T : Tab) : D → Bool
  | .obj c _ => decide (c < T.n)
  | d => (tyN d).isSome
/-- x == y by the class of x -/
def ownT (T : Tab) (E : Nat → Option Fn) (x y : D) : Option Bool := match x with
  | .obj c _ => (match E c with
    | some f => if tyK T y = true then callB f x y else none
    | none => none)
  | _ => none
/-- two objects that are surely not one: a flat field tells them apart -/
def apartF : List (Str × D) → List (Str × D) → Bool
  | (k, d) :: r, (k', d') :: r' => (decide (k = k') && (flatE d d' == some false)) || apartF r r'
  | _, _ => false
def apart : D → D → Bool
  | .obj _ fs, .obj _ gs => apartF fs gs
  | .obj _ _, .non => true
  | .obj _ _, .int _ => true
  | .obj _ _, .str _ => true
  | .obj _ _, .bl _ => true
  | _, _ => false
def sureE (x y : D) : Option Bool → Option Bool
  | some true => some true
  | some false => if apart x y = true then some false else none
  | none => none
def seqE (e : D → D → Option Bool) : D → D → Option Bool
  | .lst xs, .lst ys => if xs.length = ys.length then eqLs e xs ys else some false
  | .tup xs, .tup ys => (eqLs e xs ys).map fun b => b && decide (xs.length = ys.length)
  | _, _ => none
def orE (e e' : D → D → Option Bool) : D → D → Option Bool := fun x y => match e x y with
  | some b => some b
  | none => e' x y
/-- items of a list or tuple -/
def itemE (T : Tab) (E : Nat → Option Fn) : D → D → Option Bool := orE flatE (fun x y => sureE x y (ownT T E x y))
def eqO (T : Tab) (E : Nat → Option Fn) : D → D → Option Bool := orE (seqE (itemE T E)) (ownT T E)
theorem flatE_ok {G : Gx} {F : Hp} {x y : V} {dx dy : D} {b : Bool} (hx : Dp G F x dx) (hy : Dp G F y dy) (h : flatE dx dy = some b) : flatV x = true ∧ flatV y = true ∧ eqV x y = b := by
  unfold flatE at h
  split at h <;> first
    | (cases h; cases hx; cases hy; exact ⟨rfl, rfl, rfl⟩)
    | cases h
/-- what is known of an own == -/
structure EqFact (P : Program) (w : World) (K : PySem.W.Frag) (mg : Str → Option Value) (base : Heap) (G : Gx) (c k : Nat) (f : Fn) : Prop where
  ex : ∃ g fd ps, PySem.W.findIn K (.ref (G.cl c)) "__eq__" = some (some (.ref g)) ∧ PySem.W.isFn K (.ref g) = true ∧ Binds K fd ps [] ∧ FnOkG P w K mg base k g fd ps (spF G 2 f)
  ne : PySem.W.findIn K (.ref (G.cl c)) "__ne__" = some (some (.builtin "object.__ne__"))
  mo : PySem.W.mroIn K (G.cl c) (.type "object") = some true
  nfB : ∀ t ∈ baseT, PySem.W.notFirst K (G.cl c) (.type t) = true
def EqTab (P : Program) (w : World) (K : PySem.W.Frag) (mg : Str → Option Value) (base : Heap) (G : Gx) (T : Tab) (k : Nat) (E : Nat → Option Fn) : Prop :=
  ∀ c f, E c = some f → c < T.n ∧ EqFact P w K mg base G c k f ∧ ∀ c', c' < T.n → PySem.W.notFirst K (G.cl c) (.ref (G.cl c')) = true
theorem Alc.trans {F H F1 H1 F2 H2 : Hp} (a : Alc F H F1 H1) (b : Alc F1 H1 F2 H2) : Alc F H F2 H2 :=
  ⟨a.subF.trans b.subF, a.subH.trans b.subH, b.fh, fun c o h f => b.frn c o (a.subH c o h) (a.frn c o h f)⟩
section
variable {X : Cx} {G : Gx} {T : Tab} {E : Nat → Option Fn} {k : Nat}
def EqS (X : Cx) (G : Gx) (n : Nat) (e : D → D → Option Bool) : Prop := ∀ (A : Around) (pins : List (Addr × Obj)) (s : Shared) (σ : St) (F H : Hp) (x y : V) (u v : Value) (dx dy : D) (b : Bool), SubG X n A → Inv X pins σ H s → RelV x u → RelV y v → Same F H → Dp G F x dx → Dp G F y dy → e dx dy = some b →
  wpAny (model X.prog X.w) A (eqBool u v) (fun r s' => r = b ∧ ∃ F' H', Inv X pins σ H' s' ∧ Alc F H F' H') X.xe s
def RcS (X : Cx) (G : Gx) (n : Nat) (neg : Bool) (e : D → D → Option Bool) : Prop := ∀ (A : Around) (pins : List (Addr × Obj)) (s : Shared) (σ : St) (F H : Hp) (x y : V) (u v : Value) (dx dy : D) (b : Bool), SubG X n A → Inv X pins σ H s → RelV x u → RelV y v → Same F H → Dp G F x dx → Dp G F y dy → e dx dy = some b →
  wpAny (model X.prog X.w) A (richCompare (if neg then .NotEq else .Eq) u v) (fun r s' => r = .bool (neg != b) ∧ ∃ F' H', Inv X pins σ H' s' ∧ Alc F H F' H') X.xe s
/-- the own == is called -/
theorem own_call {c : Nat} {f : Fn} {g : Addr} {fd : FuncData} {ps : List Str} {A : Around} {pins : List (Addr × Obj)} {s : Shared} {σ : St} {F H : Hp} {x y : V} {u v : Value} {dx dy : D} {b : Bool} (Fo : FnOkG X.prog X.w X.K X.mg X.base k g fd ps (spF G 2 f)) (hb : Binds X.K fd ps [])
    (sb : SubG X k A) (I : Inv X pins σ H s) (rx : RelV x u) (ry : RelV y v) (eS : Same F H) (hx : Dp G F x dx) (hy : Dp G F y dy) (hc : callB f dx dy = some b) :
    wpAny (model X.prog X.w) A (call (.ref g) [u, v]) (fun r s' => r = .bool b ∧ ∃ F' H', Inv X pins σ H' s' ∧ Alc F H F' H') X.xe s := by
  have hsp : spF G 2 f [x, y] H (fun z H' => z = .bl b ∧ ∃ F', Alc F H F' H') (fun _ _ _ => False) := by
    refine ⟨rfl, F, [.v dx, .v dy], [], fun a => (∃ o, H a = some o) ∧ F a = none, eS, .v hx (.v hy .nil), (fun a h => by cases h), (fun a h => ⟨h.2, h.1⟩), ?_⟩
    unfold callB at hc
    split at hc
    · rename_i b' e
      cases hc
      rw [e]
      intro z F' H' L' C O fo q
      cases q
      refine ⟨rfl, F', C.subF, fun a o q => ?_, C.fh, fun a o q n => C.frn a ⟨⟨o, q⟩, n⟩⟩
      cases n : F a with
      | none => rw [C.keep a ⟨⟨o, q⟩, n⟩]; exact q
      | some o' =>
        have := eS a o' n
        rw [q] at this; cases this
        exact C.fh a o (C.subF a o n)
    · cases hc
  have e0 : Env0 X.prog X.w X.K X.mg X.base A X.stack s H := by
    have e := I.env0
    exact ⟨by rw [sb.fr]; exact e.frames, e.mod, e.bs, e.bsz, e.funs, e.frf, e.hok, e.bare⟩
  have hl := Fo.len _ _ _ _ hsp
  have bt := hb s [u, v] I.kIn (by rw [List.append_nil]; exact hl)
  rw [List.append_nil] at bt
  refine wpAny_call (codeAny_mono (Fo.run A X.stack s H ⟨[u, v], []⟩ [u, v] [x, y] _ _ sb.room e0 bt (.cons rx (.cons ry .nil)) hsp) fun r s' hq => ?_)
  cases r with
  | error e =>
    obtain ⟨_, _, _, _, _, _, _, _, _, _, _, _, z⟩ := hq
    exact z.elim
  | ok fl => cases fl with
    | ret w =>
      obtain ⟨z, H', I', rz, ez, F', al⟩ := I.after hq
      subst ez
      cases rz
      exact ⟨rfl, F', H', I', al⟩
    | _ => exact (show False from hq).elim
/-- the class of any value that is known -/
theorem ty_of {pins : List (Addr × Obj)} {s : Shared} {σ : St} {F H : Hp} {y : V} {v : Value} {dy : D} (O : TabOk G T) (hK : X.K = G.K) (I : Inv X pins σ H s) (ry : RelV y v) (eS : Same F H) (hy : Dp G F y dy) (ht : tyK T dy = true) :
    ∃ t, (t ∈ baseT.map Value.type ∨ ∃ c', c' < T.n ∧ t = .ref (G.cl c')) ∧ PySem.W.Looks (model X.prog X.w) s.heap (typeOf v) t := by
  have key : ∀ {t : Value}, TyX X.K H y t → PySem.W.Looks (model X.prog X.w) s.heap (typeOf v) t := fun {t} ty => by
    obtain ⟨P, Z, p, _⟩ := kit_of I ry ty
    exact Z.ty _ _ I.kIn p
  cases dy with
  | obj c fs =>
    have hc : c < T.n := by simpa [tyK] using ht
    refine ⟨_, .inr ⟨c, hc, rfl⟩, key ?_⟩
    obtain ⟨a, dx, vs, rfl, h1, _⟩ := (View.of hy : View G F H y _).obj eS
    rw [hK]
    exact .base (.ins h1 (O.cls c hc) (O.ha c hc) (O.hn (by omega)) (O.htk (by omega)) (O.hm c hc))
  | _ =>
    simp only [tyK] at ht
    obtain ⟨t, et⟩ := Option.isSome_iff_exists.mp ht
    exact ⟨.type t, .inl (List.mem_map.mpr ⟨t, tyN_base et, rfl⟩), key (by rw [hK]; exact tyN_ok eS (.of hy) et)⟩
end
end PyD

namespace PyQ
open PySem PySem.W PySem.Calls PyProof.Rows
section
variable {prog : Program} {w : World} {A : Around} {E : Value → Shared → Prop} {s : Shared} {K : Frag} {x C f : Addr} {ox : Obj} {od : Option Obj} {b tb : Value}
/-- x != b by the own == of x's class -/
theorem ne_own {Q : Value → Shared → Prop} (hu : A.units + 1 < cLine) (X : K.In s.heap) (I : InstAt s.heap x ox C od) (hb : Looks (model prog w) s.heap (typeOf b) tb) (hn : notFirst K C tb = true) (hne : findIn K (.ref C) "__ne__" = some (some (.builtin "object.__ne__"))) (mo : mroIn K C (.type "object") = some true)
    (hs : findIn K (.ref C) "__eq__" = some (some (.ref f))) (hf : isFn K (.ref f) = true)
    (h : wpAny (model prog w) A.in1 (call (.ref f) [.ref x, b]) (fun v s' => ∃ r, v = .bool r ∧ Q (.bool (!r)) s') E s) : wpAny (model prog w) A (richCompare .NotEq (.ref x) b) Q E s := by
  have sub : Looks (model prog w) s.heap (isInstance (.ref x) (.type "object")) true := I.type.andThen (looks_mroIn X mo)
  have body : wpAny (model prog w) A.in1 (Builtin.«object.__ne__» ⟨[.ref x, b], []⟩) (GQ.FinOf prog w A (fun r s' => match r with | .ok (.ret v) => (v ≠ .notImplemented ∧ Q v s') | .ok _ => False | .error e => E e s')) (fun e s' => E e s') s := by
    unfold Builtin.«object.__ne__»
    refine wpAny_bind (wpAny_of_eq (a := ((Value.ref x : Value), [b])) (by first | rfl | (simp only [slotArgs]; rfl)) ?_)
    refine wpAny_bind (wpAny_cRoomFor (by show A.units + 1 < cLine; exact hu) ?_)
    refine wpAny_bind (ifBound_K X I hs hf (wpAny_mono h (fun v s' hv => ?_) fun _ _ e => e))
    obtain ⟨r, rfl, q⟩ := hv
    refine wpAny_bind (wpAny_truthy_bool (wpAny_pure ?_))
    exact ⟨(fun z => nomatch z), q⟩
  have cal : wpAny (model prog w) A (call (.builtin "object.__ne__") [.ref x, b]) (fun v s' => v ≠ .notImplemented ∧ Q v s') E s := by
    refine wpAny_call (codeAny_mono (codeAny_call_builtin (R := fun r s' => match r with | .ok (.ret v) => (v ≠ .notImplemented ∧ Q v s') | .ok _ => False | .error e => E e s') F.cmp_object.ne.plain F.cmpEntry_ne (@check_slot (model prog w) _ _ s "object.__ne__" "object" "__ne__" (.ref x) [b] [] _ F.cmpKind_ne F.cmpSplit_ne sub (F.cmpArgs_ne _ _) body)) fun r s' z => ?_)
    rcases r with e | (v | _ | _ | _) <;> exact z
  have bnd : wpAny (model prog w) A (callSpecialIfBound? (.ref x) "__ne__" [b]) (fun r s' => ∃ v, r = some v ∧ v ≠ .notImplemented ∧ Q v s') E s := by
    simp only [callSpecialIfBound?, bindSpecialIfBound?]
    refine wpAny_holding (wpAny_bind (wpAny_bind (wpAny_bind (I.type.here ((looks_findIn X hne).here ?_)))))
    have fin : wpAny (model prog w) A (call (.builtin "object.__ne__") ([.ref x] ++ [b]) >>= fun v => pure (some v)) (fun r s' => ∃ v, r = some v ∧ v ≠ .notImplemented ∧ Q v s') E s :=
      wpAny_bind (wpAny_mono cal (fun v s' z => wpAny_pure ⟨v, rfl, z⟩) fun _ _ z => z)
    simp only [F.cmp_object.ne.bind]
    refine wpAny_bind (wpAny_askSetting (wpAny_ite ?_))
    split
    · exact wpAny_bind (wpAny_pure (wpAny_pure fin))
    · exact wpAny_tryCatch (wpAny_bind (wpAny_pure (wpAny_pure fin)))
  have one : wpAny (model prog w) A (tryCompare (.ref x) (cmpInfo .NotEq).2.1 b) (fun r s' => ∃ v, r = some v ∧ Q v s') E s := by
    unfold tryCompare
    refine wpAny_bind (wpAny_mono bnd (fun r s' z => ?_) fun _ _ z => z)
    obtain ⟨v, rfl, z1, z2⟩ := z
    cases v <;> first | exact absurd rfl z1 | exact wpAny_pure ⟨_, rfl, z2⟩
  unfold richCompare
  simp only [oneThing_ref]
  refine wpAny_holding (wpAny_bind (wpAny_cRoomFor (by omega) ?_))
  refine wpAny_bind (I.type.here (wpAny_bind (hb.here ?_)))
  split
  · rename_i q
    have e : subIn K tb (.ref C) = some false := by
      rcases Bool.or_eq_true_iff.mp hn with e | e
      · rw [beq_iff_eq.mp e] at q; simp at q
      · exact beq_iff_eq.mp e
    refine wpAny_bind ((looks_subIn X e).here ?_)
    simp only [Bool.false_eq_true, if_false]
    refine wpAny_bind (wpAny_mono one (fun r s' z => ?_) fun _ _ e => e)
    obtain ⟨v, rfl, hq⟩ := z
    exact wpAny_pure hq
  · refine wpAny_bind (wpAny_pure ?_)
    simp only [Bool.false_eq_true, if_false]
    refine wpAny_bind (wpAny_mono one (fun r s' z => ?_) fun _ _ e => e)
    obtain ⟨v, rfl, hq⟩ := z
    exact wpAny_pure hq
end
end PyQ

namespace PyD
open PySem PySem.Spec PyProof.Rows L2

theorem apartF_ok {G : Gx} {F : Hp} : ∀ {fs : List (Str × V)} {ds es : List (Str × D)}, DpF G F fs ds → DpF G F fs es → apartF ds es = true → False
  | _, _, _, .nil, .nil, h => by simp [apartF] at h
  | _, _, _, .cons (d := d) h t, .cons (d := d') h' t', q => by
    simp only [apartF, Bool.or_eq_true, Bool.and_eq_true, decide_eq_true_eq, beq_iff_eq] at q
    rcases q with ⟨_, q⟩ | q
    · obtain ⟨f1, f2, e⟩ := flatE_ok h h' q
      have : ∀ v : V, flatV v = true → eqV v v = true := fun v hv => by cases v <;> first | (cases hv; done) | simp [eqV]
      rw [this _ f1] at e; cases e
    · exact apartF_ok t t' q
theorem apart_ok {G : Gx} {F : Hp} {v : V} {x y : D} (hx : Dp G F v x) (hy : Dp G F v y) (h : apart x y = true) : False := by
  unfold apart at h
  split at h
  · cases hx with
    | obj h1 t1 => cases hy with
      | obj h2 t2 =>
        rw [h1] at h2
        injection h2 with h2; injection h2 with _ _ h2
        subst h2
        exact apartF_ok t1 t2 h
  · cases hx; cases hy
  · cases hx; cases hy
  · cases hx; cases hy
  · cases hx; cases hy
  · cases h
section
variable {X : Cx} {G : Gx} {T : Tab} {E : Nat → Option Fn} {k : Nat}
theorem EqTab.mono {P : Program} {w : World} {K : PySem.W.Frag} {mg : Str → Option Value} {base : Heap} (h : EqTab P w K mg base G T k E) : True := trivial
/-- u == v by u's own == -/
theorem rc_ownS {neg : Bool} (O : TabOk G T) (hK : X.K = G.K) (hE : EqTab X.prog X.w X.K X.mg X.base G T k E) : RcS X G (k + 1) neg (ownT T E) := by
  intro A pins s σ F H x y u v dx dy b sb I rx ry eS hx hy he
  unfold ownT at he
  split at he
  · rename_i c fs
    split at he
    · rename_i f ef
      split at he
      · rename_i ht
        obtain ⟨hc, Fo, nf⟩ := hE c f ef
        obtain ⟨g, fd, ps, e1, e2, hb, F1⟩ := Fo.ex
        obtain ⟨t, tk, lk⟩ := ty_of (X := X) O hK I ry eS hy ht
        have hn : PySem.W.notFirst X.K (G.cl c) t = true := by
          rcases tk with tk | ⟨c', hc', rfl⟩
          · obtain ⟨t', ht', rfl⟩ := List.mem_map.mp tk
            exact Fo.nfB t' ht'
          · exact nf c' hc'
        obtain ⟨a, dx', vs, rfl, h1, _⟩ := (View.of hx : View G F H x _).obj eS
        cases rx
        obtain ⟨mA, J, _⟩ := ins_get I.hok h1
        obtain ⟨od, J, _⟩ := J.look
        obtain ⟨m, fr⟩ := I.fr
        cases neg with
        | false =>
          refine PySem.W.cmp_K (op := .Eq) sb.room.units0 fr I.ok.mod.kin J lk hn e1 e2 ?_
          refine wpAny_mono (own_call (c := c) (X := X) (G := G) F1 hb (sb.mono (Nat.le_succ k)) I (x := .ref a) (u := .ref a) rfl ry eS hx hy he) (fun r s' q => ?_) fun _ _ z => z
          obtain ⟨rfl, q⟩ := q
          exact ⟨by simp, q⟩
        | true =>
          refine PyQ.ne_own (by have := sb.room.un; omega) I.kIn J lk hn Fo.ne Fo.mo e1 e2 ?_
          refine wpAny_mono (own_call (c := c) (X := X) (G := G) F1 hb sb.in1 I (x := .ref a) (u := .ref a) rfl ry eS hx hy he) (fun r s' q => ?_) fun _ _ z => z
          obtain ⟨rfl, q⟩ := q
          exact ⟨b, rfl, by simp, q⟩
      · cases he
    · cases he
  · cases he
theorem eq_itemS (O : TabOk G T) (hK : X.K = G.K) (hE : EqTab X.prog X.w X.K X.mg X.base G T k E) : EqS X G (k + 1) (itemE T E) := by
  intro A pins s σ F H x y u v dx dy b sb I rx ry eS hx hy he
  unfold itemE orE at he
  split at he
  · rename_i b' e
    cases he
    obtain ⟨f1, f2, e3⟩ := flatE_ok hx hy e
    have q := eqAt_V (A := A) (s := s) rx ry f1 f2
    rw [e3] at q
    exact q X.prog X.w X.xe _ ⟨rfl, F, H, I, .refl eS⟩
  · have he : sureE dx dy (ownT T E dx dy) = some b := he
    cases eo : ownT T E dx dy with
    | none => rw [eo] at he; cases he
    | some b' =>
      rw [eo] at he
      have hb' : b' = b ∧ (b' = false → apart dx dy = true) := by
        cases b' with
        | true => simp only [sureE, Option.some.injEq] at he; exact ⟨he, fun z => by cases z⟩
        | false =>
          simp only [sureE] at he
          split at he
          · rename_i w; cases he; exact ⟨rfl, fun _ => w⟩
          · cases he
      obtain ⟨rfl, hap⟩ := hb'
      have rc := rc_ownS (neg := false) O hK hE A pins s σ F H x y u v dx dy b' sb I rx ry eS hx hy eo
      have hxr : ∃ a, x = .ref a := by
        unfold ownT at eo
        split at eo
        · obtain ⟨a, dx', vs, rfl, h1, _⟩ := (View.of hx : View G F H x _).obj eS; exact ⟨a, rfl⟩
        · cases eo
      obtain ⟨a, rfl⟩ := hxr
      cases rx
      by_cases hv : Value.ref a = v
      · subst hv
        have : y = .ref a := by
          cases y with
          | ref b => cases ry; rfl
          | non => cases ry
          | bl b => cases ry
          | int i => obtain ⟨t, e⟩ := ry; cases e
          | str i => obtain ⟨t, e⟩ := ry; cases e
          | _ => first | (cases ry; done) | (obtain ⟨t, e⟩ := ry; cases e)
        subst this
        cases b' with
        | false => exact (apart_ok hx hy (hap rfl)).elim
        | true => exact SeqAt.EqAt.same (A := A) (s := s) (.ref a) X.prog X.w X.xe _ ⟨rfl, F, H, I, .refl eS⟩
      · unfold eqBool
        refine wpAny_holding ?_
        refine wpAny_ite_split (fun hab => absurd (eq_of_beq hab) hv) (fun _ => ?_)
        refine wpAny_bind (wpAny_mono rc (fun r s' q => ?_) fun _ _ z => z)
        obtain ⟨rfl, q⟩ := q
        refine wpAny_truthy_bool ⟨by simp, q⟩
end
end PyD

namespace PyD
open PySem PySem.Spec PyProof.Rows L2

section
variable {X : Cx} {G : Gx} {k : Nat}
/-- between two items -/
def LpI (X : Cx) (G : Gx) (pins : List (Addr × Obj)) (σ : St) (F H : Hp) (s' : Shared) : Prop := ∃ F' H', Inv X pins σ H' s' ∧ Alc F H F' H'
theorem eqLs_step {e : D → D → Option Bool} {xs ys : List D} {i : Nat} {b : Bool} {x y : D} (hx : xs[i]? = some x) (hy : ys[i]? = some y) (h : eqLs e (xs.drop i) (ys.drop i) = some b) :
    ∃ r, e x y = some r ∧ (r = true → eqLs e (xs.drop (i + 1)) (ys.drop (i + 1)) = some b) ∧ (r = false → b = false) := by
  have hl := lt_of_get hx
  have hl2 := lt_of_get hy
  rw [List.drop_eq_getElem_cons hl, List.drop_eq_getElem_cons hl2] at h
  rw [List.getElem?_eq_getElem hl] at hx
  rw [List.getElem?_eq_getElem hl2] at hy
  cases hx; cases hy
  simp only [eqLs] at h
  split at h
  · rename_i q; exact ⟨true, q, fun _ => h, (fun z => by cases z)⟩
  · rename_i q; cases h; exact ⟨false, q, (fun z => by cases z), fun _ => rfl⟩
  · cases h
theorem eqLs_end {e : D → D → Option Bool} {xs ys : List D} {b : Bool} (h : eqLs e xs ys = some b) (z : xs = [] ∨ ys = []) : b = true := by
  rcases z with rfl | rfl
  · simp only [eqLs, Option.some.injEq] at h; exact h.symm
  · cases xs <;> simp only [eqLs, Option.some.injEq] at h <;> exact h.symm
/-- one item -/
theorem item_turn {e : D → D → Option Bool} (he : EqS X G k e) {A : Around} (sb : SubG X (k + 1) A) {pins : List (Addr × Obj)} {σ : St} {F H : Hp} {vs ws : List V} {ds es : List D} {its its2 : List Value} (t : DpL G F vs ds) (t2 : DpL G F ws es) (r : Vals vs its) (r2 : Vals ws its2) {b : Bool}
    (i : Nat) (h1 : i < its.toArray.size) (h2 : i < its2.toArray.size) (s' : Shared) (l : LpI X G pins σ F H s') (q : eqLs e (ds.drop i) (es.drop i) = some b) :
    wpAny (model X.prog X.w) A.in1 (eqBool its.toArray[i] its2.toArray[i]) (fun r s2 => LpI X G pins σ F H s2 ∧ ((r = true ∧ eqLs e (ds.drop (i + 1)) (es.drop (i + 1)) = some b) ∨ (r = false ∧ b = false))) X.xe s' := by
  obtain ⟨F1, H1, I1, al⟩ := l
  have g1 : its[i]? = some its.toArray[i] := by
    have h1' : i < its.length := by simpa using h1
    rw [List.getElem?_eq_getElem h1'] <;> simp
  have g2 : its2[i]? = some its2.toArray[i] := by
    have h2' : i < its2.length := by simpa using h2
    rw [List.getElem?_eq_getElem h2'] <;> simp
  have k1 : i < vs.length := by rw [r.length]; simpa using h1
  have k2 : i < ws.length := by rw [r2.length]; simpa using h2
  obtain ⟨u, hu, ru⟩ := r.get (List.getElem?_eq_getElem k1)
  obtain ⟨v, hv, rv⟩ := r2.get (List.getElem?_eq_getElem k2)
  rw [g1] at hu
  rw [g2] at hv
  rw [Option.some.inj hu, Option.some.inj hv]
  obtain ⟨d, hd, dp⟩ := t.getV (List.getElem?_eq_getElem k1)
  obtain ⟨d2, hd2, dp2⟩ := t2.getV (List.getElem?_eq_getElem k2)
  obtain ⟨b1, e1, e2, e3⟩ := eqLs_step hd hd2 q
  refine wpAny_mono (he A.in1 pins s' σ F1 H1 _ _ u v d d2 b1 sb.in1 I1 ru rv al.fh (dp.mono al.subF) (dp2.mono al.subF) e1) (fun r s2 z => ?_) fun _ _ x => x
  obtain ⟨rfl, F2, H2, I2, al2⟩ := z
  refine ⟨⟨F2, H2, I2, al.trans al2⟩, ?_⟩
  cases r with
  | true => exact .inl ⟨rfl, e2 rfl⟩
  | false => exact .inr ⟨rfl, e3 rfl⟩
theorem rc_seqS {neg : Bool} {e : D → D → Option Bool} (hK : X.K = G.K) (he : EqS X G k e) : RcS X G (k + 1) neg (seqE e) := by
  intro A pins s σ F H x y u v dx dy b sb I rx ry eS hx hy q
  unfold seqE at q
  split at q
  · rename_i xs ys
    cases hx with
    | @lst a vs _ ha t => cases hy with
      | @lst a2 ws _ hb t2 =>
        cases rx; cases ry
        have lists : ∀ {s' : Shared} {F' H' : Hp}, Inv X pins σ H' s' → Alc F H F' H' → ∃ its its2 n n2, Vals vs its ∧ Vals ws its2 ∧ s'.heap.get? a = some { cls := .type "list", data := .seq its.toArray n } ∧ s'.heap.get? a2 = some { cls := .type "list", data := .seq its2.toArray n2 } := fun {s' F' H'} I1 al => by
          obtain ⟨z, its, n, r, e1⟩ := I1.hok a _ (al.subH _ _ (eS _ _ ha))
          obtain ⟨z2, its2, n2, r2, e2⟩ := I1.hok a2 _ (al.subH _ _ (eS _ _ hb))
          exact ⟨its, its2, n, n2, r, r2, e1, e2⟩
        obtain ⟨its, its2, n, n2, r, r2, e1, e2⟩ := lists I (Alc.refl eS)
        have fin : wpAny (model X.prog X.w) A.in1 ((if neg then Builtin.«list.__ne__» else Builtin.«list.__eq__») ⟨[.ref a, .ref a2], []⟩) (GQ.FinOf X.prog X.w A (wants (fun v s' => v ≠ .notImplemented ∧ (v = .bool (neg != b) ∧ ∃ F' H', Inv X pins σ H' s' ∧ Alc F H F' H')) X.xe)) (fun e s' => wants (fun v s' => v ≠ .notImplemented ∧ (v = .bool (neg != b) ∧ ∃ F' H', Inv X pins σ H' s' ∧ Alc F H F' H')) X.xe (.error e) s') s := by
          split at q
          · rename_i hl
            refine PyQ.list2 (R := wants (fun v s' => v ≠ .notImplemented ∧ (v = .bool (neg != b) ∧ ∃ F' H', Inv X pins σ H' s' ∧ Alc F H F' H')) X.xe) a a2 vs.length (fun i s' => LpI X G pins σ F H s' ∧ eqLs e (xs.drop i) (ys.drop i) = some b) (fun s' => LpI X G pins σ F H s' ∧ b = false) (fun i s' ⟨l, qi⟩ => ?_) (fun s' ⟨l, qb⟩ => ?_) (fun s' ⟨l, qi⟩ => ?_) ⟨⟨F, H, I, .refl eS⟩, by simpa using q⟩
            · obtain ⟨F1, H1, I1, al⟩ := id l
              obtain ⟨its, its2, n, n2, r, r2, e1, e2⟩ := lists I1 al
              refine ⟨its.toArray, its2.toArray, n, n2, e1, e2, by rw [List.size_toArray, ← r.length], by rw [List.size_toArray, ← r2.length, t.length, t2.length, hl], fun h1 h2 => ?_⟩
              refine wpAny_mono (item_turn he sb t t2 r r2 i h1 h2 s' l qi) (fun r s2 z => ?_) fun _ _ x => x
              rcases z with ⟨l2, ⟨z1, z2⟩ | ⟨z1, z2⟩⟩
              · exact .inl ⟨z1, l2, z2⟩
              · exact .inr ⟨z1, l2, z2⟩
            · obtain ⟨F1, H1, I1, al⟩ := l
              obtain ⟨its, its2, n, n2, r, r2, e1, e2⟩ := lists I1 al
              exact ⟨⟨its.toArray, its2.toArray, n, n2, e1, e2, by rw [List.size_toArray, ← r.length], by rw [List.size_toArray, ← r2.length, t.length, t2.length, hl]⟩, (fun z => nomatch z), by rw [qb]; simp, F1, H1, I1, al⟩
            · have hb1 := eqLs_end qi (.inl (by rw [t.length]; simp))
              refine ⟨(fun z => nomatch z), by rw [hb1]; simp, l⟩
          · rename_i hl
            cases q
            refine PyQ.listLen (R := wants (fun v s' => v ≠ .notImplemented ∧ (v = .bool (neg != false) ∧ ∃ F' H', Inv X pins σ H' s' ∧ Alc F H F' H')) X.xe) e1 e2 (by rw [List.size_toArray, List.size_toArray, ← r.length, ← r2.length, t.length, t2.length]; exact hl) ⟨(fun z => nomatch z), by simp, F, H, I, .refl eS⟩
        cases neg with
        | false => exact wpAny_richCompare_same_room (op := .Eq) ⟨_, e1, rfl⟩ ⟨_, e2, rfl⟩ PySem.F.slot_list_eq (GQ.call_here PySem.F.slot_list_eq ⟨_, e1, rfl⟩ PySem.F.entry_list_eq (PySem.F.args_list_eq_2 _ _) fin) sb.room.units0
        | true => exact wpAny_richCompare_same_room (op := .NotEq) ⟨_, e1, rfl⟩ ⟨_, e2, rfl⟩ PySem.F.slot_list_ne (GQ.call_here PySem.F.slot_list_ne ⟨_, e1, rfl⟩ PySem.F.entry_list_ne (PySem.F.args_list_ne_2 _ _) fin) sb.room.units0
  · rename_i xs ys
    obtain ⟨b1, q1, rfl⟩ := Option.map_eq_some_iff.mp q
    cases hx with
    | @tup a vs _ ha t => cases hy with
      | @tup a2 ws _ hb t2 =>
        cases rx; cases ry
        obtain ⟨its, r, p, hz⟩ := I.tuple (hK ▸ sqT_ext ha eS)
        obtain ⟨its2, r2, p2, hz2⟩ := I.tuple (hK ▸ sqT_ext hb eS)
        obtain ⟨⟨cls, dd, data, sl⟩, ho, hc, n, hd⟩ := id (show s.heap.IsTuple a its.toArray from p)
        obtain ⟨⟨cls2, dd2, data2, sl2⟩, ho2, hc2, n2, hd2⟩ := id (show s.heap.IsTuple a2 its2.toArray from p2)
        simp only at hc hd hc2 hd2
        subst hc hd hc2 hd2
        have s1 : its.toArray.size = xs.length := by rw [List.size_toArray, ← r.length, t.length]
        have s2 : its2.toArray.size = ys.length := by rw [List.size_toArray, ← r2.length, t2.length]
        have fin : wpAny (model X.prog X.w) A.in1 ((if neg then Builtin.«tuple.__ne__» else Builtin.«tuple.__eq__») ⟨[.ref a, .ref a2], []⟩) (GQ.FinOf X.prog X.w A (wants (fun v s' => v ≠ .notImplemented ∧ (v = .bool (neg != (b1 && decide (xs.length = ys.length))) ∧ ∃ F' H', Inv X pins σ H' s' ∧ Alc F H F' H')) X.xe)) (fun e s' => wants (fun v s' => v ≠ .notImplemented ∧ (v = .bool (neg != (b1 && decide (xs.length = ys.length))) ∧ ∃ F' H', Inv X pins σ H' s' ∧ Alc F H F' H')) X.xe (.error e) s') s := by
          refine PyQ.tup2 (R := wants (fun v s' => v ≠ .notImplemented ∧ (v = .bool (neg != (b1 && decide (xs.length = ys.length))) ∧ ∃ F' H', Inv X pins σ H' s' ∧ Alc F H F' H')) X.xe) a a2 its.toArray its2.toArray n n2 dd dd2 sl sl2 (fun i s' => LpI X G pins σ F H s' ∧ eqLs e (xs.drop i) (ys.drop i) = some b1) (fun i h1 h2 s' ⟨l, qi⟩ => ?_) (fun s' ⟨l, qi⟩ => ?_) ho ho2 ⟨⟨F, H, I, .refl eS⟩, by simpa using q1⟩
          · refine wpAny_mono (item_turn he sb t t2 r r2 i h1 h2 s' l qi) (fun r s2 z => ?_) fun _ _ x => x
            rcases z with ⟨l2, ⟨z1, z2⟩ | ⟨z1, z2⟩⟩
            · exact .inl ⟨z1, l2, z2⟩
            · exact .inr ⟨z1, (fun z => nomatch z), by rw [z2]; simp, l2⟩
          · have hb1 := eqLs_end qi (by
              rw [s1, s2]
              rcases Nat.le_total xs.length ys.length with z | z
              · exact .inl (by rw [Nat.min_eq_left z]; simp)
              · exact .inr (by rw [Nat.min_eq_right z]; simp))
            refine ⟨(fun z => nomatch z), ?_, l⟩
            rw [hb1, s1, s2]; simp
        cases neg with
        | false => exact wpAny_richCompare_same_room (op := .Eq) ⟨_, ho, rfl⟩ ⟨_, ho2, rfl⟩ PySem.F.slot_tuple_eq (GQ.call_here PySem.F.slot_tuple_eq ⟨_, ho, rfl⟩ PySem.F.entry_tuple_eq (PySem.F.args_tuple_eq_2 _ _) fin) sb.room.units0
        | true => exact wpAny_richCompare_same_room (op := .NotEq) ⟨_, ho, rfl⟩ ⟨_, ho2, rfl⟩ PySem.F.slot_tuple_ne (GQ.call_here PySem.F.slot_tuple_ne ⟨_, ho, rfl⟩ PySem.F.entry_tuple_ne (PySem.F.args_tuple_ne_2 _ _) fin) sb.room.units0
  · cases q
theorem RcS.or {n : Nat} {neg : Bool} {e e' : D → D → Option Bool} (h : RcS X G n neg e) (h' : RcS X G n neg e') : RcS X G n neg (orE e e') := fun A pins s σ F H x y u v dx dy b sb I rx ry eS hx hy q => by
  unfold orE at q
  split at q
  · rename_i b' w; cases q; exact h A pins s σ F H x y u v dx dy _ sb I rx ry eS hx hy w
  · exact h' A pins s σ F H x y u v dx dy b sb I rx ry eS hx hy q
theorem RcS.mono {n m : Nat} {neg : Bool} {e : D → D → Option Bool} (h : RcS X G n neg e) (hn : n ≤ m) : RcS X G m neg e := fun A pins s σ F H x y u v dx dy b sb => h A pins s σ F H x y u v dx dy b (sb.mono hn)
theorem rc_eqO {T : Tab} {E : Nat → Option Fn} {neg : Bool} (O : TabOk G T) (hK : X.K = G.K) (hE : EqTab X.prog X.w X.K X.mg X.base G T k E) : RcS X G (k + 2) neg (eqO T E) :=
  (rc_seqS hK (eq_itemS O hK hE)).or ((rc_ownS O hK hE).mono (Nat.le_succ _))
/-! ### as operators -/
def rEqO (G : Gx) (neg : Bool) (e : D → D → Option Bool) : R2 := fun x y H Q => ∃ F dx dy b, Same F H ∧ Dp G F x dx ∧ Dp G F y dy ∧ e dx dy = some b ∧ ∀ H', Same H H' → Q (.bl (neg != b)) H'
theorem op_eqO {n : Nat} {e : D → D → Option Bool} (h : RcS X G n false e) (hr : RG n X.A) : OpR X (compareOp .Eq) (rEqO G false e) := by
  intro pins s σ H x y v u Q I rx ry ⟨F, dx, dy, b, eS, hx, hy, he, q⟩
  show wpAny (model X.prog X.w) X.A (richCompare .Eq v u) (EP X pins σ Q) X.xe s
  refine wpAny_mono (h X.A pins s σ F H x y v u dx dy b ⟨hr, rfl⟩ I rx ry eS hx hy he) (fun r s' z => ?_) fun _ _ x => x
  obtain ⟨rfl, F', H', I', al⟩ := z
  exact ⟨.bl (false != b), H', I', rfl, q H' al.subH⟩
theorem op_neO {n : Nat} {e : D → D → Option Bool} (h : RcS X G n true e) (hr : RG n X.A) : OpR X (compareOp .NotEq) (rEqO G true e) := by
  intro pins s σ H x y v u Q I rx ry ⟨F, dx, dy, b, eS, hx, hy, he, q⟩
  show wpAny (model X.prog X.w) X.A (richCompare .NotEq v u) (EP X pins σ Q) X.xe s
  refine wpAny_mono (h X.A pins s σ F H x y v u dx dy b ⟨hr, rfl⟩ I rx ry eS hx hy he) (fun r s' z => ?_) fun _ _ x => x
  obtain ⟨rfl, F', H', I', al⟩ := z
  exact ⟨.bl (true != b), H', I', rfl, q H' al.subH⟩
end
/-! a view, frozen for a while -/
theorem frzH_sub' {F H : Hp} {L : List Addr} (e : Same F H) : Same F (frzH F H L) := fun b o q => by
  by_cases h : b ∈ L
  · rw [frzH_in h]; exact e b o q
  · rw [frzH_out h]; exact q
def notO : D → Bool
  | .lstO _ => false
  | .dctO _ => false
  | .objO _ _ => false
  | .kid _ => false
  | _ => true
theorem View.frz {G : Gx} {F H : Hp} {v : V} {d : D} (e : Same F H) (h : View G F H v d) (hn : notO d = true) : ∃ L : List Addr, ∀ L' : List Addr, (∀ b ∈ L, b ∈ L') → Dp G (frzH F H L') v d := by
  rcases h with h | ⟨a, L, rfl, c⟩
  · exact ⟨[], fun L' _ => h.mono (frzH_sub' e)⟩
  · cases c with
    | flat c =>
      refine ⟨[a], fun L' sb => ?_⟩
      have ha : frzH F H L' a = H a := frzH_in (sb a (List.mem_cons_self ..))
      have es := frzH_sub' (L := L') e
      cases d with
      | lst ds => obtain ⟨vs, h, t⟩ := c; exact .lst (by rw [ha]; exact h) (t.mono es)
      | dct ds => obtain ⟨vs, h, t⟩ := c; exact .dct (by rw [ha]; exact h) (t.mono es)
      | obj c fs => obtain ⟨dx, vs, h, t⟩ := c; exact .obj (by rw [ha]; exact h) (t.mono es)
      | _ => exact c.elim
    | _ => cases hn
def eqOD (neg : Bool) (e : D → D → Option Bool) (x y : D) : Option Res := if notO x && notO y then (e x y).map fun b => .val (.bl (neg != b)) else none
theorem eqOD_ok {G : Gx} {neg : Bool} {e : D → D → Option Bool} : BinOk G (rEqO G neg e) (eqOD neg e) := by
  intro F H x y dx dy res Q eS vx vy q k
  unfold eqOD at q
  split at q
  · rename_i w
    obtain ⟨w1, w2⟩ := Bool.and_eq_true_iff.mp w
    obtain ⟨b, hb, rfl⟩ := Option.map_eq_some_iff.mp q
    obtain ⟨L1, h1⟩ := vx.frz eS w1
    obtain ⟨L2, h2⟩ := vy.frz eS w2
    exact ⟨frzH F H (L1 ++ L2), dx, dy, b, frzH_same eS, h1 (L1 ++ L2) (fun b hb => List.mem_append_left _ hb), h2 (L1 ++ L2) (fun b hb => List.mem_append_right _ hb), hb, fun H' s => k _ F H' ⟨Same.refl _, s, eS.trans s, fun _ _ _ z => z⟩ (.bl _)⟩
  · cases q
end PyD

namespace PyD
open PySem PySem.Spec PyProof.Rows L2

/-! ### special methods of own classes: in, len, <=, [] -/
structure SpFact (P : Program) (w : World) (K : PySem.W.Frag) (mg : Str → Option Value) (base : Heap) (G : Gx) (c : Nat) (m : Str) (n k : Nat) (f : Fn) : Prop where
  ex : ∃ g fd ps, PySem.W.findIn K (.ref (G.cl c)) m = some (some (.ref g)) ∧ PySem.W.isFn K (.ref g) = true ∧ PySem.W.fnIn K g = true ∧ Binds K fd ps [] ∧ FnOkG P w K mg base k g fd ps (spF G n f)
def SpTab (P : Program) (w : World) (K : PySem.W.Frag) (mg : Str → Option Value) (base : Heap) (G : Gx) (m : Str) (n k : Nat) (E : Nat → Option Fn) : Prop :=
  ∀ c f, E c = some f → SpFact P w K mg base G c m n k f
def callV (f : Fn) (xs : List D) : Option D := match f (xs.map .v) with
  | .ret (.val d) [] => some d
  | _ => none
section
variable {X : Cx} {G : Gx} {T : Tab} {E : Nat → Option Fn} {k : Nat}
theorem arel_v {F H : Hp} : ∀ {vs : List V} {ds : List D}, DpL G F vs ds → ARel G F H vs (ds.map .v) []
  | _, _, .nil => .nil
  | _, _, .cons h t => .v h (arel_v t)
/-- a call with frozen data that gives frozen data -/
theorem pure_call {f : Fn} {g : Addr} {fd : FuncData} {ps : List Str} {A : Around} {n : Nat} {pins : List (Addr × Obj)} {s : Shared} {σ : St} {F H : Hp} {vs : List V} {us : List Value} {ds : List D} {d : D} (Fo : FnOkG X.prog X.w X.K X.mg X.base k g fd ps (spF G n f)) (hb : Binds X.K fd ps [])
    (sb : SubG X k A) (I : Inv X pins σ H s) (rv : Vals vs us) (eS : Same F H) (hv : DpL G F vs ds) (hn : ds.length = n) (hc : callV f ds = some d) :
    wpAny (model X.prog X.w) A (call (.ref g) us) (fun r s' => ∃ z F' H', RelV z r ∧ Inv X pins σ H' s' ∧ Alc F H F' H' ∧ Dp G F' z d) X.xe s := by
  have hsp : spF G n f vs H (fun z H' => ∃ F', Alc F H F' H' ∧ Dp G F' z d) (fun _ _ _ => False) := by
    refine ⟨by rw [hv.length]; exact hn, F, ds.map .v, [], fun a => (∃ o, H a = some o) ∧ F a = none, eS, arel_v hv, (fun a h => by cases h), (fun a h => ⟨h.2, h.1⟩), ?_⟩
    unfold callV at hc
    split at hc
    · rename_i d' e
      cases hc
      rw [e]
      intro z F' H' L' C O fo q
      refine ⟨F', ⟨C.subF, fun a o q => ?_, C.fh, fun a o q n => C.frn a ⟨⟨o, q⟩, n⟩⟩, q⟩
      cases n : F a with
      | none => rw [C.keep a ⟨⟨o, q⟩, n⟩]; exact q
      | some o' =>
        have := eS a o' n
        rw [q] at this; cases this
        exact C.fh a o (C.subF a o n)
    · cases hc
  have e0 : Env0 X.prog X.w X.K X.mg X.base A X.stack s H := by
    have e := I.env0
    exact ⟨by rw [sb.fr]; exact e.frames, e.mod, e.bs, e.bsz, e.funs, e.frf, e.hok, e.bare⟩
  have hl := Fo.len _ _ _ _ hsp
  have bt := hb s us I.kIn (by rw [List.append_nil, ← rv.length]; exact hl)
  rw [List.append_nil] at bt
  refine wpAny_call (codeAny_mono (Fo.run A X.stack s H ⟨us, []⟩ us vs _ _ sb.room e0 bt rv hsp) fun r s' hq => ?_)
  cases r with
  | error e =>
    obtain ⟨_, _, _, _, _, _, _, _, _, _, _, _, z⟩ := hq
    exact z.elim
  | ok fl => cases fl with
    | ret w =>
      obtain ⟨z, H', I', rz, F', al, dp⟩ := I.after hq
      exact ⟨z, F', H', rz, I', al, dp⟩
    | _ => exact (show False from hq).elim
/-! x in o -/
def inO (E : Nat → Option Fn) (x y : D) : Option Bool := match y with
  | .obj c _ => (match E c with
    | some f => (match callV f [y, x] with
      | some (.bl b) => some b
      | _ => none)
    | none => none)
  | _ => none
theorem inO_step (hE : SpTab X.prog X.w X.K X.mg X.base G "__contains__" 2 k E) (hr : RG k X.A) {pins : List (Addr × Obj)} {s : Shared} {σ : St} {F H : Hp} {x y : V} {u v : Value} {dx dy : D} {b : Bool} {Q : Bool → Shared → Prop}
    (I : Inv X pins σ H s) (rx : RelV x u) (ry : RelV y v) (eS : Same F H) (hx : Dp G F x dx) (hy : Dp G F y dy) (he : inO E dx dy = some b) (q : ∀ H' s', Same H H' → Inv X pins σ H' s' → Q b s') : wpAny (model X.prog X.w) X.A (contains v u) Q X.xe s := by
  unfold inO at he
  split at he
  · rename_i c fs
    split at he
    · rename_i f ef
      split at he
      · rename_i b' ec
        cases he
        obtain ⟨g, fd, ps, e1, e2, e3, hb, Fo⟩ := (hE c f ef).ex
        obtain ⟨a, dx', vs, rfl, h1, _⟩ := (View.of hy : View G F H y _).obj eS
        cases ry
        obtain ⟨mA, J, _⟩ := ins_get I.hok h1
        obtain ⟨od, J, _⟩ := J.look
        obtain ⟨m, fr⟩ := I.fr
        refine PySem.W.contains_K fr I.ok.mod.kin J e1 e2 ?_
        refine wpAny_mono (pure_call (X := X) (G := G) (k := k) Fo hb ⟨hr, rfl⟩ I (vs := [.ref a, x]) (us := [.ref a, u]) (.cons rfl (.cons rx .nil)) eS (.cons hy (.cons hx .nil)) rfl ec) (fun r s' z => ?_) fun _ _ z => z
        obtain ⟨z, F', H', rz, I', al, dp⟩ := z
        cases dp
        cases rz
        exact wpAny_truthy_bool (q H' s' al.subH I')
      · cases he
    · cases he
  · cases he
theorem op_inO (hE : SpTab X.prog X.w X.K X.mg X.base G "__contains__" 2 k E) (hr : RG k X.A) : OpR X (compareOp .In) (rEqO G false (inO E)) := by
  intro pins s σ H x y v u Q I rx ry ⟨F, dx, dy, b, eS, hx, hy, he, q⟩
  refine wpAny_bind (inO_step hE hr I rx ry eS hx hy he fun H' s' sm I' => wpAny_pure ?_)
  exact ⟨.bl b, H', I', rfl, by simpa using q H' sm⟩
theorem op_notInO (hE : SpTab X.prog X.w X.K X.mg X.base G "__contains__" 2 k E) (hr : RG k X.A) : OpR X (compareOp .NotIn) (rEqO G true (inO E)) := by
  intro pins s σ H x y v u Q I rx ry ⟨F, dx, dy, b, eS, hx, hy, he, q⟩
  refine wpAny_bind (inO_step hE hr I rx ry eS hx hy he fun H' s' sm I' => wpAny_pure ?_)
  exact ⟨.bl (!b), H', I', rfl, by simpa using q H' sm⟩
/-! x <= y -/
def cmpO (T : Tab) (E : Nat → Option Fn) (x y : D) : Option Bool := match x with
  | .obj c _ => (match E c with
    | some f => if tyK T y = true then (match callV f [x, y] with
      | some (.bl b) => some b
      | _ => none) else none
    | none => none)
  | _ => none
structure NfTab (K : PySem.W.Frag) (G : Gx) (T : Tab) (E : Nat → Option Fn) : Prop where
  lt : ∀ c f, E c = some f → c < T.n
  nfB : ∀ c f, E c = some f → ∀ t ∈ baseT, PySem.W.notFirst K (G.cl c) (.type t) = true
  nf : ∀ c f, E c = some f → ∀ c', c' < T.n → PySem.W.notFirst K (G.cl c) (.ref (G.cl c')) = true
theorem op_cmpO {op : CmpOp} {m : Str} (hm : (cmpInfo op).2.1 = m) (ho : ∀ u v, compareOp op u v = richCompare op u v) (O : TabOk G T) (hK : X.K = G.K) (hE : SpTab X.prog X.w X.K X.mg X.base G m 2 k E) (hN : NfTab X.K G T E) (hr : RG k X.A) : OpR X (compareOp op) (rEqO G false (cmpO T E)) := by
  intro pins s σ H x y v u Q I rx ry ⟨F, dx, dy, b, eS, hx, hy, he, q⟩
  rw [ho]
  unfold cmpO at he
  split at he
  · rename_i c fs
    split at he
    · rename_i f ef
      split at he
      · rename_i ht
        split at he
        · rename_i b' ec
          cases he
          obtain ⟨g, fd, ps, e1, e2, e3, hb, Fo⟩ := (hE c f ef).ex
          obtain ⟨t, tk, lk⟩ := ty_of (X := X) O hK I ry eS hy ht
          have hn : PySem.W.notFirst X.K (G.cl c) t = true := by
            rcases tk with tk | ⟨c', hc', rfl⟩
            · obtain ⟨t', ht', rfl⟩ := List.mem_map.mp tk
              exact hN.nfB c f ef t' ht'
            · exact hN.nf c f ef c' hc'
          obtain ⟨a, dx', vs, rfl, h1, _⟩ := (View.of hx : View G F H x _).obj eS
          cases rx
          obtain ⟨mA, J, _⟩ := ins_get I.hok h1
          obtain ⟨od, J, _⟩ := J.look
          obtain ⟨m', fr⟩ := I.fr
          refine PySem.W.cmp_K (op := op) hr.units0 fr I.ok.mod.kin J lk hn (by rw [hm]; exact e1) e2 ?_
          refine wpAny_mono (pure_call (X := X) (G := G) (k := k) Fo hb ⟨hr, rfl⟩ I (vs := [.ref a, y]) (us := [.ref a, u]) (.cons rfl (.cons ry .nil)) eS (.cons hx (.cons hy .nil)) rfl ec) (fun r s' z => ?_) fun _ _ z => z
          obtain ⟨z, F', H', rz, I', al, dp⟩ := z
          cases dp
          cases rz
          exact ⟨.bl _, H', I', rfl, by simpa using q H' al.subH⟩
        · cases he
      · cases he
    · cases he
  · cases he
/-! len(o) -/
def lenO (E : Nat → Option Fn) (x : D) : Option Int := match x with
  | .obj c _ => (match E c with
    | some f => (match callV f [x] with
      | some (.int n) => if 0 ≤ n ∧ n < 2 ^ 63 then some n else none
      | _ => none)
    | none => none)
  | _ => none
def rLenO (G : Gx) (E : Nat → Option Fn) : List V → Hp → VK → Prop := fun xs H Q => ∃ x F dx n, xs = [x] ∧ Same F H ∧ Dp G F x dx ∧ lenO E dx = some n ∧ ∀ H', Same H H' → Q (.int n) H'
theorem call_lenO (hE : SpTab X.prog X.w X.K X.mg X.base G "__len__" 1 k E) (hr : RG (k + 1) X.A) : CallR X (.builtin "len") (rLenO G E) := by
  intro pins s σ H xs us Q I r ⟨x, F, dx, n, ex, eS, hx, he, q⟩
  subst ex
  obtain ⟨u, rfl, rx⟩ : ∃ u, us = [u] ∧ RelV x u := by
    cases r with | cons h t => cases t; exact ⟨_, rfl, h⟩
  unfold lenO at he
  split at he
  · rename_i c fs
    split at he
    · rename_i f ef
      split at he
      · rename_i n' ec
        split at he
        · rename_i hb'
          cases he
          obtain ⟨g, fd, ps, e1, e2, e3, hb, Fo⟩ := (hE c f ef).ex
          obtain ⟨a, dx', vs, rfl, h1, _⟩ := (View.of hx : View G F H x _).obj eS
          cases rx
          obtain ⟨mA, J, _⟩ := ins_get I.hok h1
          obtain ⟨od, J, _⟩ := J.look
          obtain ⟨m, fr⟩ := I.fr
          refine PySem.W.len_K fr I.ok.mod.kin J e1 e2 ?_
          refine wpAny_mono (pure_call (X := X) (G := G) (k := k) Fo hb (SubG.in1 ⟨hr, rfl⟩) I (vs := [.ref a]) (us := [.ref a]) (.cons rfl .nil) eS (.cons hx .nil) rfl ec) (fun r s' z => ?_) fun _ _ z => z
          obtain ⟨z, F', H', rz, I', al, dp⟩ := z
          cases dp
          obtain ⟨t, rfl⟩ := rz
          exact ⟨hb', .int _, H', I'.tok _, ⟨_, rfl⟩, q H' al.subH⟩
        · cases he
      · cases he
    · cases he
  · cases he
end
/-! as operators of data -/
def lenOD (E : Nat → Option Fn) : List D → Option Res
  | [x] => if notO x then (lenO E x).map fun n => .val (.int n) else none
  | _ => none
theorem lenOD_ok {G : Gx} {E : Nat → Option Fn} : CallOk G (rLenO G E) (lenOD E) := by
  intro F H xs ds res Q eS v q k
  unfold lenOD at q
  split at q
  · rename_i d
    split at q
    · rename_i w
      obtain ⟨n, hn, rfl⟩ := Option.map_eq_some_iff.mp q
      cases v with
      | cons vx t =>
        cases t
        obtain ⟨L1, h1⟩ := vx.frz eS w
        exact ⟨_, frzH F H L1, d, n, rfl, frzH_same eS, h1 L1 (fun b hb => hb), hn, fun H' s => k _ F H' ⟨Same.refl _, s, eS.trans s, fun _ _ _ z => z⟩ (.int _)⟩
    · cases q
  · cases q
end PyD

namespace PyD
open PySem PySem.Spec PyProof.Rows L2

/-! ### what is never reached -/
section
variable {X : Cx} {Γ : Gm} {W : WX}
def mStuck : M := fun _ => .stuck
def tStuck : MB := fun _ => .stuck
def sStuck : MS := fun _ => .stuck
theorem je_stuck {e : Expr} : PE X e (tM Γ W mStuck) := ⟨fun _ _ _ _ _ _ ⟨_, _, _, p⟩ => p.elim⟩
theorem jt_stuck {e : Expr} : PT X e (tMB Γ W tStuck) := ⟨fun _ _ _ _ _ _ ⟨_, _, _, p⟩ => p.elim⟩
theorem js_stuck {st : Stmt} : PS X st (tMS Γ W sStuck) := ⟨fun _ _ _ _ _ _ ⟨_, _, _, p⟩ => p.elim⟩
end
/-! ### o[i] -/
section
variable {X : Cx} {Γ : Gm} {W : WX}
def ixCall (E : Nat → Option Fn) (c : Nat) (a b : Res) (ρ : Rho) : Out Res := match E c with
  | some f => callR [false, false] f [a, b] ρ
  | none => .stuck
def ixDisp (E : Nat → Option Fn) (o : Option D) (a b : Res) (ρ : Rho) : Out Res := match o with
  | some (.obj c _) => ixCall E c a b ρ
  | _ => op2 ixD a b ρ
def mIxO (E : Nat → Option Fn) (ma mb : M) : M := fun ρ => bindF (ma ρ) fun a ρ1 => bindF (mb ρ1) fun b ρ2 => ixDisp E (resolve ρ2 a) a b ρ2
theorem je_ixO {E : Nat → Option Fn} {k : Nat} {a b : Expr} {ma mb : M} {pos : Pos} (tk : Takes X W) (hE : SpTab X.prog X.w X.K X.mg X.base Γ.G "__getitem__" 2 k E) (hr : RG (k + 1) X.A) (hK : X.K = Γ.G.K) (hu : X.A.units + 1 < cLine) (ha : PE X a (tM Γ W ma)) (hb : PE X b (tM Γ W mb)) (hs : PlainIx b := by exact fun _ _ => rfl)
    (hsl : ∀ x i, subscripted b true (.ref x) i = runValue (.builtin "lifetime.subscript" ⟨[.ref x, i], []⟩) := by intro _ _; with_unfolding_all rfl) : PE X (.Subscript a b pos) (tM Γ W (mIxO E ma mb)) := by
  refine ⟨fun pins s σ H Q I ⟨ρ, F, R, h⟩ => ?_⟩
  refine Subscript_ (binT (R := fun x y H2 => ∃ ρ2 F2 ra rb, Rel Γ ρ2 σ F2 H2 ∧ RepF Γ.G σ F2 x ra ∧ RepF Γ.G σ F2 y rb ∧ Post Γ W (ixDisp E (resolve ρ2 ra) ra rb ρ2) ρ2 σ F2 H2 Q) (je_f ha) (je_f hb) I ⟨ρ, F, R, h.bindF fun ra ρ1 x F1 H1 s1 ha1 p1 => ⟨ρ1, F1, s1.rel, p1.bindF fun rb ρ2 y F2 H2 s2 hb1 p2 => ⟨ρ2, F2, ra, rb, s2.rel, ha1.mono s2.subF, hb1, p2⟩⟩⟩ fun v u s2 x y H2 I2 rx ry q => ?_)
  obtain ⟨ρ2, F2, ra, rb, R2, hra, hrb, p⟩ := q
  unfold ixDisp at p
  split at p
  · rename_i c fs er
    unfold ixCall at p
    split at p
    · rename_i f ef
      obtain ⟨g, fd, ps, e1, e2, e3, hbd, Fo⟩ := (hE c f ef).ex
      obtain ⟨o, dx', vs, rfl, h1, _⟩ := (hra.view R2 er).obj R2.sub
      cases rx
      obtain ⟨mA, J, _⟩ := ins_get I2.hok h1
      obtain ⟨od, J, _⟩ := J.look
      obtain ⟨m, fr⟩ := I2.fr
      refine PySem.W.sub_K fr I2.ok.mod.kin J e1 e3 e2 ?_ (hsl o u)
      exact run_sub (dvs := []) (E := fun cls d H' => W cls d σ H') Fo (SubG.in1 ⟨hr, rfl⟩) hbd .nil (passAt tk σ) I2 (vs := [.ref o, y]) (us := [.ref o, u]) (.cons rfl (.cons ry .nil)) (callR_ok R2 (.cons hra (.cons hrb .nil)) rfl p)
    · exact p.elim
  · have hop := op2_ok (W := W) (f := ixD) (r := rIxD Γ.G.K) ixD_ok R2 hra hrb p
    exact ix_D hu a b pins s2 σ H2 x y v u Q I2 rx ry (hK ▸ hop) (hs _ _)
end
end PyD

namespace PyD
open PySem PySem.Spec PyProof.Rows L2

theorem hu190 {A : Around} {k : Nat} (hr : RG k A) : A.units + 190 < cLine := by have := hr.un; omega
/-! ### repr(x), str(x) -/
def showOk (p : PyData) : Bool := p.showable && (!p.hasDict && (decide (p.depth ≤ 100) && decide (p.shown.length ≤ sizeLine)))
def reprD : List D → Option Res
  | [x] => match toPy x with
    | some p => if showOk p = true then some (.val (.str p.shown)) else none
    | none => none
  | _ => none
def rRepr (K : PySem.W.Frag) : List V → Hp → VK → Prop := fun xs H Q => ∃ x p, xs = [x] ∧ L2.Dp K H x p ∧ showOk p = true ∧ Q (.str p.shown) H
theorem reprD_ok {G : Gx} : CallOk G (rRepr G.K) reprD := by
  intro F H xs ds res Q e v q k
  unfold reprD at q
  split at q
  · rename_i d
    split at q
    · rename_i p hp
      split at q
      · rename_i w
        cases q
        cases v with
        | cons vx t =>
          cases t
          exact ⟨_, p, rfl, vx.py e hp, w, k _ F H (.refl e) (.str _)⟩
      · cases q
    · cases q
  · cases q
theorem call_repr {X : Cx} (hg : X.A.guards = some []) (un : X.A.units + 190 < cLine) : CallR X (.builtin "repr") (rRepr X.K) := by
  intro pins s σ H xs us Q I r ⟨x, p, ex, dp, ok, q⟩
  subst ex
  obtain ⟨u, rfl, rx⟩ : ∃ u, us = [u] ∧ RelV x u := by
    cases r with | cons h t => cases t; exact ⟨_, rfl, h⟩
  obtain ⟨w1, w2⟩ := Bool.and_eq_true_iff.mp ok
  obtain ⟨w3, w4⟩ := Bool.and_eq_true_iff.mp w2
  obtain ⟨w5, w6⟩ := Bool.and_eq_true_iff.mp w4
  have nd : p.hasDict = false := by simpa using w3
  have dep : p.depth ≤ 100 := of_decide_eq_true w5
  have sz : p.shown.length ≤ sizeLine := of_decide_eq_true w6
  have fin : ∀ h' t tk, (∀ b o, s.heap.get? b = some o → h'.get? b = some o) → EP X pins σ Q (.str p.shown t) { s with heap := h', toks := tk } := fun h' t tk hk => ⟨.str p.shown, H, I.kept (t' := tk) hk, ⟨t, rfl⟩, q⟩
  have ref : ∀ a, u = .ref a → wpAny (model X.prog X.w) X.A (call (.builtin "repr") [u]) (EP X pins σ Q) X.xe s := fun a e => by
    obtain ⟨as, rd⟩ := L2.Dp.reads I p x u dp rx
    subst e
    exact repr_of_reads' rd w1 (PyData.noDict_hsm nd) hg (by omega) (fun _ _ z => z) fin sz
  cases dp with
  | non => cases rx; simp only [PyData.shown] at fin; exact PySem.P.repr_of_none (fin s.heap s.toks (s.toks + 1) fun _ _ z => z)
  | bl b => cases rx; simp only [PyData.shown] at fin; exact PySem.P.repr_of_bool (fin s.heap s.toks (s.toks + 1) fun _ _ z => z)
  | int i =>
    obtain ⟨t, rfl⟩ := rx
    simp only [PyData.shown] at fin
    exact PySem.P.repr_of_int (by simpa [PyData.showable] using w1) (fin s.heap s.toks (s.toks + 1) fun _ _ z => z)
  | str z =>
    obtain ⟨t, rfl⟩ := rx
    simp only [PyData.shown] at fin sz
    exact PySem.P.repr_of_str (fin s.heap s.toks (s.toks + 1) fun _ _ z => z) sz
  | lst h t => cases rx; exact ref _ rfl
  | tup h t => cases rx; exact ref _ rfl
def strD : List D → Option Res
  | [.str x] => some (.val (.str x))
  | [.int i] => if i.natAbs.log2 < 1920 then some (.val (.str (Str.ofString (toString i)))) else none
  | _ => none
theorem call_strAll {X : Cx} : CallR X (.type "str") (OrC (fun xs H Q => ∃ a, xs = [.str a] ∧ Q (.str a) H) (fun xs H Q => ∃ i : Int, xs = [.int i] ∧ i.natAbs.log2 < 1920 ∧ Q (.str (toString i)) H)) := SkE.call_str_str.or call_str_int
theorem strD_ok {G : Gx} : CallOk G (OrC (fun xs H Q => ∃ a, xs = [.str a] ∧ Q (.str a) H) (fun xs H Q => ∃ i : Int, xs = [.int i] ∧ i.natAbs.log2 < 1920 ∧ Q (.str (toString i)) H)) strD := by
  intro F H xs ds res Q e v q k
  unfold strD at q
  split at q
  · rename_i z
    cases q
    cases v with | cons vx t => cases t; rw [vx.str]; exact .inl ⟨z, rfl, k _ F H (.refl e) (.str _)⟩
  · rename_i i
    split at q
    · rename_i w
      cases q
      cases v with | cons vx t => cases t; rw [vx.int]; exact .inr ⟨i, rfl, w, k _ F H (.refl e) (.str _)⟩
    · cases q
  · cases q
end PyD

namespace PyD
open PySem PySem.Spec PyProof.Rows L2

/-! ### facts of the written part, as Bools that the kernel runs -/
theorem and2 {a b : Bool} (h : (a && b) = true) : a = true ∧ b = true := Bool.and_eq_true_iff.mp h
def clsB (K : PySem.W.Frag) (a : Addr) : Bool := PySem.W.plainGet K a Str.empty && (PySem.W.hasDictIn K a && (PySem.W.plainOver K a && decide (PySem.W.findIn K (.ref a) "__setattr__" = some (some (.builtin "object.__setattr__")))))
theorem clsB_ok {K : PySem.W.Frag} {a : Addr} (h : clsB K a = true) : Cls K a := by
  obtain ⟨h1, h⟩ := and2 h
  obtain ⟨h2, h⟩ := and2 h
  obtain ⟨h3, h4⟩ := and2 h
  exact ⟨h1, h2, h3, of_decide_eq_true h4⟩
def tab1 (K : PySem.W.Frag) (cl : Nat → Addr) (T : Tab) (c : Nat) : Bool :=
  (baseT.all fun t => decide (PySem.W.kitOne K (.type t) (.ref (cl c)) = some false)) && (((List.range T.n).all fun c' => decide (PySem.W.kitOne K (.ref (cl c)) (.ref (cl c')) = some (T.sub c c'))) &&
  ((T.tys.all fun t => decide (PySem.W.kitOne K (.ref (cl c)) (.type t) = some (T.subB c t))) && (clsB K (cl c) && (decide (PySem.W.findIn K (.ref (cl c)) "__class__" = some (some (.builtin "object.__class__"))) &&
  (decide (PySem.W.mroIn K (cl c) (.type "object") = some true) && (((T.flds c).all fun f => decide (PySem.W.findIn K (.ref (cl c)) f = some none)) &&
  (decide (PySem.W.specialIn K (.builtin "object.__class__") "__get__" = some (some (.builtin "getset_descriptor.__get__"))) && decide (PySem.W.takesIn K (.builtin "object.__class__") = some true))))))))
def tabB (K : PySem.W.Frag) (cl : Nat → Addr) (T : Tab) : Bool := (List.range T.n).all fun c => tab1 K cl T c
theorem tabB_ok {G : Gx} {T : Tab} (h : tabB G.K G.cl T = true) : TabOk G T := by
  have key : ∀ c, c < T.n → tab1 G.K G.cl T c = true := fun c hc => List.all_eq_true.mp h c (List.mem_range.mpr hc)
  refine ⟨fun c hc t ht => ?_, fun c hc c' hc' => ?_, fun c hc t ht => ?_, fun c hc => ?_, fun c hc => ?_, fun hn => ?_, fun hn => ?_, fun c hc => ?_, fun c hc f hf => ?_⟩
  all_goals first
    | (have k := key c hc
       obtain ⟨a1, k⟩ := and2 k
       obtain ⟨a2, k⟩ := and2 k
       obtain ⟨a3, k⟩ := and2 k
       obtain ⟨a4, k⟩ := and2 k
       obtain ⟨a5, k⟩ := and2 k
       obtain ⟨a6, k⟩ := and2 k
       obtain ⟨a7, k⟩ := and2 k
       first
         | exact of_decide_eq_true (List.all_eq_true.mp a1 t ht)
         | exact of_decide_eq_true (List.all_eq_true.mp a2 c' (List.mem_range.mpr hc'))
         | exact of_decide_eq_true (List.all_eq_true.mp a3 t ht)
         | exact clsB_ok a4
         | exact of_decide_eq_true a5
         | exact of_decide_eq_true a6
         | exact (show PySem.W.findIn G.K (.ref (G.cl c)) f = some none from of_decide_eq_true (List.all_eq_true.mp a7 f hf)))
    | (have k := key 0 hn
       obtain ⟨a1, k⟩ := and2 k
       obtain ⟨a2, k⟩ := and2 k
       obtain ⟨a3, k⟩ := and2 k
       obtain ⟨a4, k⟩ := and2 k
       obtain ⟨a5, k⟩ := and2 k
       obtain ⟨a6, k⟩ := and2 k
       obtain ⟨a7, k⟩ := and2 k
       obtain ⟨a8, a9⟩ := and2 k
       first | exact of_decide_eq_true a8 | exact of_decide_eq_true a9)
/-- the special method m of the class at a stands at g -/
def spB (K : PySem.W.Frag) (a : Addr) (m : Str) (g : Addr) : Bool := decide (PySem.W.findIn K (.ref a) m = some (some (.ref g))) && (PySem.W.isFn K (.ref g) && PySem.W.fnIn K g)
def nfB (K : PySem.W.Frag) (cl : Nat → Addr) (n : Nat) (a : Addr) : Bool := (baseT.all fun t => PySem.W.notFirst K a (.type t)) && ((List.range n).all fun c => PySem.W.notFirst K a (.ref (cl c)))
theorem nfB_ok {K : PySem.W.Frag} {cl : Nat → Addr} {n : Nat} {a : Addr} (h : nfB K cl n a = true) : (∀ t ∈ baseT, PySem.W.notFirst K a (.type t) = true) ∧ ∀ c, c < n → PySem.W.notFirst K a (.ref (cl c)) = true := by
  obtain ⟨h1, h2⟩ := and2 h
  exact ⟨fun t ht => List.all_eq_true.mp h1 t ht, fun c hc => List.all_eq_true.mp h2 c (List.mem_range.mpr hc)⟩
def neB (K : PySem.W.Frag) (a : Addr) : Bool := decide (PySem.W.findIn K (.ref a) "__ne__" = some (some (.builtin "object.__ne__"))) && decide (PySem.W.mroIn K a (.type "object") = some true)
section
variable {P : Program} {w : World} {K : PySem.W.Frag} {mg : Str → Option Value} {base : Heap} {G : Gx} {c n k : Nat} {m : Str} {f : Fn} {g : Addr} {fd : FuncData} {ps : List Str}
theorem sp_of (h : spB K (G.cl c) m g = true) (hb : Binds K fd ps []) (O : FnOkG P w K mg base k g fd ps (spF G n f)) : SpFact P w K mg base G c m n k f := by
  obtain ⟨h1, h⟩ := and2 h
  obtain ⟨h2, h3⟩ := and2 h
  exact ⟨g, fd, ps, of_decide_eq_true h1, h2, h3, hb, O⟩
theorem eq_of (h : spB K (G.cl c) "__eq__" g = true) (hn : neB K (G.cl c) = true) {N : Nat} (hf : nfB K G.cl N (G.cl c) = true) (hb : Binds K fd ps []) (O : FnOkG P w K mg base k g fd ps (spF G 2 f)) : EqFact P w K mg base G c k f := by
  obtain ⟨h1, h⟩ := and2 h
  obtain ⟨h2, h3⟩ := and2 h
  obtain ⟨h4, h5⟩ := and2 hn
  exact ⟨⟨g, fd, ps, of_decide_eq_true h1, h2, hb, O⟩, of_decide_eq_true h4, of_decide_eq_true h5, (nfB_ok hf).1⟩
theorem FnOkG.mono {j k : Nat} {f : Addr} {sp : Sp} (F : FnOkG P w K mg base j f fd ps sp) (h : j ≤ k) : FnOkG P w K mg base k f fd ps sp := ⟨F.len, fun A outer s H args us vs Q E hr => F.run A outer s H args us vs Q E (hr.mono h)⟩
end
/-! ### own exceptions -/
def xcB (K : PySem.W.Frag) (C : Addr) (tl : List Value) (newId : String) : Bool := (match K.lookup C with
  | some ⟨.type "type", _, .cls cd, sl⟩ => (match cd.mro, sl.toList with
    | .ref C' :: bm, [_, _, _, _, some (.builtin n), _] => C' == C && (n == newId && (!cd.hasDel && (cd.hasDict && PySem.W.excTail tl bm)))
    | _, _ => false)
  | _ => false) && (decide (PySem.W.findIn K (.ref C) "__setattr__" = some (some (.builtin "object.__setattr__"))) && (decide (PySem.W.subIn K (.ref C) (.type "BaseException") = some true) && (decide (PySem.W.typeIn K (.ref C) = some (.type "type")) && PySem.W.keepIn K (.ref C))))
theorem xcB_ok {K : PySem.W.Frag} {C : Addr} {tl : List Value} {newId : String} (h : xcB K C tl newId = true) : XC K C tl newId := by
  obtain ⟨q, h⟩ := and2 h
  obtain ⟨h1, h⟩ := and2 h
  obtain ⟨h2, h⟩ := and2 h
  obtain ⟨h3, h4⟩ := and2 h
  refine ⟨?_, of_decide_eq_true h1, of_decide_eq_true h2, of_decide_eq_true h3, h4⟩
  split at q
  · rename_i dd cd sl ho
    split at q
    · rename_i C' bm k0 k1 k2 k3 n k5 hm hs
      obtain ⟨q1, q⟩ := and2 q
      obtain ⟨q2, q⟩ := and2 q
      obtain ⟨q3, q⟩ := and2 q
      obtain ⟨q4, q5⟩ := and2 q
      obtain rfl := beq_iff_eq.mp q1
      obtain rfl := beq_iff_eq.mp q2
      obtain ⟨nm, bs, mro, ns, qn, hd, sn, sub, ab, col, del⟩ := cd
      dsimp only at hm q3 q4
      subst hm
      have e1 : del = false := by simpa using q3
      subst e1 q4
      obtain ⟨l⟩ := sl
      simp only at hs
      subst hs
      exact ⟨nm, qn, ns, bs, bm, sn, sub, ab, col, dd, k0, k1, k2, k3, k5, ho, q5⟩
    · cases q
  · cases q
def excCB (K : PySem.W.Frag) (D : Addr) : Bool := xfB K D && (decide (PySem.W.findIn K (.ref D) "__class__" = some (some (.builtin "object.__class__"))) && (decide (PySem.W.specialIn K (.builtin "object.__class__") "__get__" = some (some (.builtin "getset_descriptor.__get__"))) && (decide (PySem.W.takesIn K (.builtin "object.__class__") = some true) && decide (PySem.W.mroIn K D (.type "object") = some true))))
theorem excCB_ok {K : PySem.W.Frag} {D : Addr} (h : excCB K D = true) : ExcC K D := by
  obtain ⟨h0, h⟩ := and2 h
  obtain ⟨h1, h⟩ := and2 h
  obtain ⟨h2, h⟩ := and2 h
  obtain ⟨h3, h4⟩ := and2 h
  have x := xfB_ok h0
  exact ⟨x.ga, x.gg, x.exC, x.hdC, of_decide_eq_true h1, of_decide_eq_true h2, of_decide_eq_true h3, of_decide_eq_true h4⟩
/-- Base.__init__(self, text); self.f = f -/
theorem okx_of {P : Program} {w : World} {K : PySem.W.Frag} {mg : Str → Option Value} {base : Heap} {qual b f sl txt : Str} {params : Arguments} {scope : Scope} {fI : Addr} {fd : FuncData} {B newId initId : String} {tl : List Value} {p1 p2 p3 p4 p5 p6 p7 p8 p9 p10 : Pos} {j : Nat} (Z : EBase B newId initId tl)
    (F : FunD K "__init__" qual params [.Expr (.Call (.Attribute (.Name b p1) "__init__" p2) [.Name sl p3, .Constant (.str txt) j p4] [] p5) p6, .Assign [.Attribute (.Name sl p7) f p8] (.Name f p9) p10] scope [] [] fI fd) (S : FnScope [sl, f] [sl, f] scope)
    (hB : ∀ (cdv : Value) (A : Around) (outer : List Env) (s : Shared) (H : Hp) (E : XK), BaseAt (cxOf (L2.CX P w) P w K mg base [sl, f] qual scope fI cdv A outer s H E) b initId)
    (v0 : Vis scope sl) (v1 : Vis scope f) (d0 : (sl == ("__debug__" : Str)) = false) (d1 : (f == ("__debug__" : Str)) = false) (c0 : (sl == ("__classdict__" : Str)) = false) (c1 : (f == ("__classdict__" : Str)) = false)
    (hpl : ∀ (env : Env), ∃ pl, eval (.Call (.Attribute (.Name b p1) "__init__" p2) [.Name sl p3, .Constant (.str txt) j p4] [] p5) env = (do let ov ← eval (.Name b p1) env; standAt p2.atName; let (f, first) ← holding [ov] (getMethod ov "__init__" pl); callWith p5 f first (backTo p5 (starEach [.Name sl p3, .Constant (.str txt) j p4] env)) (backToKw p5 (keywordEach [] env))) := by intro _; exact ⟨_, rfl⟩)
    (hs1 : ∀ (env : Env), swapsWith (.Call (.Attribute (.Name b p1) "__init__" p2) [.Name sl p3, .Constant (.str txt) j p4] [] p5) none p6.line env = pure false := by intro _; rfl)
    (hs2 : ∀ (env : Env), swapsWith (.Name f p9) (some (.Attribute (.Name sl p7) f p8)) p10.line env = pure false := by intro _; rfl) :
    FnOkG P w K mg base 1 fI fd [sl, f] (spX K tl newId f) :=
  okg_of F S (fun vs H Q E ⟨a, C, v, e, _⟩ => by rw [e]; rfl) fun cdv A outer s H vs Q E hr ⟨a, C, v, e, T, hn, ha, q⟩ => by
    obtain ⟨pl, hpl⟩ := hpl (cxOf (L2.CX P w) P w K mg base [sl, f] qual scope fI cdv A outer s H E).env
    refine ⟨_, pss_cons (ps_expr (pe_binit (pl := pl) Z (hB cdv A outer s H E) (pa_cons (pe_var (i := 0) rfl v0 d0 c0) (pa_cons pe_str pa_nil)) hpl) (hs1 _)) (pss_one (ps_xst Z (pe_var (i := 0) rfl v0 d0 c0) (pe_var (i := 1) rfl v1 d1 c1) (hs2 _))), ?_⟩
    subst e
    exact ⟨.ref a, rfl, a, C, [.str txt], rfl, (by simp), T, ha, v, rfl, .ref a, rfl, a, C, rfl, T, hn, ha, fun dx h1 h2 => q dx h1 h2⟩
end PyD

namespace PyD
open PySem PySem.Spec PyProof.Rows L2

theorem js_tryR {X : Cx} {Γ : Gm} {W : WX} {body : List Stmt} {h₀ : ExceptHandler} {hds : List ExceptHandler} {l : List (Value × Option Nat × TSx)} {hs : List Hd} {mb : MS} {pos : Pos} (hst : X.stack = X.env :: X.outer) (hf : X.env.frame = some X.env.locals) (hN : X.N.Nodup) (tk : Takes X W) (hr : HdR X.K Γ hs l)
    (hb : ∀ (W : WX) (pn : List (Addr × Obj)) (xe : Value → Shared → Prop), Takes (X.tr pn xe) W → PassesOwn (model X.prog X.w) X.A X.env xe → PSs (X.tr pn xe) body (tMS Γ W mb)) (hh : Cls' X (h₀ :: hds) l) : PS X (.Try body (h₀ :: hds) [] [] pos) (tMS Γ W (mTry mb hs)) := js_try hst hf hN tk hb hh hr
/-! ### tables -/
def lookF : List (Nat × Fn) → Nat → Option Fn
  | [], _ => none
  | (c, f) :: l, c' => if c = c' then some f else lookF l c'
section
variable {P : Program} {w : World} {K : PySem.W.Frag} {mg : Str → Option Value} {base : Heap} {G : Gx} {T : Tab} {c k n : Nat} {m : Str} {f : Fn} {l : List (Nat × Fn)}
theorem eqtab_nil : EqTab P w K mg base G T k (lookF []) := fun c f h => by cases h
theorem eqtab_cons (h1 : c < T.n) (h2 : EqFact P w K mg base G c k f) (h3 : ∀ c', c' < T.n → PySem.W.notFirst K (G.cl c) (.ref (G.cl c')) = true) (t : EqTab P w K mg base G T k (lookF l)) : EqTab P w K mg base G T k (lookF ((c, f) :: l)) := fun c' f' h => by
  simp only [lookF] at h
  split at h
  · rename_i e; subst e; cases h; exact ⟨h1, h2, h3⟩
  · exact t c' f' h
theorem sptab_nil : SpTab P w K mg base G m n k (lookF []) := fun c f h => by cases h
theorem sptab_cons (h2 : SpFact P w K mg base G c m n k f) (t : SpTab P w K mg base G m n k (lookF l)) : SpTab P w K mg base G m n k (lookF ((c, f) :: l)) := fun c' f' h => by
  simp only [lookF] at h
  split at h
  · rename_i e; subst e; cases h; exact h2
  · exact t c' f' h
theorem nftab_nil : NfTab K G T (lookF []) := ⟨fun c f h => by (cases h), fun c f h => by (cases h), fun c f h => by (cases h)⟩
theorem nftab_cons (h1 : c < T.n) (h2 : ∀ t ∈ baseT, PySem.W.notFirst K (G.cl c) (.type t) = true) (h3 : ∀ c', c' < T.n → PySem.W.notFirst K (G.cl c) (.ref (G.cl c')) = true) (t : NfTab K G T (lookF l)) : NfTab K G T (lookF ((c, f) :: l)) := by
  refine ⟨fun c' f' h => ?_, fun c' f' h => ?_, fun c' f' h => ?_⟩
  all_goals
    simp only [lookF] at h
    split at h
    · rename_i e; subst e; first | exact h1 | exact h2 | exact h3
    · first | exact t.lt c' f' h | exact t.nfB c' f' h | exact t.nf c' f' h
end
/-! ### which exceptions a clause takes -/
def xlook : List (Nat × Nat × Bool) → Nat → Nat → Option Bool
  | [], _, _ => none
  | (a, b, r) :: l, c, d => if a = c ∧ b = d then some r else xlook l c d
def xlB (K : PySem.W.Frag) (cl : Nat → Addr) : List (Nat × Nat × Bool) → Bool
  | [] => true
  | (a, b, r) :: l => decide (PySem.W.exmOne K (.ref (cl a)) (.ref (cl b)) = some r) && xlB K cl l
theorem xl_ok {K : PySem.W.Frag} {cl : Nat → Addr} : ∀ {l : List (Nat × Nat × Bool)} {a b : Nat} {r : Bool}, xlB K cl l = true → xlook l a b = some r → PySem.W.exmOne K (.ref (cl a)) (.ref (cl b)) = some r
  | [], a, b, r, _, h => by cases h
  | (a', b', r') :: l, a, b, r, q, h => by
    obtain ⟨q1, q2⟩ := and2 q
    simp only [xlook] at h
    split at h
    · rename_i e; obtain ⟨rfl, rfl⟩ := e; cases h; exact of_decide_eq_true q1
    · exact xl_ok q2 h
/-! ### Base.__init__ found -/
def xfc (K : PySem.W.Frag) (a : Addr) (id : String) : Bool := match PySem.W.findCls K (.ref a) (.type "type") "__init__" with
  | some (.val (.builtin i)) => i == id
  | _ => false
theorem xfc_ok {K : PySem.W.Frag} {a : Addr} {id : String} (h : xfc K a id = true) : PySem.W.findCls K (.ref a) (.type "type") "__init__" = some (.val (.builtin id)) := by
  unfold xfc at h
  split at h
  · rename_i i e; rw [e, beq_iff_eq.mp h]
  · cases h
def xfcT (K : PySem.W.Frag) (a id : String) : Bool := match PySem.W.findCls K (.type a) (.type "type") "__init__" with
  | some (.val (.builtin i)) => i == id
  | _ => false
theorem xfcT_ok {K : PySem.W.Frag} {a id : String} (h : xfcT K a id = true) : PySem.W.findCls K (.type a) (.type "type") "__init__" = some (.val (.builtin id)) := by
  unfold xfcT at h
  split at h
  · rename_i i e; rw [e, beq_iff_eq.mp h]
  · cases h
end PyD

namespace PyD
open PySem PySem.Spec PyProof.Rows L2

/-! ### a, b, .. = x, y, ..: what is new stays own -/
def Gm.alsoL (Γ : Gm) (L : List Addr) : Gm := { Γ with U := fun b => Γ.U b ∨ b ∈ L }
section
variable {Γ : Gm} {ρ ρ' : Rho} {σ σ' : St} {F H F' H' : Hp} {L : List Addr}
theorem slotOk_alsoL {v : V} {M : List Addr} {s : Slot} : SlotOk (Γ.alsoL L) F H v M s ↔ SlotOk Γ F H v M s := by cases s <;> exact Iff.rfl
theorem ownAt_alsoL {i : Nat} {c : Addr} : OwnAt (Γ.alsoL L) ρ σ F H i c ↔ OwnAt Γ ρ σ F H i c :=
  ⟨fun ⟨s, v, M, h1, h2, h3, h4⟩ => ⟨s, v, M, h1, h2, slotOk_alsoL.mp h3, h4⟩, fun ⟨s, v, M, h1, h2, h3, h4⟩ => ⟨s, v, M, h1, h2, slotOk_alsoL.mpr h3, h4⟩⟩
theorem Rel.alsoL (R : Rel Γ ρ σ F H) (h : ∀ b ∈ L, F b = none ∧ ¬ Own Γ ρ σ F H b ∧ ∃ o, H b = some o) : Rel (Γ.alsoL L) ρ σ F H :=
  ⟨R.sub, fun i s q => by obtain ⟨v, M, h1, h2⟩ := R.slot i s q; exact ⟨v, M, h1, slotOk_alsoL.mpr h2⟩, fun i j c h1 h2 => R.inj i j c (ownAt_alsoL.mp h1) (ownAt_alsoL.mp h2), fun i c q => ⟨(R.own i c (ownAt_alsoL.mp q)).1, fun z => by
    rcases z with z | z
    · exact (R.own i c (ownAt_alsoL.mp q)).2 z
    · exact (h c z).2.1 ⟨i, ownAt_alsoL.mp q⟩⟩, R.len, R.inv, fun c q => by
    rcases q with q | q
    · exact R.ali c q
    · exact ⟨(h c q).1, (h c q).2.2⟩⟩
theorem Rel.unalsoL (R : Rel (Γ.alsoL L) ρ σ F H) : Rel Γ ρ σ F H ∧ ∀ b ∈ L, ¬ Own Γ ρ σ F H b :=
  ⟨⟨R.sub, fun i s q => by obtain ⟨v, M, h1, h2⟩ := R.slot i s q; exact ⟨v, M, h1, slotOk_alsoL.mp h2⟩, fun i j c h1 h2 => R.inj i j c (ownAt_alsoL.mpr h1) (ownAt_alsoL.mpr h2), fun i c h => ⟨(R.own i c (ownAt_alsoL.mpr h)).1, fun z => (R.own i c (ownAt_alsoL.mpr h)).2 (.inl z)⟩, R.len, R.inv, fun c h => R.ali c (.inl h)⟩, fun b hb ⟨i, h⟩ => (R.own i b (ownAt_alsoL.mpr h)).2 (.inr hb)⟩
theorem Stp.unalsoL (s : Stp (Γ.alsoL L) ρ σ F H ρ' σ' F' H') : Stp Γ ρ σ F H ρ' σ' F' H' ∧ ∀ b ∈ L, H' b = H b ∧ F' b = none ∧ ¬ Own Γ ρ' σ' F' H' b :=
  ⟨⟨s.rel.unalsoL.1, s.subF, fun c h => s.keep c (.inl h), s.there⟩, fun b hb => ⟨s.keep b (.inr hb), (s.rel.ali b (.inr hb)).1, s.rel.unalsoL.2 b hb⟩⟩
end
/-- results, the new ones apart from one another -/
inductive RepN (Γ : Gm) (σ : St) (ρ : Rho) (F H : Hp) : List V → List Res → List Addr → Prop
  | nil : RepN Γ σ ρ F H [] [] []
  | val {v : V} {d : D} {vs : List V} {rs : List Res} {Ls : List Addr} : Dp Γ.G F v d → RepN Γ σ ρ F H vs rs Ls → RepN Γ σ ρ F H (v :: vs) (.val d :: rs) Ls
  | at {v : V} {i : Nat} {vs : List V} {rs : List Res} {Ls : List Addr} : σ[i]? = some (some v) → RepN Γ σ ρ F H vs rs Ls → RepN Γ σ ρ F H (v :: vs) (.at i :: rs) Ls
  | new {a : Addr} {d : D} {L : List Addr} {vs : List V} {rs : List Res} {Ls : List Addr} : Ct Γ.G F H a d L → Fresh Γ ρ σ F H L → (∀ b ∈ L, b ∉ Ls) → RepN Γ σ ρ F H vs rs Ls → RepN Γ σ ρ F H (.ref a :: vs) (.new d :: rs) (L ++ Ls)
theorem RepN.fresh {Γ : Gm} {σ : St} {ρ : Rho} {F H : Hp} : ∀ {vs : List V} {rs : List Res} {Ls : List Addr}, RepN Γ σ ρ F H vs rs Ls → Fresh Γ ρ σ F H Ls
  | _, _, _, .nil => fresh_nil
  | _, _, _, .val _ t => t.fresh
  | _, _, _, .at _ t => t.fresh
  | _, _, _, .new c f _ t => fun b hb => by
    rcases List.mem_append.mp hb with z | z
    · exact f b z
    · exact t.fresh b z
theorem RepN.there {Γ : Gm} {σ : St} {ρ : Rho} {F H : Hp} : ∀ {vs : List V} {rs : List Res} {Ls : List Addr}, RepN Γ σ ρ F H vs rs Ls → ∀ b ∈ Ls, ∃ o, H b = some o
  | _, _, _, .nil, b, h => by cases h
  | _, _, _, .val _ t, b, h => t.there b h
  | _, _, _, .at _ t, b, h => t.there b h
  | _, _, _, .new c f _ t, b, hb => by
    rcases List.mem_append.mp hb with z | z
    · exact c.there b z
    · exact t.there b z
/-- .. stay, their cells kept -/
theorem RepN.move {Γ Γ' : Gm} {σ : St} {ρ ρ' : Rho} {F H F' H' : Hp} (eG : Γ'.G = Γ.G) (e : Same F F') : ∀ {vs : List V} {rs : List Res} {Ls : List Addr}, RepN Γ σ ρ F H vs rs Ls → (∀ b ∈ Ls, H' b = H b) → Fresh Γ' ρ' σ F' H' Ls → RepN Γ' σ ρ' F' H' vs rs Ls
  | _, _, _, .nil, _, _ => .nil
  | _, _, _, .val h t, k, f => .val (by rw [eG]; exact h.mono e) (t.move eG e k f)
  | _, _, _, .at h t, k, f => .at h (t.move eG e k f)
  | _, _, _, .new c _ dj t, k, f => .new (by rw [eG]; exact c.mono e fun b hb o q => by rw [k b (List.mem_append_left _ hb)]; exact q) (fun b hb => f b (List.mem_append_left _ hb)) dj (t.move eG e (fun b hb => k b (List.mem_append_right _ hb)) fun b hb => f b (List.mem_append_right _ hb))
def PostN (Γ : Gm) (W : WX) (o : Out (List Res)) (ρ : Rho) (σ : St) (F H : Hp) (Q : List V → Hp → Prop) : Prop :=
  match o with
  | .ok rs ρ' => ∀ vs F' H' Ls, Stp Γ ρ σ F H ρ' σ F' H' → RepN Γ σ ρ' F' H' vs rs Ls → Q vs H'
  | .exc x ρ' => ∀ d F' H', Stp Γ ρ σ F H ρ' σ F' H' → ExcRep Γ.G F' H' x d → W (ecV Γ.G x.c) d σ H'
  | .stuck => False
def tMN (Γ : Gm) (W : WX) (m : MA) : TA := fun σ H Q => ∃ ρ F, Rel Γ ρ σ F H ∧ PostN Γ W (m ρ) ρ σ F H Q
def tAN (Γ : Gm) (W : WX) (m : MA) : TA := fun σ H Q => ∃ L, tMN (Γ.alsoL L) W m σ H Q
def mConsN (ma : M) (mr : MA) : MA := fun ρ => bindO (ma ρ) fun a ρ1 => bindO (mr ρ1) fun as ρ2 => .ok (a :: as) ρ2
section
variable {X : Cx} {Γ : Gm} {W : WX} {e : Expr} {es : List Expr} {ma : M} {mr : MA}
theorem jn_nil : PA X [] (tMN Γ W mNil) := pa_nil.imp fun σ H Q ⟨ρ, F, R, p⟩ => p [] F H [] (.refl R) .nil
theorem consN_ok : ∀ σ H Q, tMN Γ W (mConsN ma mr) σ H Q → tCons (tM Γ W ma) (tAN Γ W mr) σ H Q := fun σ H Q ⟨ρ, F, R, p⟩ => by
  refine ⟨ρ, F, R, ?_⟩
  unfold mConsN at p
  cases e1 : ma ρ with
  | stuck => rw [e1] at p; exact p.elim
  | exc x ρ1 => rw [e1] at p; exact p
  | ok r ρ1 =>
    rw [e1] at p
    simp only [bindO] at p
    intro v F1 H1 s1 hr
    have key : ∃ L, (∀ b ∈ L, F1 b = none ∧ ¬ Γ.U b ∧ ¬ Own Γ ρ1 σ F1 H1 b ∧ ∃ o, H1 b = some o) ∧ ∀ {F2 H2 : Hp} {ρ2 : Rho} {vs : List V} {rs : List Res} {Ls : List Addr}, Stp (Γ.alsoL L) ρ1 σ F1 H1 ρ2 σ F2 H2 → RepN (Γ.alsoL L) σ ρ2 F2 H2 vs rs Ls → ∃ Ls', RepN Γ σ ρ2 F2 H2 (v :: vs) (r :: rs) Ls' := by
      have down : ∀ {L : List Addr} {F2 H2 : Hp} {ρ2 : Rho} {vs : List V} {rs : List Res} {Ls : List Addr}, RepN (Γ.alsoL L) σ ρ2 F2 H2 vs rs Ls → RepN Γ σ ρ2 F2 H2 vs rs Ls ∧ ∀ b ∈ Ls, b ∉ L := fun {L F2 H2 ρ2 vs rs Ls} t => by
        have f := t.fresh
        exact ⟨RepN.move (Γ := Γ.alsoL L) (Γ' := Γ) rfl (Same.refl _) t (fun _ _ => rfl) fun b hb => ⟨(f b hb).1, fun z => (f b hb).2.1 (.inl z), fun ⟨j, z⟩ => (f b hb).2.2 ⟨j, ownAt_alsoL.mpr z⟩⟩, fun b hb z => (f b hb).2.1 (.inr z)⟩
      cases r with
      | val d => exact ⟨[], (fun b h => by cases h), fun {F2 H2 ρ2 vs rs Ls} s2 t => ⟨Ls, .val (Dp.mono s2.subF hr) (down t).1⟩⟩
      | «at» i => exact ⟨[], (fun b h => by cases h), fun {F2 H2 ρ2 vs rs Ls} s2 t => ⟨Ls, .at hr (down t).1⟩⟩
      | new d =>
        obtain ⟨a, L, rfl, c, fr⟩ := hr
        refine ⟨L, fun b hb => ⟨(fr b hb).1, (fr b hb).2.1, (fr b hb).2.2, c.there b hb⟩, fun {F2 H2 ρ2 vs rs Ls} s2 t => ?_⟩
        obtain ⟨u1, u2⟩ := s2.unalsoL
        obtain ⟨t1, t2⟩ := down t
        exact ⟨L ++ Ls, .new (c.mono s2.subF fun b hb o q => by rw [(u2 b hb).1]; exact q) (fun b hb => ⟨(u2 b hb).2.1, (fr b hb).2.1, (u2 b hb).2.2⟩) (fun b hb z => t2 b z hb) t1⟩
    obtain ⟨L, hL, fin⟩ := key
    refine ⟨L, ρ1, F1, s1.rel.alsoL (fun b hb => ⟨(hL b hb).1, (hL b hb).2.2.1, (hL b hb).2.2.2⟩), ?_⟩
    cases e2 : mr ρ1 with
    | stuck => rw [e2] at p; exact p.elim
    | exc x ρ2 => rw [e2] at p; exact fun d F2 H2 s2 q => p d F2 H2 (s1.trans s2.unalsoL.1) q
    | ok as ρ2 =>
      rw [e2] at p
      intro vs F2 H2 Ls s2 t
      obtain ⟨Ls', t'⟩ := fin s2 t
      exact p (v :: vs) F2 H2 Ls' (s1.trans s2.unalsoL.1) t'
theorem pa_any (h : ∀ L, PA X es (tMN (Γ.alsoL L) W mr)) : PA X es (tAN Γ W mr) := ⟨fun pos pins s σ H Q I ⟨L, q⟩ => (h L).run pos pins s σ H Q I q⟩
theorem jn_cons (ha : PE X e (tM Γ W ma)) (hr : ∀ L, PA X es (tMN (Γ.alsoL L) W mr)) (hs : starEach (e :: es) X.env = (false, eval e X.env) :: starEach es X.env := by rfl) : PA X (e :: es) (tMN Γ W (mConsN ma mr)) :=
  (pa_cons ha (pa_any hr) hs).imp consN_ok
end
/-- .. of them the plain and the new ones -/
inductive RepM (G : Gx) (F H : Hp) : List V → List Res → List Addr → Prop
  | nil : RepM G F H [] [] []
  | val {v : V} {d : D} {vs : List V} {rs : List Res} {Ls : List Addr} : Dp G F v d → RepM G F H vs rs Ls → RepM G F H (v :: vs) (.val d :: rs) Ls
  | new {a : Addr} {d : D} {L : List Addr} {vs : List V} {rs : List Res} {Ls : List Addr} : Ct G F H a d L → (∀ b ∈ L, b ∉ Ls) → RepM G F H vs rs Ls → RepM G F H (.ref a :: vs) (.new d :: rs) (L ++ Ls)
/-! the stores -/
def settleN : List Res → Rho → Option (List Res × Rho)
  | [], ρ => some ([], ρ)
  | .at i :: rs, ρ => match settle (.at i) ρ with
    | some (d, ρ1) => (settleN rs ρ1).map fun p => (.val d :: p.1, p.2)
    | none => none
  | r :: rs, ρ => (settleN rs ρ).map fun p => (r :: p.1, p.2)
def setsR : List Nat → List Res → Rho → SOut
  | [], [], ρ => .nx ρ
  | i :: is, r :: rs, ρ => if i < ρ.length then (match r with
    | .val d => setsR is rs (ρ.set i (some (.val d)))
    | .new d => setsR is rs (ρ.set i (some (.own none d)))
    | .at _ => .stuck) else .stuck
  | _, _, _ => .stuck
def parR (is : List Nat) (rs : List Res) (ρ : Rho) : SOut := match settleN rs ρ with
  | some (rs2, ρ2) => setsR is rs2 ρ2
  | none => .stuck
def mPar (is : List Nat) (ma : MA) : MS := fun ρ => bindSO (ma ρ) fun rs ρ1 => parR is rs ρ1
def sets (σ : St) : List Nat → List V → St
  | i :: is, v :: vs => sets (σ.set i (some v)) is vs
  | _, _ => σ
section
variable {Γ : Gm} {W : WX}
theorem settleN_ok : ∀ {Γ : Gm} {rs rs2 : List Res} {ρ ρ2 : Rho} {σ : St} {F H : Hp} {vs : List V} {Ls : List Addr}, Rel Γ ρ σ F H → RepN Γ σ ρ F H vs rs Ls → settleN rs ρ = some (rs2, ρ2) → ∃ F', Stp Γ ρ σ F H ρ2 σ F' H ∧ RepM Γ.G F' H vs rs2 Ls ∧ Fresh Γ ρ2 σ F' H Ls
  | Γ, _, rs2, ρ, ρ2, σ, F, H, _, _, R, .nil, e => by
    simp only [settleN, Option.some.injEq, Prod.mk.injEq] at e
    obtain ⟨rfl, rfl⟩ := e
    exact ⟨F, .refl R, .nil, fresh_nil⟩
  | Γ, _, rs2, ρ, ρ2, σ, F, H, _, Ls, R, .val h t, e => by
    simp only [settleN, Option.map_eq_some_iff] at e
    obtain ⟨⟨q1, q2⟩, e1, e2⟩ := e
    cases e2
    obtain ⟨F', s, t', f'⟩ := settleN_ok R t e1
    exact ⟨F', s, .val (h.mono s.subF) t', f'⟩
  | Γ, _, rs2, ρ, ρ2, σ, F, H, _, _, R, .new (L := L) c f dj t, e => by
    simp only [settleN, Option.map_eq_some_iff] at e
    obtain ⟨⟨q1, q2⟩, e1, e2⟩ := e
    cases e2
    have R' : Rel (Γ.alsoL L) ρ σ F H := R.alsoL fun b hb => ⟨(f b hb).1, (f b hb).2.2, c.there b hb⟩
    have t0 := t.fresh
    have t2 := RepN.move (Γ := Γ) (Γ' := Γ.alsoL L) (ρ' := ρ) rfl (Same.refl _) t (fun _ _ => rfl) fun b hb => ⟨(t0 b hb).1, fun z => by
      rcases z with z | z
      · exact (t0 b hb).2.1 z
      · exact dj b z hb, fun ⟨j, z⟩ => (t0 b hb).2.2 ⟨j, ownAt_alsoL.mp z⟩⟩
    obtain ⟨F', s, t', f'⟩ := settleN_ok R' t2 e1
    obtain ⟨u1, u2⟩ := s.unalsoL
    refine ⟨F', u1, .new (c.mono s.subF fun b hb o q => q) dj t', fun b hb => ?_⟩
    rcases List.mem_append.mp hb with z | z
    · exact ⟨(u2 b z).2.1, (f b z).2.1, (u2 b z).2.2⟩
    · exact ⟨(f' b z).1, fun w => (f' b z).2.1 (.inl w), fun ⟨j, w⟩ => (f' b z).2.2 ⟨j, ownAt_alsoL.mpr w⟩⟩
  | Γ, _, rs2, ρ, ρ2, σ, F, H, _, Ls, R, .at (i := i) h t, e => by
    simp only [settleN] at e
    split at e
    · rename_i d ρ1 e1
      obtain ⟨⟨q1, q2⟩, e2, e3⟩ := Option.map_eq_some_iff.mp e
      cases e3
      have t0 := t.fresh
      have R' : Rel (Γ.alsoL Ls) ρ σ F H := R.alsoL fun b hb => ⟨(t0 b hb).1, (t0 b hb).2.2, t.there b hb⟩
      obtain ⟨F1, s1, dp⟩ := settle_ok R' (show RepF (Γ.alsoL Ls).G σ F _ (.at i) from h) e1
      obtain ⟨u1, u2⟩ := s1.unalsoL
      have t1 := RepN.move (Γ := Γ) (Γ' := Γ) (ρ' := ρ1) (H' := H) rfl s1.subF t (fun _ _ => rfl) fun b hb => ⟨(u2 b hb).2.1, (t0 b hb).2.1, (u2 b hb).2.2⟩
      obtain ⟨F', s, t', f'⟩ := settleN_ok u1.rel t1 e2
      exact ⟨F', u1.trans s, .val (Dp.mono s.subF dp) t', f'⟩
    · cases e
theorem sets_ok {D : Ends} : ∀ {is : List Nat} {rs : List Res} {ρ : Rho} {σ : St} {F H : Hp} {vs : List V} {Ls : List Addr}, Rel Γ ρ σ F H → RepM Γ.G F H vs rs Ls → Fresh Γ ρ σ F H Ls → PostS Γ W (setsR is rs ρ) ρ σ F H D → vs.length = is.length ∧ D.nx (sets σ is vs) H
  | [], _, ρ, σ, F, H, _, _, R, .nil, f, p => ⟨rfl, p σ F H (.refl R)⟩
  | [], _, ρ, σ, F, H, _, _, R, .val _ _, f, p => p.elim
  | [], _, ρ, σ, F, H, _, _, R, .new _ _ _, f, p => p.elim
  | i :: is, _, ρ, σ, F, H, _, _, R, .nil, f, p => p.elim
  | i :: is, _, ρ, σ, F, H, _, Ls, R, .val (v := v) (d := d) h t, f, p => by
    simp only [setsR] at p
    split at p
    · rename_i hi
      obtain ⟨R1, bk⟩ := R.put (σ' := σ.set i (some v)) (i := i) (L := []) (sl := .val d) hi (by rw [List.getElem?_set_self (by rw [← R.len]; exact hi)]) (fun j e => by rw [List.getElem?_set_ne (Ne.symm e)]) (by simp) ⟨h, rfl⟩ (fun b hb => by cases hb)
      have s1 : Stp Γ ρ σ F H (ρ.set i (some (.val d))) (σ.set i (some v)) F H := (Stp.refl R).setV hi h
      have r := sets_ok R1 t (fun b hb => ⟨(f b hb).1, (f b hb).2.1, fun w => by
        obtain ⟨j, o⟩ := w
        rcases bk j b o with ⟨_, z⟩ | ⟨_, z⟩
        · cases z
        · exact (f b hb).2.2 ⟨j, z⟩⟩) (p.shift s1)
      exact ⟨by simp [r.1], r.2⟩
    · exact p.elim
  | i :: is, _, ρ, σ, F, H, _, _, R, .new (a := a) (d := d) (L := L) c dj t, f, p => by
    simp only [setsR] at p
    split at p
    · rename_i hi
      have fL : ∀ b ∈ L, F b = none ∧ ¬ Γ.U b ∧ ¬ Own Γ ρ σ F H b := fun b hb => f b (List.mem_append_left _ hb)
      obtain ⟨R1, bk⟩ := R.put (σ' := σ.set i (some (.ref a))) (i := i) (L := L) (sl := .own none d) hi (by rw [List.getElem?_set_self (by rw [← R.len]; exact hi)]) (fun j e => by rw [List.getElem?_set_ne (Ne.symm e)]) (by simp) ⟨a, rfl, c, fun k z => nomatch z⟩ (fun b hb => ⟨(fL b hb).1, (fL b hb).2.1, fun j _ o => (fL b hb).2.2 ⟨j, o⟩⟩)
      have s1 : Stp Γ ρ σ F H (ρ.set i (some (.own none d))) (σ.set i (some (.ref a))) F H := (Stp.refl R).set hi ⟨a, rfl, c, fun k z => nomatch z⟩ fL
      have r := sets_ok R1 t (fun b hb => ⟨(f b (List.mem_append_right _ hb)).1, (f b (List.mem_append_right _ hb)).2.1, fun w => by
        obtain ⟨j, o⟩ := w
        rcases bk j b o with ⟨_, z⟩ | ⟨_, z⟩
        · exact dj b z hb
        · exact (f b (List.mem_append_right _ hb)).2.2 ⟨j, z⟩⟩) (p.shift s1)
      exact ⟨by simp [r.1], r.2⟩
    · exact p.elim
theorem par_ok {D : Ends} {is : List Nat} {rs : List Res} {ρ ρ1 : Rho} {σ : St} {F H F1 H1 : Hp} {vs : List V} {Ls : List Addr} (s : Stp Γ ρ σ F H ρ1 σ F1 H1) (t : RepN Γ σ ρ1 F1 H1 vs rs Ls) (p : PostS Γ W (parR is rs ρ1) ρ σ F H D) : vs.length = is.length ∧ D.nx (sets σ is vs) H1 := by
  unfold parR at p
  split at p
  · rename_i rs2 ρ2 e
    obtain ⟨F2, s2, m, f⟩ := settleN_ok s.rel t e
    exact sets_ok s2.rel m f (p.shift (s.trans s2))
  · exact p.elim
end
section
variable {X : Cx} {Γ : Gm} {W : WX} {ma : MA} {pos : Pos}
theorem mPar_ok {is : List Nat} {D : Ends} {σ : St} {H : Hp} (h : tMS Γ W (mPar is ma) D σ H) : tMN Γ W ma σ H fun vs H1 => vs.length = is.length ∧ D.nx (sets σ is vs) H1 := by
  obtain ⟨ρ, F, R, p⟩ := h
  refine ⟨ρ, F, R, ?_⟩
  unfold mPar at p
  cases e : ma ρ with
  | ok rs ρ1 => rw [e] at p; exact fun vs F1 H1 Ls s t => par_ok s t p
  | exc x ρ1 => rw [e] at p; exact fun d F1 H1 s q => p d σ F1 H1 s q
  | stuck => rw [e] at p; exact p.elim
theorem js_par2 {i j : Nat} {x y : Str} {a b : Expr} {px py pt : Pos} {kt k2 pt2} (hc : X.calm = true) (hN : X.N.Nodup) (ha : PA X [a, b] (tMN Γ W ma)) (hi : X.N[i]? = some x := by rfl) (hj : X.N[j]? = some y := by rfl) (hij : i ≠ j := by decide)
    (hx : X.env.scope.names.lookup x = some .local := by rfl) (hy : X.env.scope.names.lookup y = some .local := by rfl) (hw : swappedStores [.Tuple [.Name x px, .Name y py] kt pt] (.Tuple [a, b] k2 pt2) X.env = pure (some [x, y]) := by rfl)
    (hs : swapsWithSole [.Tuple [.Name x px, .Name y py] kt pt] (.Tuple [a, b] k2 pt2) pos.line X.env = pure false := by rfl) : PS X (.Assign [.Tuple [.Name x px, .Name y py] kt pt] (.Tuple [a, b] k2 pt2) pos) (tMS Γ W (mPar [i, j] ma)) :=
  (ps_par hc hN hi hj hij hx hy ha hw hs).imp fun D σ H h => by
    obtain ⟨ρ, F, R, p⟩ := mPar_ok h
    refine ⟨ρ, F, R, ?_⟩
    cases e : ma ρ with
    | ok rs ρ1 =>
      rw [e] at p
      intro vs F1 H1 Ls s t
      obtain ⟨l, q⟩ := p vs F1 H1 Ls s t
      exact (match vs, l, q with
        | [v, w], _, q => ⟨v, w, rfl, q⟩)
    | exc x ρ1 => rw [e] at p; exact p
    | stuck => rw [e] at p; exact p
theorem js_par3 {i j l : Nat} {x y z : Str} {a b c : Expr} {px py pz pt : Pos} {kt k2 pt2} (hc : X.calm = true) (hN : X.N.Nodup) (ha : PA X [a, b, c] (tMN Γ W ma)) (hi : X.N[i]? = some x := by rfl) (hj : X.N[j]? = some y := by rfl) (hl : X.N[l]? = some z := by rfl) (hij : i ≠ j := by decide) (hil : i ≠ l := by decide) (hjl : j ≠ l := by decide)
    (hx : X.env.scope.names.lookup x = some .local := by rfl) (hy : X.env.scope.names.lookup y = some .local := by rfl) (hz : X.env.scope.names.lookup z = some .local := by rfl) (hw : swappedStores [.Tuple [.Name x px, .Name y py, .Name z pz] kt pt] (.Tuple [a, b, c] k2 pt2) X.env = pure (some [x, y, z]) := by rfl)
    (hs : swapsWithSole [.Tuple [.Name x px, .Name y py, .Name z pz] kt pt] (.Tuple [a, b, c] k2 pt2) pos.line X.env = pure false := by rfl) : PS X (.Assign [.Tuple [.Name x px, .Name y py, .Name z pz] kt pt] (.Tuple [a, b, c] k2 pt2) pos) (tMS Γ W (mPar [i, j, l] ma)) :=
  (ps_par3 hc hN hi hj hl hij hil hjl hx hy hz ha hw hs).imp fun D σ H h => by
    obtain ⟨ρ, F, R, p⟩ := mPar_ok h
    refine ⟨ρ, F, R, ?_⟩
    cases e : ma ρ with
    | ok rs ρ1 =>
      rw [e] at p
      intro vs F1 H1 Ls s t
      obtain ⟨l, q⟩ := p vs F1 H1 Ls s t
      exact (match vs, l, q with
        | [u, v, w], _, q => ⟨u, v, w, rfl, q⟩)
    | exc x ρ1 => rw [e] at p; exact p
    | stuck => rw [e] at p; exact p
end
/-! by a tuple -/
def gNames : List Nat → TGs
  | [] => gNil
  | i :: is => gCons (gName i) (gNames is)
theorem gNames_ok {Q : St → Hp → Prop} {H : Hp} : ∀ {is : List Nat} {vs : List V} {σ : St}, vs.length = is.length → Q (sets σ is vs) H → gNames is vs σ H Q
  | [], [], σ, _, q => ⟨rfl, q⟩
  | i :: is, v :: vs, σ, l, q => ⟨v, vs, rfl, gNames_ok (by simpa using l) q⟩
  | [], _ :: _, σ, l, q => by simp at l
  | _ :: _, [], σ, l, q => by simp at l
theorem js_parN {X : Cx} {Γ : Gm} {W : WX} {ma : MA} {pos pt pt2 : Pos} {ts es : List Expr} {is : List Nat} {kt k2} {n : Nat} (hK : X.K = Γ.G.K) (hg : PG X (.Tuple ts kt pt) (gTup X.K n (gNames is))) (hn : is.length = n) (hz : n ≤ 1000) (ha : PA X es (tMN Γ W ma)) (hs : swapsWithSole [.Tuple ts kt pt] (.Tuple es k2 pt2) pos.line X.env = pure false := by rfl) (hw : swappedStores [.Tuple ts kt pt] (.Tuple es k2 pt2) X.env = pure none := by rfl)
    (h1 : (assignEach [.Tuple ts kt pt] X.env).map (·.2) = [assign (.Tuple ts kt pt) X.env] := by rfl) : PS X (.Assign [.Tuple ts kt pt] (.Tuple es k2 pt2) pos) (tMS Γ W (mPar is ma)) :=
  (ps_asg (pe_tup ha) hg hs hw h1).imp fun D σ H ⟨ρ, F, R, p⟩ => by
    refine ⟨ρ, F, R, ?_⟩
    unfold mPar at p
    cases e : ma ρ with
    | ok rs ρ1 =>
      rw [e] at p
      intro vs F1 H1 Ls s t
      have ln : vs.length = is.length := (par_ok s t p).1
      refine ⟨by rw [ln, hn, sizeLine_eq]; omega, fun q hq => ?_⟩
      refine ⟨q, vs, rfl, SqT.of upd_same, by rw [ln, hn], gNames_ok ln ?_⟩
      -- the tuple is nobody's
      have al : Alc F1 H1 F1 (upd H1 q (.tup vs)) := Alc.cell s.rel.sub hq
      have s2 := s.trans (al.stp s.rel)
      have f0 := t.fresh
      have t2 := RepN.move (Γ := Γ) (Γ' := Γ) (ρ' := ρ1) (F' := F1) (H' := upd H1 q (.tup vs)) rfl (Same.refl _) t (fun b hb => by
        obtain ⟨o, ho⟩ := t.there b hb
        exact upd_ne (ne_of_none ho hq)) fun b hb => ⟨(f0 b hb).1, (f0 b hb).2.1, fun ⟨j, z⟩ => (f0 b hb).2.2 ⟨j, al.own s.rel z⟩⟩
      exact (par_ok s2 t2 p).2
    | exc x ρ1 => rw [e] at p; exact fun d F1 H1 s q => p d σ F1 H1 s q
    | stuck => rw [e] at p; exact p.elim
end PyD

namespace PyD
open PySem PySem.Spec PyProof.Rows L2
/-! ### what is read of the heap behind the top -/
def frY (g : Addr → Option Obj) (n : Nat) : PySem.W.Frag := He.frT g (cStatics :: He.asD g n)
def hookY (n : Nat) (fa : List He.Fa) (fn : List He.DefD) (ex : PySem.W.Frag → Bool) : PySem.W.Hook where
  α := He.AlD × Bool
  obs := fun s => (He.obsD fa fn (frY s.heap.get? n), ex (frY s.heap.get? n))
  val := fun _ => (He.valD fn, true)
  says := fun _ h => ∃ K : PySem.W.Frag, K.In h ∧ He.SaysD fa fn K ∧ ex K = true
  of := fun _ _ e => ⟨_, He.frT_in, congrArg Prod.fst e, congrArg Prod.snd e⟩
  keeps := fun _ _ _ ⟨K, hK, c⟩ k => ⟨K, PySem.W.Frag.In.keeps hK k, c⟩
def obsY (n : Nat) (fa : List He.Fa) (fn : List He.DefD) (ex : PySem.W.Frag → Bool) (g : Addr → Option Obj) : He.AlD × Bool := (He.obsD fa fn (frY g n), ex (frY g n))
theorem obsY_eq {n : Nat} {fa : List He.Fa} {fn : List He.DefD} {ex : PySem.W.Frag → Bool} {g : Addr → Option Obj} {s : Shared} (h : ∀ a, g a = s.heap.get? a) : obsY n fa fn ex g = (hookY n fa fn ex).obs s := by
  have e : g = s.heap.get? := funext h
  rw [e]; rfl
end PyD

namespace PyD
open PySem PySem.Spec PyProof.Rows L2
/-! ### rows for simp: objects, exceptions, own operators -/
/-! one of two -/
def orR (o : Option Res) (p : Option Res) : Option Res := match o with | some r => some r | none => p
@[simp] theorem x_orRs {r : Res} {p : Option Res} : orR (some r) p = some r := rfl
@[simp] theorem x_orRn {p : Option Res} : orR none p = p := rfl
@[simp] theorem x_orF {f g : D → D → Option Res} {a b : D} : orF f g a b = orR (f a b) (g a b) := by unfold orF orR; cases f a b <;> rfl
@[simp] theorem x_outW {o : Out Res} : outW true o = o := rfl
@[simp] theorem x_mMakeW {c n nk np : Nat} {q : List Nat} {dds : List D} {mk : List Bool} {f : Fn} {ma mz : MA} {ρ : Rho} : mMakeW c n nk np q dds mk f ma mz ρ = bindO (ma ρ) fun rs ρ1 => bindO (mz ρ1) fun zs ρ2 =>
  outW (rs.length == n && zs.length == nk && (pick q (rs ++ dds.map .val ++ zs)).length + 1 == np) (makeR c mk f (pick q (rs ++ dds.map .val ++ zs)) ρ2) := rfl
@[simp] theorem x_mCallW {n nk np : Nat} {q : List Nat} {dds : List D} {mk : List Bool} {f : Fn} {ma mz : MA} {ρ : Rho} : mCallW n nk np q dds mk f ma mz ρ = bindO (ma ρ) fun rs ρ1 => bindO (mz ρ1) fun zs ρ2 =>
  outW (rs.length == n && zs.length == nk && (pick q (rs ++ dds.map .val ++ zs)).length == np) (callR mk f (pick q (rs ++ dds.map .val ++ zs)) ρ2) := rfl
@[simp] theorem x_pickN {α : Type} {l : List α} : pick [] l = [] := rfl
def picC {α : Type} (o : Option α) (r : List α) : List α := match o with | some a => a :: r | none => r
@[simp] theorem x_picC {α : Type} {a : α} {r : List α} : picC (some a) r = a :: r := rfl
@[simp] theorem x_pickC {α : Type} {i : Nat} {p : List Nat} {l : List α} : pick (i :: p) l = picC l[i]? (pick p l) := by
  unfold pick picC; simp only [List.filterMap_cons]; cases l[i]? <;> rfl
def mkRet (o : FOut) (as : List BArg) (ρ : Rho) : Out Res := match o with
  | .ret (.val .non) (d :: os) => optO (wb as os ρ) fun ρ2 => .ok (.new d) ρ2
  | .exc x (_ :: os) => excO x (wb as os ρ)
  | _ => .stuck
@[simp] theorem x_mkRet {d : D} {os : List D} {as : List BArg} {ρ : Rho} : mkRet (.ret (.val .non) (d :: os)) as ρ = optO (wb as os ρ) fun ρ2 => .ok (.new d) ρ2 := rfl
@[simp] theorem x_mkRetx {x : Exc} {d : D} {os : List D} {as : List BArg} {ρ : Rho} : mkRet (.exc x (d :: os)) as ρ = excO x (wb as os ρ) := rfl
@[simp] theorem x_makeR {c : Nat} {mk : List Bool} {f : Fn} {rs : List Res} {ρ : Rho} : makeR c mk f rs ρ = optO (prep1 mk rs ρ) fun p => optO (prep2 p.2 p.1) fun as => mkRet (f (.o (.obj c []) :: as.map BArg.strip)) as p.2 := by
  simp only [makeR, optO, mkRet]
  cases prep1 mk rs ρ with
  | none => rfl
  | some p =>
    obtain ⟨ms, ρ1⟩ := p
    simp only
    cases prep2 ρ1 ms with
    | none => rfl
    | some as =>
      simp only [excO]
      cases f (.o (.obj c []) :: as.map BArg.strip) with
      | ret r os =>
        cases r with
        | val d => cases d <;> cases os <;> first | rfl | (simp only; cases wb as _ ρ1 <;> rfl)
        | _ => rfl
      | exc x os => cases os <;> first | rfl | (simp only; cases wb as _ ρ1 <;> rfl)
      | stuck => rfl
def isO (c : Nat) (m : Str) (o : Option D) : Bool := match o with
  | some (.obj c' fs) => c' == c && (fs.lookup m).isNone
  | _ => false
@[simp] theorem x_isO {c c' : Nat} {m : Str} {fs : List (Str × D)} : isO c m (some (.obj c' fs)) = (c' == c && (fs.lookup m).isNone) := rfl
@[simp] theorem x_methR {c : Nat} {m : Str} {r : Res} {ρ : Rho} : methR c m r ρ = isO c m (resolve ρ r) := by unfold methR isO; rfl
@[simp] theorem x_mMeth {c : Nat} {m : Str} {n : Nat} {mk : List Bool} {f : Fn} {mo : M} {ma : MA} {ρ : Rho} : mMeth c m n mk f mo ma ρ = bindF (mo ρ) fun r ρ1 => if methR c m r ρ1 = true then bindO (ma ρ1) fun rs ρ2 => if (r :: rs).length = n then callR mk f (r :: rs) ρ2 else .stuck else .stuck := rfl
@[simp] theorem x_fldD {T : Tab} {f : Str} {c : Nat} {fs : List (Str × D)} : fldD T f (.obj c fs) = if c < T.n ∧ f ∈ T.flds c then (fs.lookup f).map .val else none := rfl
def ownOb (o : Option (Option Slot)) (k : Option Nat → Nat → List (Str × D) → SOut) : SOut := match o with
  | some (some (.own b (.obj c fs))) => k b c fs
  | _ => .stuck
@[simp] theorem x_ownOb {b : Option Nat} {c : Nat} {fs : List (Str × D)} {k : Option Nat → Nat → List (Str × D) → SOut} : ownOb (some (some (.own b (.obj c fs)))) k = k b c fs := rfl
@[simp] theorem x_fldR {T : Tab} {f : Str} {rv : Res} {s : Nat} {ρ : Rho} : fldR T f rv (.at s) ρ = optS (PyD.settle rv ρ) fun p => ownOb p.2[s]? fun b c fs => if (c < T.n ∧ f ∈ T.flds c) ∧ fs.length < 1000 then .nx (p.2.set s (some (.own b (.obj c (putD f p.1 fs))))) else .stuck := by
  simp only [fldR, optS, ownOb]
  cases PyD.settle rv ρ with
  | none => rfl
  | some p => rfl
@[simp] theorem x_mFldS {T : Tab} {f : Str} {mo me : M} {ρ : Rho} : mFldS T f mo me ρ = bindSF (me ρ) fun rv ρ1 => bindSF (mo ρ1) fun ro ρ2 => fldR T f rv ro ρ2 := rfl
@[simp] theorem x_putN {f : Str} {v : D} : putD f v [] = [(f, v)] := rfl
@[simp] theorem x_putC {f k : Str} {v w : D} {r : List (Str × D)} : putD f v ((k, w) :: r) = if k = f then (f, v) :: r else (k, w) :: putD f v r := rfl
@[simp] theorem x_lookN {f : Str} : ([] : List (Str × D)).lookup f = none := rfl
@[simp] theorem x_lookC {f k : Str} {v : D} {r : List (Str × D)} : ((k, v) :: r).lookup f = if f = k then some v else r.lookup f := by
  rw [List.lookup_cons]
  by_cases h : f = k
  · subst h; simp
  · simp only [beq_eq_false_iff_ne.mpr h, if_neg h]
@[simp] theorem x_ofSE {a b : String} : (Str.ofString a = Str.ofString b) = (a = b) := by rw [ofS_inj]
/-! exceptions -/
@[simp] theorem x_raiseR {c : Nat} {f : Str} {r : Res} {ρ : Rho} : raiseR c f r ρ = optS (PyD.settle r ρ) fun p => .exc ⟨.own c, [(f, p.1)]⟩ p.2 := by
  unfold raiseR optS; cases PyD.settle r ρ <;> rfl
@[simp] theorem x_mRaise {c : Nat} {f : Str} {me : M} {ρ : Rho} : mRaise c f me ρ = bindSF (me ρ) fun r ρ1 => raiseR c f r ρ1 := rfl
def tryS (o : SOut) (hs : List Hd) : SOut := match o with | .exc x ρ => mHd hs x ρ | o => o
@[simp] theorem x_trySx {x : Exc} {ρ : Rho} {hs : List Hd} : tryS (.exc x ρ) hs = mHd hs x ρ := rfl
@[simp] theorem x_trySn {ρ : Rho} {hs : List Hd} : tryS (.nx ρ) hs = .nx ρ := rfl
@[simp] theorem x_trySr {r : Res} {ρ : Rho} {hs : List Hd} : tryS (.ret r ρ) hs = .ret r ρ := rfl
@[simp] theorem x_trySb {ρ : Rho} {hs : List Hd} : tryS (.bk ρ) hs = .bk ρ := rfl
@[simp] theorem x_trySc {ρ : Rho} {hs : List Hd} : tryS (.ct ρ) hs = .ct ρ := rfl
@[simp] theorem x_mTry {mb : MS} {hs : List Hd} {ρ : Rho} : mTry mb hs ρ = tryS (mb ρ) hs := by unfold mTry tryS; cases mb ρ <;> rfl
def hdB (o : Option Bool) (y n : SOut) : SOut := match o with | some true => y | some false => n | none => .stuck
@[simp] theorem x_hdT {y n : SOut} : hdB (some true) y n = y := rfl
@[simp] theorem x_hdF {y n : SOut} : hdB (some false) y n = n := rfl
@[simp] theorem x_hdI {p : Prop} [Decidable p] {a b : Option Bool} {y n : SOut} : hdB (if p then a else b) y n = if p then hdB a y n else hdB b y n := by split <;> rfl
@[simp] theorem x_mHdN {x : Exc} {ρ : Rho} : mHd [] x ρ = .exc x ρ := rfl
@[simp] theorem x_mHdS {t : ECl → Option Bool} {i : Nat} {ms : Exc → MS} {r : List Hd} {x : Exc} {ρ : Rho} : mHd (⟨t, some i, ms⟩ :: r) x ρ = hdB (t x.c) (if noExn ρ = true then if i < ρ.length then offS i (ms x (ρ.set i (some .exn))) else .stuck else .stuck) (mHd r x ρ) := by
  unfold hdB
  cases h : t x.c with
  | none => simp only [mHd, h]
  | some b => cases b <;> simp only [mHd, h]
@[simp] theorem x_mHdO {t : ECl → Option Bool} {ms : Exc → MS} {r : List Hd} {x : Exc} {ρ : Rho} : mHd (⟨t, none, ms⟩ :: r) x ρ = hdB (t x.c) (if noExn ρ = true then onS (ms x ρ) else .stuck) (mHd r x ρ) := by
  unfold hdB
  cases h : t x.c with
  | none => simp only [mHd, h]
  | some b => cases b <;> simp only [mHd, h]
@[simp] theorem x_offN {i : Nat} {ρ : Rho} : offS i (.nx ρ) = if noExn (ρ.set i none) = true then .nx (ρ.set i none) else .stuck := rfl
@[simp] theorem x_offR {i : Nat} {r : Res} {ρ : Rho} : offS i (.ret r ρ) = if noExn (ρ.set i none) = true then .ret r (ρ.set i none) else .stuck := rfl
@[simp] theorem x_offB {i : Nat} {ρ : Rho} : offS i (.bk ρ) = if noExn (ρ.set i none) = true then .bk (ρ.set i none) else .stuck := rfl
@[simp] theorem x_offC {i : Nat} {ρ : Rho} : offS i (.ct ρ) = if noExn (ρ.set i none) = true then .ct (ρ.set i none) else .stuck := rfl
@[simp] theorem x_onN {ρ : Rho} : onS (.nx ρ) = if noExn ρ = true then .nx ρ else .stuck := rfl
@[simp] theorem x_onR {r : Res} {ρ : Rho} : onS (.ret r ρ) = if noExn ρ = true then .ret r ρ else .stuck := rfl
@[simp] theorem x_noExnN : noExn [] = true := rfl
def exS (s : Option Slot) : Bool := match s with
  | some .exn => false
  | _ => true
@[simp] theorem x_exSn : exS none = true := rfl
@[simp] theorem x_exSv {d : D} : exS (some (.val d)) = true := rfl
@[simp] theorem x_exSo {b : Option Nat} {d : D} : exS (some (.own b d)) = true := rfl
@[simp] theorem x_exSx : exS (some .exn) = false := rfl
@[simp] theorem x_noExnC {s : Option Slot} {ρ : Rho} : noExn (s :: ρ) = (exS s && noExn ρ) := by
  show ((match s with | some .exn => false | _ => true) && noExn ρ) = _
  unfold exS; rfl
def exA (o : Option (Option Slot)) : Bool := match o with
  | some (some .exn) => true
  | _ => false
@[simp] theorem x_exA : exA (some (some .exn)) = true := rfl
@[simp] theorem x_exnAt {ρ : Rho} {i : Nat} : exnAt ρ i = exA ρ[i]? := by unfold exnAt exA; rfl
@[simp] theorem x_xcO {c c' : Nat} {fs : List (Str × D)} : xcO ⟨.own c', fs⟩ c = (c' == c) := rfl
def valM (o : Option D) (ρ : Rho) : Out Res := match o with | some d => .ok (.val d) ρ | none => .stuck
@[simp] theorem x_valM {d : D} {ρ : Rho} : valM (some d) ρ = .ok (.val d) ρ := rfl
@[simp] theorem x_mXf {c i : Nat} {x : Exc} {f : Str} {ρ : Rho} : mXf c i x f ρ = if exnAt ρ i && xcO x c then valM (x.fs.lookup f) ρ else .stuck := by
  unfold mXf valM; rfl
@[simp] theorem x_mXi {c i : Nat} {x : Exc} {b : Bool} {ρ : Rho} : mXi c i x b ρ = if exnAt ρ i && xcO x c then .ok (.val (.bl b)) ρ else .stuck := rfl
@[simp] theorem x_xlookN {c d : Nat} : xlook [] c d = none := rfl
@[simp] theorem x_xlookC {a b : Nat} {r : Bool} {l : List (Nat × Nat × Bool)} {c d : Nat} : xlook ((a, b, r) :: l) c d = if a = c ∧ b = d then some r else xlook l c d := rfl
/-! own operators -/
def blF (o : FOut) : Option Bool := match o with
  | .ret (.val (.bl b)) [] => some b
  | _ => none
@[simp] theorem x_blF {b : Bool} : blF (.ret (.val (.bl b)) []) = some b := rfl
@[simp] theorem x_callB {f : Fn} {x y : D} : callB f x y = blF (f [.v x, .v y]) := by unfold callB blF; rfl
def valF (o : FOut) : Option D := match o with
  | .ret (.val d) [] => some d
  | _ => none
@[simp] theorem x_valF {d : D} : valF (.ret (.val d) []) = some d := rfl
@[simp] theorem x_callV {f : Fn} {xs : List D} : callV f xs = valF (f (xs.map .v)) := by unfold callV valF; rfl
@[simp] theorem x_notOo {c : Nat} {fs : List (Str × D)} : notO (.obj c fs) = true := rfl
@[simp] theorem x_notOi {i : Int} : notO (.int i) = true := rfl
@[simp] theorem x_notOs {i : Str} : notO (.str i) = true := rfl
@[simp] theorem x_notOb {i : Bool} : notO (.bl i) = true := rfl
@[simp] theorem x_notOn : notO .non = true := rfl
@[simp] theorem x_notOl {xs : List D} : notO (.lst xs) = true := rfl
@[simp] theorem x_notOt {xs : List D} : notO (.tup xs) = true := rfl
@[simp] theorem x_notOd {xs : List (Key × D)} : notO (.dct xs) = true := rfl
@[simp] theorem x_eqOD {neg : Bool} {e : D → D → Option Bool} {x y : D} : eqOD neg e x y = if notO x && notO y then (e x y).map fun b => .val (.bl (neg != b)) else none := rfl
def orB (o p : Option Bool) : Option Bool := match o with | some b => some b | none => p
@[simp] theorem x_orBs {b : Bool} {p : Option Bool} : orB (some b) p = some b := rfl
@[simp] theorem x_orBn {p : Option Bool} : orB none p = p := rfl
@[simp] theorem x_orE {e e' : D → D → Option Bool} {x y : D} : orE e e' x y = orB (e x y) (e' x y) := by unfold orE orB; cases e x y <;> rfl
@[simp] theorem x_eqOo {T : Tab} {E : Nat → Option Fn} {c : Nat} {fs : List (Str × D)} {y : D} : eqO T E (.obj c fs) y = ownT T E (.obj c fs) y := rfl
def fnB (o : Option Fn) (k : Fn → Option Bool) : Option Bool := match o with | some f => k f | none => none
@[simp] theorem x_fnB {f : Fn} {k : Fn → Option Bool} : fnB (some f) k = k f := rfl
@[simp] theorem x_ownT {T : Tab} {E : Nat → Option Fn} {c : Nat} {fs : List (Str × D)} {y : D} : ownT T E (.obj c fs) y = fnB (E c) fun f => if tyK T y = true then callB f (.obj c fs) y else none := by
  unfold ownT fnB; rfl
@[simp] theorem x_tyKo {T : Tab} {c : Nat} {fs : List (Str × D)} : tyK T (.obj c fs) = decide (c < T.n) := rfl
@[simp] theorem x_tyKs {T : Tab} {s : Str} : tyK T (.str s) = true := rfl
@[simp] theorem x_tyKi {T : Tab} {s : Int} : tyK T (.int s) = true := rfl
@[simp] theorem x_tyKb {T : Tab} {s : Bool} : tyK T (.bl s) = true := rfl
@[simp] theorem x_tyKn {T : Tab} : tyK T .non = true := rfl
@[simp] theorem x_tyKl {T : Tab} {s : List D} : tyK T (.lst s) = true := rfl
@[simp] theorem x_tyKt {T : Tab} {s : List D} : tyK T (.tup s) = true := rfl
def blV (o : Option D) : Option Bool := match o with | some (.bl b) => some b | _ => none
@[simp] theorem x_blVs {b : Bool} : blV (some (.bl b)) = some b := rfl
@[simp] theorem x_cmpO {T : Tab} {E : Nat → Option Fn} {c : Nat} {fs : List (Str × D)} {y : D} : cmpO T E (.obj c fs) y = fnB (E c) fun f => if tyK T y = true then blV (callV f [.obj c fs, y]) else none := by
  unfold cmpO fnB blV; rfl
@[simp] theorem x_inO {E : Nat → Option Fn} {x : D} {c : Nat} {fs : List (Str × D)} : inO E x (.obj c fs) = fnB (E c) fun f => blV (callV f [.obj c fs, x]) := by
  unfold inO fnB blV; rfl
@[simp] theorem x_mAlt {c : Rho → Bool} {m1 m2 : M} {ρ : Rho} : mAlt c m1 m2 ρ = if c ρ = true then m1 ρ else m2 ρ := rfl
/-! parallel stores -/
@[simp] theorem x_mConsN {ma : M} {mr : MA} {ρ : Rho} : mConsN ma mr ρ = bindO (ma ρ) fun a ρ1 => bindO (mr ρ1) fun as ρ2 => .ok (a :: as) ρ2 := rfl
@[simp] theorem x_stNN {ρ : Rho} : settleN [] ρ = some ([], ρ) := rfl
@[simp] theorem x_stNv {d : D} {rs : List Res} {ρ : Rho} : settleN (.val d :: rs) ρ = (settleN rs ρ).map fun p => (.val d :: p.1, p.2) := rfl
@[simp] theorem x_stNn {d : D} {rs : List Res} {ρ : Rho} : settleN (.new d :: rs) ρ = (settleN rs ρ).map fun p => (.new d :: p.1, p.2) := rfl
def stNC (o : Option (D × Rho)) (k : Rho → Option (List Res × Rho)) : Option (List Res × Rho) := match o with
  | some (d, ρ) => (k ρ).map fun p => (.val d :: p.1, p.2)
  | none => none
@[simp] theorem x_stNC {d : D} {ρ : Rho} {k : Rho → Option (List Res × Rho)} : stNC (some (d, ρ)) k = (k ρ).map fun p => (.val d :: p.1, p.2) := rfl
@[simp] theorem x_stNa {i : Nat} {rs : List Res} {ρ : Rho} : settleN (.at i :: rs) ρ = stNC (PyD.settle (.at i) ρ) fun ρ1 => settleN rs ρ1 := by
  unfold stNC
  cases h : PyD.settle (.at i) ρ <;> simp only [settleN, h] <;> rfl
@[simp] theorem x_setsN {ρ : Rho} : setsR [] [] ρ = .nx ρ := rfl
@[simp] theorem x_setsV {i : Nat} {is : List Nat} {d : D} {rs : List Res} {ρ : Rho} : setsR (i :: is) (.val d :: rs) ρ = if i < ρ.length then setsR is rs (ρ.set i (some (.val d))) else .stuck := rfl
@[simp] theorem x_setsW {i : Nat} {is : List Nat} {d : D} {rs : List Res} {ρ : Rho} : setsR (i :: is) (.new d :: rs) ρ = if i < ρ.length then setsR is rs (ρ.set i (some (.own none d))) else .stuck := rfl
@[simp] theorem x_parR {is : List Nat} {rs : List Res} {ρ : Rho} : parR is rs ρ = optS (settleN rs ρ) fun p => setsR is p.1 p.2 := by
  unfold parR optS; cases settleN rs ρ <;> rfl
@[simp] theorem x_mPar {is : List Nat} {ma : MA} {ρ : Rho} : mPar is ma ρ = bindSO (ma ρ) fun rs ρ1 => parR is rs ρ1 := rfl
/-! == -/
@[simp] theorem x_eqOb {c : Nat} {fs : List (Str × D)} {y : D} : eqD (.obj c fs) y = none := by cases y <;> rfl
@[simp] theorem x_neOb {c : Nat} {fs : List (Str × D)} {y : D} : neD (.obj c fs) y = none := by cases y <;> rfl
@[simp] theorem x_leOb {c : Nat} {fs : List (Str × D)} {y : D} : leD (.obj c fs) y = none := by cases y <;> rfl
@[simp] theorem x_eqLL {xs ys : List D} : eqD (.lst xs) (.lst ys) = (eqB (.lst xs) (.lst ys)).map fun b => .val (.bl b) := rfl
@[simp] theorem x_eqTT {xs ys : List D} : eqD (.tup xs) (.tup ys) = (eqB (.tup xs) (.tup ys)).map fun b => .val (.bl b) := rfl
@[simp] theorem x_neLL {xs ys : List D} : neD (.lst xs) (.lst ys) = (eqB (.lst xs) (.lst ys)).map fun b => .val (.bl (!b)) := rfl
@[simp] theorem x_neTT {xs ys : List D} : neD (.tup xs) (.tup ys) = (eqB (.tup xs) (.tup ys)).map fun b => .val (.bl (!b)) := rfl
@[simp] theorem x_stuckM {ρ : Rho} : mStuck ρ = .stuck := rfl
/-! data as plain data -/
@[simp] theorem x_tpN : toPy .non = some .none := by simp [toPy]
@[simp] theorem x_tpB {b : Bool} : toPy (.bl b) = some (.bool b) := by simp [toPy]
@[simp] theorem x_tpI {b : Int} : toPy (.int b) = some (.int b) := by simp [toPy]
@[simp] theorem x_tpS {b : Str} : toPy (.str b) = some (.str b) := by simp [toPy]
@[simp] theorem x_tpL {b : List D} : toPy (.lst b) = (toPys b).map .list := by simp [toPy]
@[simp] theorem x_tpT {b : List D} : toPy (.tup b) = (toPys b).map .tuple := by simp [toPy]
@[simp] theorem x_tpsN : toPys [] = some [] := by simp [toPys]
@[simp] theorem x_tpsC {d : D} {ds : List D} : toPys (d :: ds) = consO (toPy d) (toPys ds) := by
  rw [toPys]; cases toPy d <;> cases toPys ds <;> rfl
@[simp] theorem x_clN : PyData.canLay0 .none = true := by simp [PyData.canLay0]
@[simp] theorem x_clB {b : Bool} : PyData.canLay0 (.bool b) = true := by simp [PyData.canLay0]
@[simp] theorem x_clI {b : Int} : PyData.canLay0 (.int b) = true := by simp [PyData.canLay0]
@[simp] theorem x_clS {b : Str} : PyData.canLay0 (.str b) = PyData.strOk b := by simp [PyData.canLay0]
@[simp] theorem x_clL {b : List PyData} : PyData.canLay0 (.list b) = PyData.canLayAll0 b := by simp [PyData.canLay0]
@[simp] theorem x_clT {b : List PyData} : PyData.canLay0 (.tuple b) = PyData.canLayAll0 b := by simp [PyData.canLay0]
@[simp] theorem x_claN : PyData.canLayAll0 [] = true := by simp [PyData.canLayAll0]
@[simp] theorem x_claC {d : PyData} {ds : List PyData} : PyData.canLayAll0 (d :: ds) = (PyData.canLay0 d && PyData.canLayAll0 ds) := by simp [PyData.canLayAll0]
@[simp] theorem x_dpN : PyData.depth .none = 0 := by simp [PyData.depth]
@[simp] theorem x_dpB {b : Bool} : PyData.depth (.bool b) = 0 := by simp [PyData.depth]
@[simp] theorem x_dpI {b : Int} : PyData.depth (.int b) = 0 := by simp [PyData.depth]
@[simp] theorem x_dpS {b : Str} : PyData.depth (.str b) = 0 := by simp [PyData.depth]
@[simp] theorem x_dpL {b : List PyData} : PyData.depth (.list b) = PyData.depthAll b + 1 := by simp [PyData.depth]
@[simp] theorem x_dpT {b : List PyData} : PyData.depth (.tuple b) = PyData.depthAll b + 1 := by simp [PyData.depth]
@[simp] theorem x_dpaN : PyData.depthAll [] = 0 := by simp [PyData.depthAll]
@[simp] theorem x_dpaC {d : PyData} {ds : List PyData} : PyData.depthAll (d :: ds) = max (PyData.depth d) (PyData.depthAll ds) := by simp [PyData.depthAll]
@[simp] theorem x_shp {d : PyData} : SeqAt.shaped d = (d.canLay0 && decide (d.depth ≤ 64)) := rfl
@[simp] theorem x_evNN : PyData.eqv .none .none = true := by simp [PyData.eqv]
@[simp] theorem x_evII {a b : Int} : PyData.eqv (.int a) (.int b) = decide (a = b) := by simp only [PyData.eqv]; rfl
@[simp] theorem x_evSS {a b : Str} : PyData.eqv (.str a) (.str b) = decide (a = b) := by simp only [PyData.eqv]; rfl
@[simp] theorem x_evBB {a b : Bool} : PyData.eqv (.bool a) (.bool b) = decide (a = b) := by cases a <;> cases b <;> rfl
@[simp] theorem x_evSI {a : Str} {b : Int} : PyData.eqv (.str a) (.int b) = false := by simp [PyData.eqv]
@[simp] theorem x_evIS {a : Str} {b : Int} : PyData.eqv (.int b) (.str a) = false := by simp [PyData.eqv]
@[simp] theorem x_evSN {a : Str} : PyData.eqv (.str a) .none = false := by simp [PyData.eqv]
@[simp] theorem x_evNS {a : Str} : PyData.eqv .none (.str a) = false := by simp [PyData.eqv]
@[simp] theorem x_evSB {a : Str} {b : Bool} : PyData.eqv (.str a) (.bool b) = false := by simp [PyData.eqv]
@[simp] theorem x_evBS {a : Str} {b : Bool} : PyData.eqv (.bool b) (.str a) = false := by simp [PyData.eqv]
@[simp] theorem x_evIN {a : Int} : PyData.eqv (.int a) .none = false := by simp [PyData.eqv]
@[simp] theorem x_evNI {a : Int} : PyData.eqv .none (.int a) = false := by simp [PyData.eqv]
@[simp] theorem x_evBN {a : Bool} : PyData.eqv (.bool a) .none = false := by simp [PyData.eqv]
@[simp] theorem x_evNB {a : Bool} : PyData.eqv .none (.bool a) = false := by simp [PyData.eqv]
@[simp] theorem x_evLL {a b : List PyData} : PyData.eqv (.list a) (.list b) = PyData.eqvAll a b := by simp [PyData.eqv]
@[simp] theorem x_evTT {a b : List PyData} : PyData.eqv (.tuple a) (.tuple b) = PyData.eqvAll a b := by simp [PyData.eqv]
@[simp] theorem x_evLS {a : List PyData} {b : Str} : PyData.eqv (.list a) (.str b) = false := by simp [PyData.eqv]
@[simp] theorem x_evSL {a : List PyData} {b : Str} : PyData.eqv (.str b) (.list a) = false := by simp [PyData.eqv]
@[simp] theorem x_evTS {a : List PyData} {b : Str} : PyData.eqv (.tuple a) (.str b) = false := by simp [PyData.eqv]
@[simp] theorem x_evST {a : List PyData} {b : Str} : PyData.eqv (.str b) (.tuple a) = false := by simp [PyData.eqv]
@[simp] theorem x_evaN : PyData.eqvAll [] [] = true := by simp [PyData.eqvAll]
@[simp] theorem x_evaL {a : PyData} {b : List PyData} : PyData.eqvAll (a :: b) [] = false := by simp [PyData.eqvAll]
@[simp] theorem x_evaR {a : PyData} {b : List PyData} : PyData.eqvAll [] (a :: b) = false := by simp [PyData.eqvAll]
@[simp] theorem x_evaC {a c : PyData} {b d : List PyData} : PyData.eqvAll (a :: b) (c :: d) = (PyData.eqv a c && PyData.eqvAll b d) := by simp [PyData.eqvAll]
def pyB (o p : Option PyData) : Option Bool := match o, p with
  | some a, some b => if SeqAt.shaped a && SeqAt.shaped b then some (PyData.eqv a b) else none
  | _, _ => none
@[simp] theorem x_pyB {a b : PyData} : pyB (some a) (some b) = if SeqAt.shaped a && SeqAt.shaped b then some (PyData.eqv a b) else none := rfl
@[simp] theorem x_eqB {x y : D} : eqB x y = pyB (toPy x) (toPy y) := by unfold eqB pyB; rfl
def anyB (o : Option PyData) (p : Option (List PyData)) : Option Bool := match o, p with
  | some p, some ps => if SeqAt.shaped p && SeqAt.shaped (.list ps) then some (ps.any fun z => PyData.eqv z p) else none
  | _, _ => none
@[simp] theorem x_anyB {p : PyData} {ps : List PyData} : anyB (some p) (some ps) = if SeqAt.shaped p && SeqAt.shaped (.list ps) then some (ps.any fun z => PyData.eqv z p) else none := rfl
@[simp] theorem x_inD {neg : Bool} {x y : D} : inD neg x y = (inB x y).map fun b => .val (.bl (neg != b)) := rfl
@[simp] theorem x_inBl {x : D} {ys : List D} : inB x (.lst ys) = anyB (toPy x) (toPys ys) := by cases x <;> rfl
@[simp] theorem x_inBt {x : D} {ys : List D} : inB x (.tup ys) = anyB (toPy x) (toPys ys) := by
  have h : ∀ ps, SeqAt.shaped (.tuple ps) = SeqAt.shaped (.list ps) := fun ps => by simp
  have e : inB x (.tup ys) = (match toPy x, toPys ys with
    | some p, some ps => if SeqAt.shaped p && SeqAt.shaped (.tuple ps) then some (ps.any fun z => PyData.eqv z p) else none
    | _, _ => none) := by cases x <;> rfl
  rw [e]
  unfold anyB
  cases toPy x with
  | none => rfl
  | some p =>
    cases toPys ys with
    | none => rfl
    | some ps => simp only [h]
@[simp] theorem x_inBc {c : Nat} {z : Str} : inB (.str ⟨#[c]⟩) (.str z) = some (decide (c ∈ z.cps.toList)) := rfl
@[simp] theorem strOk_lit {s : String} : PyData.strOk (Str.ofString s) = true := by
  rw [Str.ofString_eq_toList]
  unfold PyData.strOk
  simp only [Array.all_eq_true', List.mem_toArray, List.mem_map, decide_eq_true_eq]
  rintro x ⟨c, _, rfl⟩
  have := c.valid
  have h : c.toNat.isValidChar := c.valid
  rcases h with h | h
  · exact Nat.lt_trans h (by decide)
  · exact h.2
theorem strOk_of {s : Str} (h : ∀ c ∈ s.cps.toList, c < 1114112) : PyData.strOk s = true := by
  unfold PyData.strOk
  simp only [Array.all_eq_true', decide_eq_true_eq]
  exact fun c hc => h c (by simpa using hc)
theorem strOk_tl {s : Str} : PyData.strOk s = s.cps.toList.all fun c => decide (c < 1114112) := by
  unfold PyData.strOk; simp
end PyD

namespace PyD
open PySem PySem.Spec PyProof.Rows L2

/-! ### enumerate(list) -/
def enumFromD : Nat → List D → List D
  | _, [] => []
  | n, x :: xs => D.tup [.int (n : Nat), x] :: enumFromD (n + 1) xs
def enumD (xs : List D) : List D := enumFromD 0 xs
theorem enumFrom_len : ∀ (n : Nat) (xs : List D), (enumFromD n xs).length = xs.length ∧ ∀ (i : Nat) x, xs[i]? = some x → (enumFromD n xs)[i]? = some (.tup [.int ((n + i : Nat) : Int), x])
  | n, [] => ⟨rfl, fun i x h => by simp at h⟩
  | n, y :: ys => by
    obtain ⟨l, g⟩ := enumFrom_len (n + 1) ys
    refine ⟨by simp [enumFromD, l], fun i x h => ?_⟩
    cases i with
    | zero => simp at h; subst h; simp [enumFromD]
    | succ i =>
      have := g i x (by simpa using h)
      simp only [enumFromD, List.getElem?_cons_succ, this]
      rw [show n + 1 + i = n + (i + 1) by omega]
theorem enumD_len (xs : List D) : (enumD xs).length = xs.length ∧ ∀ (i : Nat) x, xs[i]? = some x → (enumD xs)[i]? = some (.tup [.int (i : Nat), x]) := by
  obtain ⟨h1, h2⟩ := enumFrom_len 0 xs
  exact ⟨h1, fun i x h => by have := h2 i x h; rwa [Nat.zero_add] at this⟩
theorem wlk_enum {G : Gx} {F : Hp} {a : Addr} {vs : List V} {ds : List D} (h : F a = some (.lst vs)) (t : DpL G F vs ds) : Wlk G (Ite G.K a) F (enumD ds) := by
  obtain ⟨l, g⟩ := enumD_len ds
  refine ⟨fun i H s hi => ⟨vs, vs[i]'(by rw [t.length, ← l]; exact hi), SqL.of (s _ _ h), by simp⟩, fun i H x H' s hi ⟨T, y, ex, hT, hH, q⟩ => ?_, fun i H s hi => ⟨vs, SqL.of (s _ _ h), by rw [t.length, ← l]; exact hi⟩⟩
  obtain ⟨d, h1, h2⟩ := t.getV (q vs (SqL.of (s _ _ h)))
  subst ex hH
  exact ⟨_, g i d h1, fun F1 s1 s2 => ⟨upd F1 T (.tup [.int (i : Nat), y]), .tup s2 hT, .tup (SqT.of upd_same) (.cons (.int _) (.cons ((h2.mono s1).mono (Alc.tup (o := .tup [.int (i : Nat), y]) s2 hT).subF) .nil))⟩⟩
def iEnm (ma : MA) : MI := fun ρ => bindO (ma ρ) fun rs ρ1 => match settles rs ρ1 with
  | some ([.lst xs], ρ2) => .ok (enumD xs) ρ2
  | _ => .stuck
section
variable {X : Cx} {Γ : Gm} {W : WX} {e tg : Expr} {m : M} {ma : MA} {pos p : Pos}
theorem ji_enum {a : Expr} {elts : List Expr} {kk : Nat} {tpos : Pos} (hK : X.K = Γ.G.K) (hm : X.mg "enumerate" = none) (ha : PA X [a] (tMA Γ W ma)) (hg : Gl X "enumerate" := by rfl) (hs : starEach [a] X.env = [(false, eval a X.env)] := by rfl) : PI X (.Tuple elts kk tpos) (.Call (.Name "enumerate" p) [a] [] pos) (iM Γ W (iEnm ma)) :=
  (pi_enum hg hm ha hs).imp fun σ H R ⟨ρ, F, Rl, h⟩ => ⟨ρ, F, Rl, iM_bindA h (fun rs ρ1 vs F1 H1 s1 hr hk ⟨ds, ρ2, ek⟩ => by
    have hk := hk ds ρ2 ek
    split at ek
    · rename_i xs ρ3 er
      cases ek
      obtain ⟨F2, s2, hd⟩ := settles_ok s1.rel hr er
      cases hd with
      | cons h1 t =>
        cases t
        cases h1 with
        | lst hq t => exact ⟨_, _, rfl, SqL.of (s2.rel.sub _ _ hq), hk _ F2 H1 s2 (hK ▸ wlk_enum hq t)⟩
    · cases ek) (fun r ρ1 => by
    split
    · exact .inl ⟨_, _, rfl⟩
    · exact .inr rfl)⟩
end
/-! ### sorted(list of texts) -/
theorem ltC_irr : ∀ a : List Nat, ltCps a a = false
  | [] => rfl
  | x :: a => by simp [ltCps, ltC_irr a]
theorem ltC_tri : ∀ a b : List Nat, ltCps a b = true ∨ a = b ∨ ltCps b a = true
  | [], [] => .inr (.inl rfl)
  | [], _ :: _ => .inl rfl
  | _ :: _, [] => .inr (.inr rfl)
  | x :: a, y :: b => by
    simp only [ltCps, Bool.or_eq_true, decide_eq_true_eq, Bool.and_eq_true, beq_iff_eq]
    rcases Nat.lt_trichotomy x y with h | h | h
    · exact .inl (.inl h)
    · subst h
      rcases ltC_tri a b with q | q | q
      · exact .inl (.inr ⟨rfl, q⟩)
      · exact .inr (.inl (by rw [q]))
      · exact .inr (.inr (.inr ⟨rfl, q⟩))
    · exact .inr (.inr (.inl h))
theorem ltC_trans : ∀ a b c : List Nat, ltCps a b = true → ltCps b c = true → ltCps a c = true
  | [], [], _, h, _ => by cases h
  | [], _ :: _, [], _, h => by cases h
  | [], _ :: _, _ :: _, _, _ => rfl
  | _ :: _, [], _, h, _ => by cases h
  | _ :: _, _ :: _, [], _, h => by cases h
  | x :: a, y :: b, z :: c, h1, h2 => by
    simp only [ltCps, Bool.or_eq_true, decide_eq_true_eq, Bool.and_eq_true, beq_iff_eq] at h1 h2 ⊢
    rcases h1 with h1 | ⟨e1, h1⟩ <;> rcases h2 with h2 | ⟨e2, h2⟩
    · exact .inl (by omega)
    · exact .inl (by omega)
    · exact .inl (by omega)
    · exact .inr ⟨by omega, ltC_trans a b c h1 h2⟩
theorem ltC_asym {a b : List Nat} (h : ltCps a b = true) : ltCps b a = false := by
  cases q : ltCps b a with
  | false => rfl
  | true => have := ltC_trans a b a h q; rw [ltC_irr] at this; cases this
def ltS (a b : Str) : Bool := ltCps a.cps.toList b.cps.toList
def insS (x : Str) : List Str → List Str
  | [] => [x]
  | y :: ys => if ltS y x = true then y :: insS x ys else x :: y :: ys
def sortS : List Str → List Str
  | [] => []
  | x :: xs => insS x (sortS xs)
theorem insS_perm (x : Str) : ∀ ys : List Str, (insS x ys).Perm (x :: ys)
  | [] => .refl _
  | y :: ys => by
    unfold insS
    split
    · exact ((insS_perm x ys).cons y).trans (.swap x y ys)
    · exact .refl _
theorem sortS_perm : ∀ xs : List Str, (sortS xs).Perm xs
  | [] => .refl _
  | x :: xs => (insS_perm x (sortS xs)).trans ((sortS_perm xs).cons x)
abbrev leS (a b : Str) : Prop := ltS b a = false
theorem str_cps {a b : Str} (h : a.cps.toList = b.cps.toList) : a = b := by
  obtain ⟨⟨a⟩⟩ := a
  obtain ⟨⟨b⟩⟩ := b
  simp only at h; subst h; rfl
theorem leS_anti {a b : Str} (h1 : leS a b) (h2 : leS b a) : a = b := by
  unfold leS ltS at h1 h2
  rcases ltC_tri a.cps.toList b.cps.toList with h | h | h
  · rw [h] at h2; cases h2
  · exact str_cps h
  · rw [h] at h1; cases h1
theorem leS_trans {a b c : Str} (h1 : leS a b) (h2 : leS b c) : leS a c := by
  unfold leS ltS at *
  cases q : ltCps c.cps.toList a.cps.toList with
  | false => rfl
  | true =>
    rcases ltC_tri a.cps.toList b.cps.toList with h | h | h
    · have := ltC_trans _ _ _ q h; rw [this] at h2; cases h2
    · rw [h] at q; rw [q] at h2; cases h2
    · rw [h] at h1; cases h1
theorem insS_mem {x z : Str} {ys : List Str} (h : z ∈ insS x ys) : z = x ∨ z ∈ ys := by
  have := (insS_perm x ys).mem_iff.mp h
  simpa using this
theorem insS_pw (x : Str) : ∀ ys : List Str, ys.Pairwise leS → (insS x ys).Pairwise leS
  | [], _ => by simp [insS]
  | y :: ys, h => by
    obtain ⟨h1, h2⟩ := List.pairwise_cons.mp h
    unfold insS
    split
    · rename_i q
      refine List.pairwise_cons.mpr ⟨fun z hz => ?_, insS_pw x ys h2⟩
      rcases insS_mem hz with e | e
      · subst e; exact ltC_asym q
      · exact h1 z e
    · rename_i q
      have q : leS x y := by cases w : ltS y x with | true => exact absurd w q | false => exact w
      refine List.pairwise_cons.mpr ⟨fun z hz => ?_, h⟩
      rcases List.mem_cons.mp hz with e | e
      · subst e; exact q
      · exact leS_trans q (h1 z e)
theorem sortS_pw : ∀ xs : List Str, (sortS xs).Pairwise leS
  | [] => .nil
  | x :: xs => insS_pw x _ (sortS_pw xs)
theorem rising_pw : ∀ (p : Str) (xs : List Str), risingS p xs = true → (p :: xs).Pairwise leS
  | p, [], _ => by simp
  | p, x :: xs, h => by
    simp only [risingS, Bool.and_eq_true, Bool.not_eq_true'] at h
    have ih := rising_pw x xs h.2
    obtain ⟨h1, h2⟩ := List.pairwise_cons.mp ih
    refine List.pairwise_cons.mpr ⟨fun z hz => ?_, ih⟩
    rcases List.mem_cons.mp hz with e | e
    · subst e; exact h.1
    · exact leS_trans (show leS p x from h.1) (h1 z e)
theorem sorted_pw : ∀ xs : List Str, sortedS xs = true → xs.Pairwise leS
  | [], _ => .nil
  | x :: xs, h => rising_pw x xs h
theorem sorted_is {xs ys : List Str} (p : ys.Perm xs) (h : sortedS ys = true) : ys = sortS xs :=
  List.Perm.eq_of_pairwise (le := leS) (fun _ _ _ _ => leS_anti) (sorted_pw ys h) (sortS_pw xs) (p.trans (sortS_perm xs).symm)
def sortedD : List D → Option Res
  | [.lst xs] => match strsD xs with
    | some ss => if ss.length < 64 then some (.new (.lst ((sortS ss).map .str))) else none
    | none => none
  | _ => none
theorem dpl_strs {G : Gx} {F : Hp} : ∀ ss : List Str, DpL G F (ss.map V.str) (ss.map D.str)
  | [] => .nil
  | s :: ss => .cons (.str s) (dpl_strs ss)
theorem sortedD_ok {G : Gx} : CallOk G (rSortedS G.K) sortedD := by
  intro F H xs ds res Q e v q k
  unfold sortedD at q
  split at q
  · rename_i ys
    split at q
    · rename_i ss e1
      split at q
      · rename_i w
        cases q
        obtain ⟨x, rfl, vx⟩ := v.one
        obtain ⟨a, vs, rfl, h1, t⟩ := vx.lst e
        refine ⟨a, ss, rfl, by rw [← strs_ok t e1]; exact SqL.of h1, w, fun zs p hp hs hn => ?_⟩
        rw [sorted_is hp hs]
        exact k _ F _ (.cell e hn) ⟨p, rfl, Same.free e hn, ⟨_, upd_same, dpl_strs _⟩, hn⟩
      · cases q
    · cases q
  · cases q
/-! ### dict(d) -/
def dictD : List D → Option Res
  | [.dct kvs] => some (.new (.dct kvs))
  | _ => none
theorem dictD_ok {G : Gx} : CallOk G (fun xs H Q => ∃ (a : Addr) (kvs : List (Key × V)), xs = [.ref a] ∧ Rd H a (.dK kvs) ∧ ∀ p, H p = none → Q (.ref p) (upd H p (.dK kvs))) dictD := by
  intro F H xs ds res Q e v q k
  unfold dictD at q
  split at q
  · rename_i kvs
    cases q
    obtain ⟨x, rfl, vx⟩ := v.one
    obtain ⟨a, vs, rfl, h1, t⟩ := vx.dct e
    exact ⟨a, vs, rfl, .inl h1, fun p hn => k _ F _ (.cell e hn) ⟨p, rfl, Same.free e hn, ⟨_, upd_same, t⟩, hn⟩⟩
  · cases q
end PyD

namespace PyD
open PySem PySem.Spec PyProof.Rows L2

/-! ### {k: v, ..}: written keys -/
def mergeD (kvs more : List (Key × D)) : List (Key × D) := more.foldl (fun acc kv => putKD acc kv.1 kv.2) kvs
theorem dpk_merge {G : Gx} {F : Hp} : ∀ {ks : List Key} {vs : List V} {ds : List D} {as : List (Key × V)} {bs : List (Key × D)}, DpL G F vs ds → DpK G F as bs → DpK G F (mergeK as (ks.zip vs)) (mergeD bs (ks.zip ds))
  | [], _, _, _, _, _, h => by simpa [mergeK, mergeD] using h
  | k :: ks, _, _, _, _, .nil, h => by simpa [mergeK, mergeD] using h
  | k :: ks, _, _, _, _, .cons hv t, h => by
    simp only [List.zip_cons_cons, mergeK, mergeD, List.foldl_cons]
    exact dpk_merge (ks := ks) t (h.put hv)
def dctR (ks : List Key) (rs : List Res) (ρ : Rho) : Out Res := match settles rs ρ with
  | some (ds, ρ2) => .ok (.new (.dct (mergeD [] (ks.zip ds)))) ρ2
  | none => .stuck
def mDct (ks : List Key) (ma : MA) : M := fun ρ => bindO (ma ρ) fun rs ρ1 => dctR ks rs ρ1
def tDF (Γ : Gm) (W : WX) (m : M) : TE := fun σ H Q => ∃ D, tF (Γ.also D) W m σ H Q
structure JP (X : Cx) (Γ : Gm) (W : WX) (pos : Pos) (keys : List (Option Expr)) (values : List Expr) (ks : List Key) (ma : MA) : Prop where
  ex : ∃ trs, PPs X pos keys values trs ∧ ∀ D σ H Q, tMA (Γ.also D) W ma σ H (fun vs H' => Q ((ks.zip vs).map fun kv => (kV kv.1, kv.2)) H') → tPairs trs σ H Q
  kl : keys.length = ks.length
section
variable {X : Cx} {Γ : Gm} {W : WX} {pos : Pos} {keys : List (Option Expr)} {values : List Expr} {ks : List Key} {ma : MA} {k v : Expr} {m : M} {key : Key}
theorem jp_nil : JP X Γ W pos [] [] [] mNil := ⟨⟨[], pps_nil, fun D σ H Q ⟨ρ, F, R, p⟩ => p [] F H (.refl R) .nil⟩, rfl⟩
theorem jp_cons (hk : PE X k (tC (kV key))) (hv : ∀ D, PE X v (tM (Γ.also D) W m)) (hr : JP X Γ W pos keys values ks ma) : JP X Γ W pos (some k :: keys) (v :: values) (key :: ks) (mCons m ma) := by
  obtain ⟨trs, h1, h2⟩ := hr.ex
  refine ⟨⟨(tC (kV key), tDF Γ W m) :: trs, pps_cons hk ⟨fun pins s σ H Q I ⟨D, q⟩ => (je_f (hv D)).run pins s σ H Q I q⟩ h1, fun D σ H Q q => ?_⟩, by simp [hr.kl]⟩
  obtain ⟨ρ, F, R, p⟩ := q
  refine ⟨D, ρ, F, R, p.bindF fun r ρ1 v F1 H1 s1 hr p1 => ?_⟩
  exact h2 D σ H1 (fun ps H2 => Q ((kV key, v) :: ps) H2) ⟨ρ1, F1, s1.rel, p1.bindA fun rs ρ2 vs F2 H2 s2 hrs p2 => p2 (v :: vs) F2 H2 (.refl s2.rel) (.cons (hr.mono s2.subF) hrs)⟩
theorem je_dict (h : JP X Γ W pos keys values ks ma) (h0 : keys ≠ [] := by simp) (h15 : keys.length ≤ 15 := by decide) (hall : keys.all (·.isSome) = true := by rfl) (hl : keys.length = values.length := by rfl) : PE X (.Dict keys values pos) (tM Γ W (mDct ks ma)) := by
  obtain ⟨trs, h1, h2⟩ := h.ex
  refine (pe_disp h1 hall hl h0 h15).imp fun σ H Q ⟨ρ, F, R, pp⟩ p hp => ?_
  have uD : ¬ Γ.U p := fun z => by
    obtain ⟨_, u, hu⟩ := R.ali p z; rw [hp] at hu; cases hu
  have n0 : ¬ Own Γ ρ σ F H p := fun ⟨j, z⟩ => by
    obtain ⟨u, hu⟩ := Rel.ownH z; rw [hp] at hu; cases hu
  obtain ⟨s0, n1⟩ := (Stp.refl R).out (o := .dK []) hp uD (Same.free R.sub hp) n0
  have R1 := s0.rel.also (Same.free R.sub hp) upd_same n1
  refine h2 p σ _ _ ⟨ρ, F, R1, ?_⟩
  unfold mDct at pp
  cases e : ma ρ with
  | ok rs ρ1 =>
    rw [e] at pp
    simp only [bindO] at pp
    intro vs F1 H1 s1 hr
    unfold dctR at pp
    split at pp
    · rename_i ds ρ2 es
      obtain ⟨F2, s2, hd⟩ := settles_ok s1.rel hr es
      obtain ⟨u1, u2, u3, u4⟩ := (s1.trans s2).unalso
      have st := s0.trans u1
      refine ⟨by rw [u2, upd_same], ks.zip vs, rfl, by rw [List.length_zip, ← h.kl]; omega, ?_⟩
      obtain ⟨so, no⟩ := st.out (o := .dK (mergeK [] (ks.zip vs))) hp uD u3 u4
      refine pp _ F2 _ so ⟨p, [p], rfl, .flat ⟨_, upd_same, dpk_merge hd .nil⟩, fun b hb => ?_⟩
      obtain rfl : b = p := by simpa using hb
      exact ⟨u3, uD, no⟩
    · exact pp.elim
  | exc x ρ1 =>
    rw [e] at pp
    exact fun d F' H' s q => pp d F' H' (s0.trans s.unalso.1) q
  | stuck => rw [e] at pp; exact pp.elim
end
end PyD

namespace PyD
open PySem PySem.Spec PyProof.Rows L2

/-! ### {k: v for ..} -/
def keyR : Res → Option Key
  | .val d => keyD d
  | _ => none
def dcD (vs : List Nat) (f : Tg) (t : MB) (mk mv : M) : List D → List (Key × D) → Rho → Out (List (Key × D))
  | [], acc, ρ => .ok acc ρ
  | d :: ds, acc, ρ => match f d ρ with
    | some ρ1 => (match t ρ1 with
      | .ok true ρ2 => (match mk ρ2 with
        | .ok rk ρ3 => (match keyR rk.frz with
          | some k => (match mv ρ3 with
            | .ok r ρ4 => (match settle r.frz ρ4 with
              | some (y, ρ5) => if acc.length < sizeLine then dcD vs f t mk mv ds (putKD acc k y) (wipeR ρ5 vs) else .stuck
              | none => .stuck)
            | _ => .stuck)
          | none => .stuck)
        | _ => .stuck)
      | .ok false ρ2 => dcD vs f t mk mv ds acc (wipeR ρ2 vs)
      | _ => .stuck)
    | none => .stuck
def mDc (vs : List Nat) (mi : MI) (f : Tg) (t : MB) (mk mv : M) : M := fun ρ => bindO (mi ρ) fun ds ρ1 => match dcD vs f t mk mv ds [] (wipeR ρ1 vs) with
  | .ok acc ρ2 => .ok (.new (.dct acc)) ρ2
  | _ => .stuck
theorem dc_ok {Γ : Gm} {g : TG} {f : Tg} {t : MB} {mk mv : M} {vs : List Nat} {J : It} {ds : List D} {acc : List (Key × D)} {ρ ρ2 : Rho} {σ : St} {F H : Hp} {Qd : Addr → Hp → Prop} (hf : ∀ D, TgV (Γ.also D) g f vs) (R : Rel Γ ρ σ F H) (w : Wlk Γ.G J F ds) (e : dcD vs f t mk mv ds [] (wipeR ρ vs) = .ok acc ρ2)
    (k : ∀ D F' H', Stp Γ ρ σ F H ρ2 σ F' H' → Cell Γ.G F' H' D (.dct acc) → Fresh Γ ρ2 σ F' H' [D] → Qd D H') :
    ∀ D, H D = none → ∃ V : Nat → Nat → Hp → Prop, (∃ m, V 0 m (upd H D (.dK []))) ∧ ∀ i m H, V i m H →
      (J.stop i H ∧ Qd D H) ∨ (J.go i H ∧ ∃ Nx : Hp → Prop, (∀ H', Nx H' → ∃ m', m' < m ∧ V (i + 1) m' H') ∧ ∀ x H', J.yld i H x H' → g x (wipe σ vs) H' fun σ2 H2 => wipe σ2 vs = wipe σ vs ∧ tAB Γ t σ2 H2 fun b H3 =>
        if b = true then (tAF Γ mk σ2 H3 fun y H4 => tAF Γ mv σ2 H4 fun z H5 => ∃ kvs k, y = kV k ∧ H5 D = some (.dK kvs) ∧ kvs.length < sizeLine ∧ Nx (upd H5 D (.dK (putK kvs k z)))) else Nx H3) := by
  intro D hD
  have wl : (wipe σ vs).length = σ.length := wipe_length σ vs
  have s0 : Stp Γ ρ σ F H (wipeR ρ vs) (wipe σ vs) F H := (Stp.refl R).wipe (fun i hi => wipe_out hi) wl
  have uD : ¬ Γ.U D := fun z => by
    obtain ⟨_, u, hu⟩ := R.ali D z; rw [hD] at hu; cases hu
  have nD0 : ¬ Own Γ (wipeR ρ vs) (wipe σ vs) F H D := fun ⟨j, z⟩ => by
    obtain ⟨u, hu⟩ := Rel.ownH z; rw [hD] at hu; cases hu
  let St' : Nat → Hp → Prop := fun i H' => ∃ ρ' F' ac av, Stp Γ ρ σ F H ρ' (wipe σ vs) F' H' ∧ wipeR ρ' vs = ρ' ∧ H' D = some (.dK av) ∧ F' D = none ∧ ¬ Own Γ ρ' (wipe σ vs) F' H' D ∧ DpK Γ.G F' av ac ∧ dcD vs f t mk mv (ds.drop i) ac ρ' = .ok acc ρ2
  obtain ⟨s0', nD0'⟩ := s0.out (o := .dK []) hD uD (Same.free R.sub hD) nD0
  refine ⟨fun i m H' => m = ds.length - i ∧ i ≤ ds.length ∧ St' i H', ⟨ds.length, by simp, Nat.zero_le _, wipeR ρ vs, F, [], [], s0', wipeR_idem ρ vs, upd_same, Same.free R.sub hD, nD0', .nil, by simpa using e⟩, ?_⟩
  rintro i m H1 ⟨rfl, hi, ρ1, F1, ac, av, s1, wρ, hD1, fD1, nD1, dp, e1⟩
  have wF := w.mono s1.subF
  by_cases hlt : i < ds.length
  · refine .inr ⟨wF.go i H1 s1.rel.sub hlt, St' (i + 1), fun H2 q => ⟨ds.length - (i + 1), by omega, rfl, hlt, q⟩, fun x H2 y => ?_⟩
    obtain ⟨d, hd, hy⟩ := wF.yld i H1 x H2 s1.rel.sub hlt y
    obtain ⟨F2, al, dpx⟩ := hy F1 (Same.refl _) s1.rel.sub
    have ed : ds.drop i = d :: ds.drop (i + 1) := by
      rw [List.getElem?_eq_getElem hlt] at hd
      rw [← Option.some.inj hd]
      exact List.drop_eq_getElem_cons hlt
    rw [ed] at e1
    simp only [dcD] at e1
    cases ef : f d ρ1 with
    | none => rw [ef] at e1; cases e1
    | some ρ3 =>
      rw [ef] at e1
      simp only at e1
      have R1 : Rel (Γ.also D) ρ1 (wipe σ vs) F1 H1 := s1.rel.also fD1 hD1 nD1
      have s2 := al.stp R1
      refine hf D x d ρ1 ρ3 (wipe σ vs) F2 H2 _ s2.rel dpx ef fun σ3 s3 w3 l3 => ⟨wipe_idem w3 l3, D, ρ3, F2, s3.rel, ?_⟩
      have s13 := s2.trans s3
      cases et : t ρ3 with
      | ok b ρ4 =>
        rw [et] at e1
        intro F4 H4 s4
        have s14 := s13.trans s4
        cases b with
        | true =>
          simp only at e1
          simp only [if_true]
          refine ⟨D, ρ4, F4, s4.rel, ?_⟩
          cases em : mk ρ4 with
          | ok rk ρ5 =>
            rw [em] at e1
            simp only at e1
            cases ek : keyR rk.frz with
            | none => rw [ek] at e1; cases e1
            | some key =>
              rw [ek] at e1
              simp only at e1
              intro yk F5 H5 s5 hk5
              refine ⟨D, ρ5, F5, s5.rel, ?_⟩
              have s15 := s14.trans s5
              have eyk : yk = kV key := by
                unfold keyR at ek
                split at ek
                · rename_i dk er
                  rw [er] at hk5
                  exact keyD_ok (F := F5) (H := H5) (View.of hk5) ek
                · cases ek
              cases ev : mv ρ5 with
              | ok r ρ6 =>
                rw [ev] at e1
                simp only at e1
                cases es : settle r.frz ρ6 with
                | none => rw [es] at e1; cases e1
                | some p =>
                  obtain ⟨yd, ρ7⟩ := p
                  rw [es] at e1
                  simp only at e1
                  split at e1
                  · rename_i hz
                    intro v F6 H6 s6 hv
                    obtain ⟨F7, s7, hd7⟩ := settle_ok s6.rel hv es
                    have s17 := (s15.trans s6).trans s7
                    obtain ⟨u1, u2, u3, u4⟩ := s17.unalso
                    refine ⟨av, key, eyk, by rw [u2]; exact hD1, by rw [dp.length]; exact hz, ?_⟩
                    have sw := (s1.trans u1).wipe (vs := vs) (σ' := wipe σ vs) (fun j hj => (w3 j hj).symm) l3.symm
                    have nO : ¬ Own Γ (wipeR ρ7 vs) (wipe σ vs) F7 H6 D := fun z => u4 ((u1.rel.wipe (vs := vs) (σ' := wipe σ vs) (fun j hj => (w3 j hj).symm) l3.symm).2 D z)
                    obtain ⟨so, no⟩ := sw.out (o := .dK (putK av key v)) hD uD u3 nO
                    exact ⟨wipeR ρ7 vs, F7, putKD ac key yd, putK av key v, so, wipeR_idem ρ7 vs, upd_same, u3, no, (dp.mono s17.subF).put hd7, e1⟩
                  · cases e1
              | exc x ρ6 => rw [ev] at e1; cases e1
              | stuck => rw [ev] at e1; cases e1
          | exc x ρ5 => rw [em] at e1; cases e1
          | stuck => rw [em] at e1; cases e1
        | false =>
          simp only at e1
          simp only [Bool.false_eq_true, if_false]
          obtain ⟨u1, u2, u3, u4⟩ := s14.unalso
          have sw := (s1.trans u1).wipe (vs := vs) (σ' := wipe σ vs) (fun j hj => (w3 j hj).symm) l3.symm
          exact ⟨wipeR ρ4 vs, F4, ac, av, sw, wipeR_idem ρ4 vs, by rw [u2]; exact hD1, u3, fun z => u4 ((u1.rel.wipe (vs := vs) (σ' := wipe σ vs) (fun j hj => (w3 j hj).symm) l3.symm).2 D z), dp.mono s14.subF, e1⟩
      | exc x ρ4 => rw [et] at e1; cases e1
      | stuck => rw [et] at e1; cases e1
  · have ei : i = ds.length := by omega
    subst ei
    rw [List.drop_length] at e1
    simp only [dcD, Out.ok.injEq] at e1
    obtain ⟨rfl, rfl⟩ := e1
    have sw : Stp Γ ρ σ F H ρ1 σ F1 H1 := by
      have q := s1.wipe (vs := vs) (σ' := σ) (fun j hj => (wipe_out hj).symm) wl.symm
      rwa [wρ] at q
    refine .inl ⟨wF.stop _ H1 s1.rel.sub (Nat.le_refl _), k D F1 H1 sw ⟨av, hD1, dp⟩ fun b hb => ?_⟩
    obtain rfl : b = D := by simpa using hb
    refine ⟨fD1, uD, fun z => ?_⟩
    have q := (s1.rel.wipe (vs := vs) (σ' := σ) (fun j hj => (wipe_out hj).symm) wl.symm).2 b
    rw [wρ] at q
    exact nD1 (q z)
section
variable {X : Cx} {Γ : Gm} {W : WX} {kx vx tg iter : Expr} {ifs : List Expr} {scope : Scope} {own : List (Str × Nat)} {pos spos : Pos} {mi : MI} {g : TG} {f : Tg} {t : MB} {mk mv : M}
theorem je_dc (hc : X.calm = true) (hN : X.N.Nodup) (hi : PI X tg iter (iM Γ W mi)) (ok : BlkOk X.N X.env.scope scope own) (hf : ∀ D, TgV (Γ.also D) g f (own.map (·.2)))
    (hg : ∀ (s : Shared) (H : Hp) (C : Addr) (cl : List (Str × Addr)) (fp : List Addr), PG (X.blk s H scope (compEnvC scope cl C X.env) fp) tg g) (ht : ∀ (D : Addr) (s : Shared) (H : Hp) (C : Addr) (cl : List (Str × Addr)) (fp : List Addr), PTs (X.blk s H scope (compEnvC scope cl C X.env) fp) ifs (tMB (Γ.also D) W0 t))
    (hk : ∀ (D : Addr) (s : Shared) (H : Hp) (C : Addr) (cl : List (Str × Addr)) (fp : List Addr), PE (X.blk s H scope (compEnvC scope cl C X.env) fp) kx (tM (Γ.also D) W0 mk))
    (hv : ∀ (D : Addr) (s : Shared) (H : Hp) (C : Addr) (cl : List (Str × Addr)) (fp : List Addr), PE (X.blk s H scope (compEnvC scope cl C X.env) fp) vx (tM (Γ.also D) W0 mv)) (hs : ∀ x, foldedSetIterable iter X.env x = pure x := by intro _; rfl) :
    PE X (.DictComp kx vx [⟨tg, iter, ifs, 0⟩] scope pos) (tM Γ W (mDc (own.map (·.2)) mi f t mk mv)) :=
  (pe_dc hc hN hi ok hg (fun s H C cl fp => pts_any fun D => ht D s H C cl fp) (fun s H C cl fp => pe_any fun D => hk D s H C cl fp) (fun s H C cl fp => pe_any fun D => hv D s H C cl fp) hs).imp fun σ H Q ⟨ρ, F, R, p⟩ => by
    refine ⟨ρ, F, R, ?_⟩
    unfold mDc at p
    cases e : mi ρ with
    | ok ds ρ1 =>
      rw [e] at p
      simp only [bindO] at p
      intro J F1 H1 s1 w
      split at p
      · rename_i acc ρ2 el
        exact dc_ok (Qd := fun D H' => Q (.ref D) H') hf s1.rel w el fun D F' H' s2 c fr => p _ F' H' (s1.trans s2) ⟨D, [D], rfl, .flat c, fr⟩
      · exact p.elim
    | exc x ρ1 => rw [e] at p; exact p
    | stuck => rw [e] at p; exact p.elim
end
end PyD

namespace PyD
open PySem PySem.Spec PyProof.Rows L2

/-! ### a dict that is walked is locked -/
section
variable {G : Gx} {F H : Hp} {d : Addr} {od : Obj} {kv : List (Key × V)}
theorem sqT_del {K : PySem.W.Frag} {a : Addr} {xs : List V} (hd : F d = some (.frz od (.dK kv))) (h : SqT K F a xs) : SqT K (del F d) a xs := by
  rcases h with (h | ⟨o, h⟩) | h
  · exact .inl (.inl (by rw [del_ne (fun z : a = d => by rw [z, hd] at h; cases h)]; exact h))
  · exact .inl (.inr ⟨o, by rw [del_ne (fun z : a = d => by rw [z, hd] at h; cases h)]; exact h⟩)
  · exact .inr h
theorem sqL_del {K : PySem.W.Frag} {a : Addr} {xs : List V} (hd : F d = some (.frz od (.dK kv))) (h : SqL K F a xs) : SqL K (del F d) a xs := by
  rcases h with (h | ⟨o, h⟩) | h
  · exact .inl (.inl (by rw [del_ne (fun z : a = d => by rw [z, hd] at h; cases h)]; exact h))
  · exact .inl (.inr ⟨o, by rw [del_ne (fun z : a = d => by rw [z, hd] at h; cases h)]; exact h⟩)
  · exact .inr h
theorem dp_del (hd : F d = some (.frz od (.dK kv))) {v : V} {x : D} (h : Dp G F v x) : Dp G (del F d) v x := by
  refine Dp.rec (motive_1 := fun v x _ => Dp G (del F d) v x) (motive_2 := fun v x _ => DpL G (del F d) v x) (motive_3 := fun v x _ => DpK G (del F d) v x) (motive_4 := fun v x _ => DpF G (del F d) v x)
    .non .bl .int .str .ty (fun {a vs ds} h _ i => .lst (by rw [del_ne (fun z : a = d => by rw [z, hd] at h; cases h)]; exact h) i) (fun h _ i => .tup (sqT_del hd h) i) (fun h => .scr (sqL_del hd h))
    (fun {a vs ds} h _ i => .dct (by rw [del_ne (fun z : a = d => by rw [z, hd] at h; cases h)]; exact h) i) (fun {a dx c vs ds} h _ i => .obj (by rw [del_ne (fun z : a = d => by rw [z, hd] at h; cases h)]; exact h) i) .cls .fn .nil (fun _ _ i j => .cons i j) .nil (fun _ _ i j => .cons i j) .nil (fun _ _ i j => .cons i j) h
theorem dpl_del (hd : F d = some (.frz od (.dK kv))) : ∀ {vs : List V} {ds : List D}, DpL G F vs ds → DpL G (del F d) vs ds
  | _, _, .nil => .nil
  | _, _, .cons h t => .cons (dp_del hd h) (dpl_del hd t)
theorem dpk_del (hd : F d = some (.frz od (.dK kv))) : ∀ {vs : List (Key × V)} {ds : List (Key × D)}, DpK G F vs ds → DpK G (del F d) vs ds
  | _, _, .nil => .nil
  | _, _, .cons h t => .cons (dp_del hd h) (dpk_del hd t)
theorem dpf_del (hd : F d = some (.frz od (.dK kv))) : ∀ {vs : List (Str × V)} {ds : List (Str × D)}, DpF G F vs ds → DpF G (del F d) vs ds
  | _, _, .nil => .nil
  | _, _, .cons h t => .cons (dp_del hd h) (dpf_del hd t)
theorem cell_del {H' : Hp} {a : Addr} {x : D} (hd : F d = some (.frz od (.dK kv))) (k : ∀ o, H a = some o → H' a = some o) (c : Cell G F H a x) : Cell G (del F d) H' a x := by
  cases x with
  | lst ds => obtain ⟨vs, h, t⟩ := c; exact ⟨vs, k _ h, dpl_del hd t⟩
  | dct ds => obtain ⟨vs, h, t⟩ := c; exact ⟨vs, k _ h, dpk_del hd t⟩
  | obj c fs => obtain ⟨dx, vs, h, t⟩ := c; exact ⟨dx, vs, k _ h, dpf_del hd t⟩
  | _ => exact c.elim
theorem ct_del {H' : Hp} {a : Addr} {x : D} {L : List Addr} (hd : F d = some (.frz od (.dK kv))) (h : Ct G F H a x L) : (∀ b ∈ L, ∀ o, H b = some o → H' b = some o) → Ct G (del F d) H' a x L := by
  refine Ct.rec (motive_1 := fun v x L _ => (∀ b ∈ L, ∀ o, H b = some o → H' b = some o) → Kd G (del F d) H' v x L) (motive_2 := fun a x L _ => (∀ b ∈ L, ∀ o, H b = some o → H' b = some o) → Ct G (del F d) H' a x L) (motive_3 := fun v x L _ => (∀ b ∈ L, ∀ o, H b = some o → H' b = some o) → KdL G (del F d) H' v x L) ?_ ?_ ?_ ?_ ?_ ?_ ?_ ?_ h
  · intro v x h k; exact .fz (dp_del hd h)
  · intro a x L h i k; exact .ow (i k)
  · intro a x c k; exact .flat (cell_del hd (fun o q => k a (List.mem_cons_self ..) o q) c)
  · intro a vs ds L h t n i k; exact .lst (k _ (List.mem_cons_self ..) _ h) (i fun b hb => k b (List.mem_cons_of_mem _ hb)) n
  · intro a vs ds L h e t n i k; exact .dct (k _ (List.mem_cons_self ..) _ h) e (i fun b hb => k b (List.mem_cons_of_mem _ hb)) n
  · intro a dx c vs ds L h e t n i k; exact .obj (k _ (List.mem_cons_self ..) _ h) e (i fun b hb => k b (List.mem_cons_of_mem _ hb)) n
  · intro k; exact .nil
  · intro v x vs ds L1 L2 h t dj i1 i2 k
    exact .cons (i1 fun b hb => k b (List.mem_append_left _ hb)) (i2 fun b hb => k b (List.mem_append_right _ hb)) dj
theorem slot_del {Γ : Gm} {H' : Hp} {v : V} {L : List Addr} {s : Slot} (hd : F d = some (.frz od (.dK kv))) (k : ∀ b ∈ L, ∀ o, H b = some o → H' b = some o) (h : SlotOk Γ F H v L s) : SlotOk Γ (del F d) H' v L s := by
  cases s with
  | val x => exact ⟨dp_del hd h.1, h.2⟩
  | exn => exact h
  | own b x => obtain ⟨a, z, c, hb⟩ := h; exact ⟨a, z, ct_del hd c k, hb⟩
end
/-- the slot i's dict is locked -/
theorem lock_in {Γ : Gm} {ρ : Rho} {σ : St} {F H : Hp} {i : Nat} {b : Option Nat} {kvs : List (Key × D)} (R : Rel Γ ρ σ F H) (h : ρ[i]? = some (some (.own b (.dct kvs)))) : ∃ d kv, σ[i]? = some (some (.ref d)) ∧ H d = some (.dK kv) ∧ DpK Γ.G F kv kvs ∧ F d = none ∧ ¬ Γ.U d ∧ (∀ k, b = some k → d = Γ.β k) ∧
    ∀ od, Rel Γ (ρ.set i none) σ (upd F d (.frz od (.dK kv))) (upd H d (.frz od (.dK kv))) := by
  obtain ⟨v, L, h1, a, rfl, c, hb⟩ := R.slot i _ h
  cases c with
  | flat c =>
    obtain ⟨kv, hH, t⟩ := c
    have ow : OwnAt Γ ρ σ F H i a := ⟨_, _, [a], h, h1, ⟨a, rfl, .flat ⟨kv, hH, t⟩, hb⟩, List.mem_cons_self ..⟩
    obtain ⟨fa, ua⟩ := R.own i a ow
    refine ⟨a, kv, h1, hH, t, fa, ua, hb, fun od => ?_⟩
    obtain ⟨Rd, bk⟩ := R.drop i (σ' := σ) (fun _ _ => rfl) rfl
    have nO : ∀ j, ¬ OwnAt Γ (ρ.set i none) σ F H j a := fun j z => by
      obtain ⟨n, z⟩ := bk j a z
      exact n (R.inj j i a z ow)
    have sF : Same F (upd F a (.frz od (.dK kv))) := fun c o q => by rw [upd_ne (fun z : c = a => by rw [z, fa] at q; cases q)]; exact q
    have kp : ∀ j c, OwnAt Γ (ρ.set i none) σ F H j c → ∀ u, H c = some u → upd H a (.frz od (.dK kv)) c = some u := fun j c oc u q => by rw [upd_ne (fun z : c = a => nO j (z ▸ oc))]; exact q
    have bk2 : ∀ j c, OwnAt Γ (ρ.set i none) σ (upd F a (.frz od (.dK kv))) (upd H a (.frz od (.dK kv))) j c → OwnAt Γ (ρ.set i none) σ F H j c := fun j c q => own_back Rd sF j (fun _ q => q) rfl (kp j) q
    refine ⟨fun c o q => ?_, fun j sl q => slot_keep Rd sF j q rfl (kp j), fun j k c h1 h2 => Rd.inj j k c (bk2 j c h1) (bk2 k c h2), fun j c q => ?_, Rd.len, Γ.Jm _ _ sF Rd.inv, fun c q => ?_⟩
    · by_cases e : c = a
      · subst e; rw [upd_same] at q ⊢; exact q
      · rw [upd_ne e] at q ⊢; exact R.sub c o q
    · obtain ⟨g1, g2⟩ := Rd.own j c (bk2 j c q)
      exact ⟨by rw [upd_ne (fun z : c = a => nO j (z ▸ bk2 j c q))]; exact g1, g2⟩
    · have e : c ≠ a := fun z => ua (z ▸ q)
      obtain ⟨g1, u, g2⟩ := R.ali c q
      exact ⟨by rw [upd_ne e]; exact g1, u, by rw [upd_ne e]; exact g2⟩
/-- .. and let go -/
theorem lock_out {Γ : Gm} {ρ ρ2 : Rho} {σ σ2 : St} {F H F2 H2 : Hp} {i : Nat} {b : Option Nat} {kvs : List (Key × D)} {d : Addr} {kv : List (Key × V)} {od : Obj} (R : Rel Γ ρ σ F H) (hi : i < ρ2.length) (hσ : σ2[i]? = some (some (.ref d))) (fd : F d = none) (ud : ¬ Γ.U d) (hb : ∀ k, b = some k → d = Γ.β k) (t : DpK Γ.G F kv kvs)
    (s : Stp Γ (ρ.set i none) σ (upd F d (.frz od (.dK kv))) (upd H d (.frz od (.dK kv))) ρ2 σ2 F2 H2) :
    H2 d = some (.frz od (.dK kv)) ∧ Stp Γ ρ σ F H (ρ2.set i (some (.own b (.dct kvs)))) σ2 (del F2 d) (upd H2 d (.dK kv)) ∧ (∀ a x L, Ct Γ.G F2 H2 a x L → Fresh Γ ρ2 σ2 F2 H2 L → Ct Γ.G (del F2 d) (upd H2 d (.dK kv)) a x L ∧ Fresh Γ (ρ2.set i (some (.own b (.dct kvs)))) σ2 (del F2 d) (upd H2 d (.dK kv)) L) := by
  have hF : F2 d = some (.frz od (.dK kv)) := s.subF d _ upd_same
  have hH : H2 d = some (.frz od (.dK kv)) := s.rel.sub d _ hF
  have nO : ∀ j c, OwnAt Γ ρ2 σ2 F2 H2 j c → c ≠ d := fun j c q z => by
    have := (s.rel.own j c q).1
    rw [z, hF] at this; cases this
  have sF : Same F (del F2 d) := fun c o q => by
    have e : c ≠ d := fun z => by rw [z, fd] at q; cases q
    rw [del_ne e]; exact s.subF c o (by rw [upd_ne e]; exact q)
  have kp : ∀ j c, OwnAt Γ ρ2 σ2 F2 H2 j c → ∀ u, H2 c = some u → upd H2 d (.dK kv) c = some u := fun j c oc u q => by rw [upd_ne (nO j c oc)]; exact q
  have bk : ∀ j c, OwnAt Γ ρ2 σ2 (del F2 d) (upd H2 d (.dK kv)) j c → OwnAt Γ ρ2 σ2 F2 H2 j c := fun j c o => by
    obtain ⟨s', v, L', q1, q2, q3, q4⟩ := o
    obtain ⟨v', L, g1, g2⟩ := s.rel.slot j s' q1
    rw [g1] at q2; cases q2
    have g3 : SlotOk Γ (del F2 d) (upd H2 d (.dK kv)) v L s' := slot_del hF (fun b hb => kp j b ⟨s', v, L, q1, g1, g2, hb⟩) g2
    exact ⟨s', v, L, q1, g1, g2, by rw [g3.uniq q3]; exact q4⟩
  have R1 : Rel Γ ρ2 σ2 (del F2 d) (upd H2 d (.dK kv)) := by
    refine ⟨fun c o q => ?_, fun j sl q => ?_, fun j k c h1 h2 => s.rel.inj j k c (bk j c h1) (bk k c h2), fun j c q => ?_, s.rel.len, Γ.Jm _ _ sF R.inv, fun c q => ?_⟩
    · have e : c ≠ d := fun z => by rw [z, del_same] at q; cases q
      rw [del_ne e] at q
      rw [upd_ne e]; exact s.rel.sub c o q
    · obtain ⟨v, L, g1, g2⟩ := s.rel.slot j sl q
      exact ⟨v, L, g1, slot_del hF (fun b hb => kp j b ⟨sl, v, L, q, g1, g2, hb⟩) g2⟩
    · obtain ⟨g1, g2⟩ := s.rel.own j c (bk j c q)
      exact ⟨by rw [del_ne (nO j c (bk j c q))]; exact g1, g2⟩
    · have e : c ≠ d := fun z => ud (z ▸ q)
      obtain ⟨g1, u, g2⟩ := s.rel.ali c q
      exact ⟨by rw [del_ne e]; exact g1, u, by rw [upd_ne e]; exact g2⟩
  have so : SlotOk Γ (del F2 d) (upd H2 d (.dK kv)) (.ref d) [d] (.own b (.dct kvs)) := ⟨d, rfl, .flat ⟨kv, upd_same, t.mono sF⟩, hb⟩
  obtain ⟨R2, bk2⟩ := R1.put hi hσ (fun _ _ => rfl) rfl so fun c hc => by
    obtain rfl : c = d := by simpa using hc
    exact ⟨del_same, ud, fun j _ z => nO j c (bk j c z) rfl⟩
  refine ⟨hH, ⟨R2, sF, fun c q => ?_, fun c o q => ?_⟩, fun a x L c fr => ⟨ct_del hF c fun c hc o q => ?_, fun c hc => ?_⟩⟩
  · have e : c ≠ d := fun z => ud (z ▸ q)
    rw [upd_ne e, s.keep c q, upd_ne e]
  · by_cases e : c = d
    · subst e; exact ⟨_, upd_same⟩
    · obtain ⟨u, hu⟩ := s.there c o (by rw [upd_ne e]; exact q)
      exact ⟨u, by rw [upd_ne e]; exact hu⟩
  · have e : c ≠ d := fun z => by have := (fr c hc).1; rw [z, hF] at this; cases this
    rw [upd_ne e]; exact q
  · have e : c ≠ d := fun z => by have := (fr c hc).1; rw [z, hF] at this; cases this
    obtain ⟨f1, f2, f3⟩ := fr c hc
    refine ⟨by rw [del_ne e]; exact f1, f2, fun ⟨j, z⟩ => ?_⟩
    rcases bk2 j c z with ⟨_, z⟩ | ⟨_, z⟩
    · exact e (by simpa using z)
    · exact f3 ⟨j, bk j c z⟩
def keysD (kvs : List (Key × D)) : List D := kvs.map fun kv => match kv.1 with
  | .inl i => .int i
  | .inr x => .str x
theorem keys_at {G : Gx} {F : Hp} : ∀ {vs : List (Key × V)} {ds : List (Key × D)} (i : Nat) (k : Key) (v : V), DpK G F vs ds → vs[i]? = some (k, v) → ∃ x, (keysD ds)[i]? = some x ∧ ∀ F1 : Hp, Dp G F1 (kV k) x
  | _, _, i, k, v, .nil, e => by simp at e
  | _, _, 0, k, v, .cons (k := k0) _ _, e => by
    simp at e
    obtain ⟨rfl, rfl⟩ := e
    cases k0 with
    | inl i => exact ⟨_, rfl, fun F1 => .int i⟩
    | inr x => exact ⟨_, rfl, fun F1 => .str x⟩
  | _, _, i + 1, k, v, .cons _ t, e => keys_at i k v t (by simpa using e)
theorem wlk_keys {G : Gx} {F : Hp} {d : Addr} {od : Obj} {kv : List (Key × V)} {kvs : List (Key × D)} (h : F d = some (.frz od (.dK kv))) (t : DpK G F kv kvs) : Wlk G (Itk d od kv) F (keysD kvs) := by
  have l : (keysD kvs).length = kv.length := by unfold keysD; rw [List.length_map, t.length]
  refine ⟨fun i H s hi => ⟨s _ _ h, by rw [← l]; exact hi⟩, fun i H x H' s hi ⟨e, k, v, q, ex⟩ => ?_, fun i H s hi => ⟨s _ _ h, by rw [← l]; exact hi⟩⟩
  subst e ex
  obtain ⟨x, h1, h2⟩ := keys_at i k v t q
  exact ⟨x, h1, fun F1 s1 s2 => ⟨F1, .refl s2, h2 F1⟩⟩
/-- [.. for k in d], d the slot i's dict -/
def mLcK (vs : List Nat) (i : Nat) (f : Tg) (t : MB) (me : M) : M := fun ρ => match ρ[i]? with
  | some (some (.own b (.dct kvs))) => (match lcD vs f t me (keysD kvs) [] (wipeR (ρ.set i none) vs) with
    | .ok acc ρ2 => if i < ρ2.length then .ok (.new (.lst acc)) (ρ2.set i (some (.own b (.dct kvs)))) else .stuck
    | _ => .stuck)
  | _ => .stuck
section
variable {X : Cx} {Γ : Gm} {W : WX} {elt tg : Expr} {ifs : List Expr} {scope : Scope} {own : List (Str × Nat)} {pos spos : Pos} {mi : MI} {g : TG} {f : Tg} {t : MB} {me : M}
theorem je_lcK (i : Nat) {x : Str} {p0 : Pos} (hc : X.calm = true) (hN : X.N.Nodup) (ok : BlkOk X.N X.env.scope scope own) (hf : ∀ D, TgV (Γ.also D) g f (own.map (·.2)))
    (hg : ∀ (s : Shared) (H : Hp) (C : Addr) (cl : List (Str × Addr)) (fp : List Addr), PG (X.blk s H scope (compEnvC scope cl C X.env) fp) tg g) (ht : ∀ (D : Addr) (s : Shared) (H : Hp) (C : Addr) (cl : List (Str × Addr)) (fp : List Addr), PTs (X.blk s H scope (compEnvC scope cl C X.env) fp) ifs (tMB (Γ.also D) W0 t))
    (he : ∀ (D : Addr) (s : Shared) (H : Hp) (C : Addr) (cl : List (Str × Addr)) (fp : List Addr), PE (X.blk s H scope (compEnvC scope cl C X.env) fp) elt (tM (Γ.also D) W0 me)) (hs : ∀ y, foldedSetIterable (.Name x p0) X.env y = pure y := by intro _; rfl)
    (hx : X.N[i]? = some x := by rfl) (hv : Vis X.env.scope x := by first | exact Or.inl rfl | exact Or.inr (Or.inl rfl) | exact Or.inr (Or.inr rfl)) (hd : (x == ("__debug__" : Str)) = false := by decide) (hcd : (x == ("__classdict__" : Str)) = false := by decide) :
    PE X (.ListComp elt [⟨tg, .Name x p0, ifs, 0⟩] scope pos) (tM Γ W (mLcK (own.map (·.2)) i f t me)) :=
  (pe_lock (pe_lc hc hN (pi_keys (pe_var hx hv hd hcd)) ok hg (fun s H C cl fp => pts_any fun D => ht D s H C cl fp) (fun s H C cl fp => pe_any fun D => he D s H C cl fp) hs)).imp fun σ H Q ⟨ρ, F, R, p⟩ => by
    unfold mLcK at p
    split at p
    · rename_i b kvs e
      split at p
      · rename_i acc ρ2 el
        split at p
        · rename_i hi
          obtain ⟨d, kv, h1, h2, h3, h4, h5, h6, h7⟩ := lock_in R e
          refine ⟨d, .dK kv, h2, True.intro, fun od => ⟨_, h1, d, od, rfl, .inl ⟨kv, upd_same, ?_⟩⟩⟩
          have sF : Same F (upd F d (.frz od (.dK kv))) := fun c o q => by rw [upd_ne (fun z : c = d => by rw [z, h4] at q; cases q)]; exact q
          exact lc_ok (Qd := fun D H' => H' d = some (.frz od (.dK kv)) ∧ Q (.ref D) (upd H' d (.dK kv))) hf (h7 od) (wlk_keys upd_same (h3.mono sF)) el fun D F' H' s2 c fr => by
            obtain ⟨q1, q2, q3⟩ := lock_out R hi h1 h4 h5 h6 h3 s2
            obtain ⟨c1, c2⟩ := q3 D _ [D] (.flat c) fr
            exact ⟨q1, p _ _ _ q2 ⟨D, [D], rfl, c1, c2⟩⟩
        · exact p.elim
      · exact p.elim
    · exact p.elim
end
end PyD

namespace PyD
open PySem PySem.Spec PyProof.Rows L2

/-! ### targets that may store into own cells: d["k"], .. = .. -/
def TgX (Γ : Gm) (g : TG) (f : Tg) : Prop := ∀ v d ρ ρ' σ F H Q, Rel Γ ρ σ F H → Dp Γ.G F v d → f d ρ = some ρ' → (∀ σ' F' H', Stp Γ ρ σ F H ρ' σ' F' H' → Q σ' H') → g v σ H Q
def TgsX (Γ : Gm) (g : TGs) (f : Tgs) : Prop := ∀ vs ds ρ ρ' σ F H Q, Rel Γ ρ σ F H → DpL Γ.G F vs ds → f ds ρ = some ρ' → (∀ σ' F' H', Stp Γ ρ σ F H ρ' σ' F' H' → Q σ' H') → g vs σ H Q
theorem TgOk.x {Γ : Gm} {g : TG} {f : Tg} (h : TgOk Γ g f) : TgX Γ g f := fun v d ρ ρ' σ F H Q R dp e k => h v d ρ ρ' σ F H Q R dp e fun σ' s => k σ' F H s
theorem tgsx_nil {Γ : Gm} : TgsX Γ gNil gsNil := by
  intro us ds ρ ρ' σ F H Q R h e k
  unfold gsNil at e
  split at e
  · cases e; cases h; exact ⟨rfl, k σ F H (.refl R)⟩
  · cases e
theorem tgsx_cons {Γ : Gm} {t : TG} {u : TGs} {f : Tg} {g : Tgs} (h1 : TgX Γ t f) (h2 : TgsX Γ u g) : TgsX Γ (gCons t u) (gsCons f g) := by
  intro us ds ρ ρ' σ F H Q R h e k
  unfold gsCons at e
  split at e
  · rename_i d ds
    obtain ⟨ρ1, e1, e2⟩ := Option.bind_eq_some_iff.mp e
    cases h with
    | cons ha hb => exact ⟨_, _, rfl, h1 _ d ρ ρ1 σ F H _ R ha e1 fun σ1 F1 H1 s1 => h2 _ ds ρ1 ρ' σ1 F1 H1 Q s1.rel (hb.mono s1.subF) e2 fun σ2 F2 H2 s2 => k σ2 F2 H2 (s1.trans s2)⟩
  · cases e
theorem tgx_tup {Γ : Gm} {u : TGs} {g : Tgs} {n : Nat} (h2 : TgsX Γ u g) : TgX Γ (gTup Γ.G.K n u) (gT n g) := by
  intro v d ρ ρ' σ F H Q R h e k
  unfold gT at e
  split at e
  · rename_i ds
    split at e
    · rename_i hn
      cases h with
      | tup hs t => exact ⟨_, _, rfl, sqT_ext hs R.sub, by rw [t.length]; exact hn, h2 _ ds ρ ρ' σ F H Q R t e k⟩
    · cases e
  · cases e
/-- the slot s's item k -/
def gSV (s : Nat) (k : D) : Tg := fun d ρ => match ρ[s]? with
  | some (some (.own b c)) => (setD c k d).map fun c' => ρ.set s (some (.own b c'))
  | _ => none
theorem tgx_sub {Γ : Gm} {s : Nat} {k : D} {y : V} (hk : ∀ F, Dp Γ.G F y k) : TgX Γ (gSub (tVar s) (tC y) rSetD) (gSV s k) := by
  intro v d ρ ρ' σ F H Q R dp e q
  unfold gSV at e
  split at e
  · rename_i b c e2
    obtain ⟨c', e4, rfl⟩ := Option.map_eq_some_iff.mp e
    obtain ⟨x, L, h1, a, rfl, ce, hb⟩ := R.slot s _ e2
    have fin : flatD c = true → ∀ oo, Cell Γ.G F (L2.upd H a oo) a c' → Q σ (L2.upd H a oo) := fun fl oo cc => q σ F _ (R.upd e2 h1 ce fl cc)
    refine ⟨_, h1, ?_⟩
    show rSetD (.ref a) y v H fun H3 => Q σ H3
    have vi : View Γ.G F H y k := View.of (hk F)
    cases c with
    | lst xs =>
      cases k with
      | int i =>
        simp only [setD, Option.map_eq_some_iff] at e4
        obtain ⟨j, g1, rfl⟩ := e4
        obtain ⟨vs, g2, t⟩ := (ce.cell rfl).1
        exact .inl ⟨a, vs, i, j, rfl, vi.int, g2, by rw [t.length]; exact g1, fin rfl _ ⟨_, upd_same, t.set dp j⟩⟩
      | _ => simp [setD] at e4
    | dct kvs =>
      simp only [setD] at e4
      split at e4
      · rename_i w
        obtain ⟨kk, g1, rfl⟩ := Option.map_eq_some_iff.mp e4
        obtain ⟨vs, g2, t⟩ := (ce.cell rfl).1
        have hk := keyD_ok vi g1
        subst hk
        exact .inr ⟨a, _, rfl, DPut.k g2 (by rw [t.length]; exact w), fin rfl _ ⟨_, upd_same, t.put dp⟩⟩
      · cases e4
    | _ => simp [setD] at e4
  · cases e
section
variable {X : Cx} {Γ : Gm} {W : WX} {e tg : Expr} {m : M} {pos pos' : Pos}
theorem js_asgX {g : TG} {f : Tg} (hg : PG X tg g) (hf : TgX Γ g f) (he : PE X e (tM Γ W m)) (hs : swapsWithSole [tg] e pos.line X.env = pure false := by rfl) (hw : swappedStores [tg] e X.env = pure none := by rfl) (h1 : (assignEach [tg] X.env).map (·.2) = [assign tg X.env] := by rfl) : PS X (.Assign [tg] e pos) (tMS Γ W (mAsg f m)) :=
  (ps_asg (je_f he) hg hs hw h1).imp fun D σ H ⟨ρ, F, R, p⟩ => ⟨ρ, F, R, p.bindF fun r ρ1 v F1 H1 s1 hr p1 => by
    unfold tgtR at p1
    split at p1
    · rename_i d ρ2 e1
      split at p1
      · rename_i ρ3 e2
        obtain ⟨F2, s2, q⟩ := settle_ok s1.rel hr e1
        exact hf v d ρ2 ρ3 σ F2 H1 _ s2.rel q e2 fun σ' F' H' s3 => p1 σ' F' H' (s2.trans s3)
      · exact p1.elim
    · exact p1.elim⟩
end
/-! ### defaults that are tuples -/
/-- the keyword-only default x of the def at f, if it is an object -/
def kwAt (f : Str × Option Str) (x : Str) (K : PySem.W.Frag) : Addr := match K.lookup (He.fAd K f) with
  | some ⟨_, _, .func fd, _⟩ => (match fd.kwdefaults with
    | .ref T => (match PySem.W.nsIn K T x with
      | some (some (.ref a)) => a
      | _ => 0)
    | _ => 0)
  | _ => 0
def tupA (K : PySem.W.Frag) (a : Addr) (vs : List V) : Bool := match K.lookup a with
  | some ⟨.type c, _, .seq its _, _⟩ => decide (c = "tuple") && (decide (its.size ≤ sizeLine) && He.relAll vs its.toList)
  | _ => false
theorem tupA_ok {K : PySem.W.Frag} {a : Addr} {vs : List V} (h : tupA K a vs = true) (H : Hp) : SqT K H a vs := by
  unfold tupA at h
  split at h
  · rename_i c od its n sl q
    obtain ⟨h1, h2⟩ := Bool.and_eq_true_iff.mp h
    obtain ⟨h3, h4⟩ := Bool.and_eq_true_iff.mp h2
    exact .inr ⟨_, its, n, q, congrArg Value.type (of_decide_eq_true h1), rfl, of_decide_eq_true h3, He.relAll_ok h4⟩
  · cases h
/-! ### rows for simp -/
def lstO1 (o : Option (List D × Rho)) : Out (List D) := match o with
  | some ([.lst xs], ρ) => .ok (enumD xs) ρ
  | _ => .stuck
@[simp] theorem x_lstO1 {xs : List D} {ρ : Rho} : lstO1 (some ([.lst xs], ρ)) = .ok (enumD xs) ρ := rfl
@[simp] theorem x_iEnm {ma : MA} {ρ : Rho} : iEnm ma ρ = bindO (ma ρ) fun rs ρ1 => lstO1 (settles rs ρ1) := rfl
@[simp] theorem x_enumN {n : Nat} : enumFromD n [] = [] := rfl
@[simp] theorem x_enumC {n : Nat} {x : D} {xs : List D} : enumFromD n (x :: xs) = D.tup [.int (n : Nat), x] :: enumFromD (n + 1) xs := rfl
@[simp] theorem x_enumD {xs : List D} : enumD xs = enumFromD 0 xs := rfl
@[simp] theorem x_dictD {kvs : List (Key × D)} : dictD [.dct kvs] = some (.new (.dct kvs)) := rfl
@[simp] theorem x_dctR {ks : List Key} {rs : List Res} {ρ : Rho} : dctR ks rs ρ = optO (settles rs ρ) fun p => .ok (.new (.dct (mergeD [] (ks.zip p.1)))) p.2 := by
  unfold dctR optO; cases settles rs ρ <;> rfl
@[simp] theorem x_mDct {ks : List Key} {ma : MA} {ρ : Rho} : mDct ks ma ρ = bindO (ma ρ) fun rs ρ1 => dctR ks rs ρ1 := rfl
@[simp] theorem x_mergeN {kvs : List (Key × D)} : mergeD kvs [] = kvs := rfl
@[simp] theorem x_mergeC {kvs r : List (Key × D)} {kv : Key × D} : mergeD kvs (kv :: r) = mergeD (putKD kvs kv.1 kv.2) r := rfl
def ownD (o : Option (Option Slot)) (k : Option Nat → D → Option Rho) : Option Rho := match o with
  | some (some (.own b c)) => k b c
  | _ => none
@[simp] theorem x_ownD {b : Option Nat} {c : D} {k : Option Nat → D → Option Rho} : ownD (some (some (.own b c))) k = k b c := rfl
@[simp] theorem x_gSV {s : Nat} {k d : D} {ρ : Rho} : gSV s k d ρ = ownD ρ[s]? fun b c => (setD c k d).map fun c' => ρ.set s (some (.own b c')) := by
  unfold gSV ownD; rfl
def dctK (o : Option (Option Slot)) (k : Option Nat → List (Key × D) → Out Res) : Out Res := match o with
  | some (some (.own b (.dct kvs))) => k b kvs
  | _ => .stuck
@[simp] theorem x_dctK {b : Option Nat} {kvs : List (Key × D)} {k : Option Nat → List (Key × D) → Out Res} : dctK (some (some (.own b (.dct kvs)))) k = k b kvs := rfl
def lcG (o : Out (List D)) (i : Nat) (sl : Slot) : Out Res := match o with
  | .ok acc ρ2 => if i < ρ2.length then .ok (.new (.lst acc)) (ρ2.set i (some sl)) else .stuck
  | _ => .stuck
@[simp] theorem x_lcG {acc : List D} {ρ : Rho} {i : Nat} {sl : Slot} : lcG (.ok acc ρ) i sl = if i < ρ.length then .ok (.new (.lst acc)) (ρ.set i (some sl)) else .stuck := rfl
@[simp] theorem x_mLcK {vs : List Nat} {i : Nat} {f : Tg} {t : MB} {me : M} {ρ : Rho} : mLcK vs i f t me ρ = dctK ρ[i]? fun b kvs => lcG (lcD vs f t me (keysD kvs) [] (wipeR (ρ.set i none) vs)) i (.own b (.dct kvs)) := by
  unfold mLcK dctK lcG; rfl
def dcF (o : Out (List (Key × D))) : Out Res := match o with | .ok acc ρ => .ok (.new (.dct acc)) ρ | _ => .stuck
@[simp] theorem x_dcF {acc : List (Key × D)} {ρ : Rho} : dcF (.ok acc ρ) = .ok (.new (.dct acc)) ρ := rfl
@[simp] theorem x_mDc {vs : List Nat} {mi : MI} {f : Tg} {t : MB} {mk mv : M} {ρ : Rho} : mDc vs mi f t mk mv ρ = bindO (mi ρ) fun ds ρ1 => dcF (dcD vs f t mk mv ds [] (wipeR ρ1 vs)) := rfl
@[simp] theorem x_dcN {vs : List Nat} {f : Tg} {t : MB} {mk mv : M} {acc : List (Key × D)} {ρ : Rho} : dcD vs f t mk mv [] acc ρ = .ok acc ρ := rfl
theorem x_dcC {vs : List Nat} {f : Tg} {t : MB} {mk mv : M} {d : D} {ds : List D} {acc : List (Key × D)} {ρ : Rho} : dcD vs f t mk mv (d :: ds) acc ρ = optO (f d ρ) fun ρ1 => bindN (t ρ1) fun b ρ2 => if b = true then bindN (mk ρ2) fun rk ρ3 => optO (keyR rk.frz) fun k => bindN (mv ρ3) fun r ρ4 => optO (PyD.settle r.frz ρ4) fun p => if acc.length < sizeLine then dcD vs f t mk mv ds (putKD acc k p.1) (wipeR p.2 vs) else .stuck
    else dcD vs f t mk mv ds acc (wipeR ρ2 vs) := by
  rw [dcD]
  unfold optO bindN
  cases f d ρ with
  | none => rfl
  | some ρ1 =>
    dsimp only
    cases t ρ1 with
    | ok b ρ2 =>
      cases b with
      | true =>
        dsimp only
        rw [if_pos rfl]
        cases mk ρ2 with
        | ok rk ρ3 =>
          dsimp only
          cases keyR rk.frz with
          | none => rfl
          | some k =>
            dsimp only
            cases mv ρ3 with
            | ok r ρ4 =>
              dsimp only
              cases PyD.settle r.frz ρ4 with
              | none => rfl
              | some p => rfl
            | exc x ρ4 => rfl
            | stuck => rfl
        | exc x ρ3 => rfl
        | stuck => rfl
      | false => rfl
    | exc x ρ2 => rfl
    | stuck => rfl
@[simp] theorem x_keyS {s : Str} : keyR (.val (.str s)) = some (.inr s) := rfl
@[simp] theorem x_keyI {s : Int} : keyR (.val (.int s)) = some (.inl s) := rfl
@[simp] theorem x_keyDS {s : Str} : keyD (.str s) = some (.inr s) := rfl
@[simp] theorem x_keyDI {s : Int} : keyD (.int s) = some (.inl s) := rfl
end PyD

namespace PyD
open PySem PySem.Spec PyProof.Rows L2

/-! ### enumerate(tuple) -/
/-- the iterator that enumerate makes of v -/
theorem meets_enm {v : Value} {o : Obj} {P : Heap → Prop} (B : Begins v o P) :
    Meets (Builtin.«enumerate.__new__» ⟨[.type "enumerate", v], []⟩) (fun _ R s => P s.heap ∧
      R (.ok (.ret (.ref (s.heap.push o).objs.size))) { s with heap := (s.heap.push o).push { cls := .type "enumerate", data := .fields #[.none, .bool false, .ref s.heap.objs.size, rawInt 0, .none, .none] } }) :=
  .of_wp fun prog w A R s h => by
    obtain ⟨hp, gs, dr, tk, os⟩ := s
    obtain ⟨h1, h⟩ := h
    have sb := sub_enumerate
    have q1 : ∀ {A' : Around} {E : Value → Shared → Prop} {Q : Value → Shared → Prop}, Q (.ref hp.objs.size) ⟨hp.push o, gs, dr, tk, os⟩ → wpAny (model prog w) A' (pyIter v) Q E ⟨hp, gs, dr, tk, os⟩ :=
      fun q => B.iter prog w _ _ ⟨hp, gs, dr, tk, os⟩ _ h1 q
    wp_walk using q1
    refine wpAny_stack_any fun st => wpAny_pure ?_
    split
    · rename_i cc _ _ _ _ _
      cases (cc == Value.type "enumerate") <;> (wp_walk using q1; exact ⟨_, rfl, h⟩)
    · wp_walk using q1
      exact ⟨_, rfl, h⟩
theorem call_enm {prog : Program} {w : World} {A : Around} {E : Value → Shared → Prop} {s : Shared} {v : Value} {o : Obj} {P : Heap → Prop} {Q : Value → Shared → Prop} (B : Begins v o P) (h1 : P s.heap)
    (h : ∀ h', IsEnum h' (s.heap.objs.size + 1) s.heap.objs.size 0 .none → h'.get? s.heap.objs.size = some o → (∀ b o, s.heap.get? b = some o → h'.get? b = some o) → Q (.ref (s.heap.objs.size + 1)) { s with heap := h' }) :
    wpAny (model prog w) A (call (.type "enumerate") [v]) Q E s := by
  refine callType_new F.called_enumerate (by decide) (F.typeCall_enumerate_1 _) (F.newCall_enumerate_1 _) (fun obj => F.args_object_init_2 obj _) F.entry_enumerate_new (meets_enm B) ⟨h1, ?_⟩
  have z : (s.heap.push o).objs.size = s.heap.objs.size + 1 := Heap.size_push ..
  show _ ∧ _
  rw [z]
  have he : IsEnum ((s.heap.push o).push { cls := .type "enumerate", data := .fields #[.none, .bool false, .ref s.heap.objs.size, rawInt 0, .none, .none] }) (s.heap.objs.size + 1) s.heap.objs.size 0 .none := by
    have q := Heap.get?_push_size (s.heap.push o) (o := { cls := .type "enumerate", data := .fields #[.none, .bool false, .ref s.heap.objs.size, rawInt 0, .none, .none] }) rfl
    rw [z] at q; exact q
  exact ⟨⟨_, he, rfl⟩, h _ he (Heap.get?_push_of_some _ (Heap.get?_push_size _ B.free)) fun b o x => Heap.get?_push_of_some _ (Heap.get?_push_of_some _ x)⟩
/-- the tuple at a, each item in a new pair -/
def IteT (K : PySem.W.Frag) (a : Addr) : It :=
  ⟨fun i H => ∃ (xs : List V) (x : V), SqT K H a xs ∧ xs[i]? = some x, fun i H v H' => ∃ T x, v = .ref T ∧ H T = none ∧ H' = upd H T (.tup [.int (i : Nat), x]) ∧ ∀ xs, SqT K H a xs → xs[i]? = some x, fun i H => ∃ xs : List V, SqT K H a xs ∧ xs.length ≤ i⟩
theorem turn_enumT {P : Program} {w : World} {K : PySem.W.Frag} {elts : List Expr} {kk : Nat} {tpos : Pos} (a e it : Addr) :
    Turn P w K (.Tuple elts kk tpos) (IteT K a) [e, it] e (fun i h => (∃ old, IsEnum h e it ((i : Nat) : Int) old) ∧ h.IsTupleIter it a i ∧ e ≠ it) where
  mem := by simp
  obj := fun i h st b hb => by
    obtain ⟨⟨old, he⟩, ⟨o, ho, hc, hd⟩, _⟩ := st
    rcases (show b = e ∨ b = it by simpa using hb) with z | z
    · subst z; exact ⟨_, he, fun v q => nomatch q⟩
    · subst z; exact ⟨o, ho, fun v q => by rw [hd] at q; cases q⟩
  keep := fun i h h' st k => by
    obtain ⟨⟨old, he⟩, ⟨o, ho, hc, hd⟩, hne⟩ := st
    exact ⟨⟨old, k e (by simp) _ he⟩, ⟨o, k it (by simp) _ ho, hc, hd⟩, hne⟩
  item := by
    intro X hP hw hK hc i pins s σ H E I hf st hg
    subst hP hw hK
    obtain ⟨⟨old, he⟩, hit, hne⟩ := st
    obtain ⟨xs, x, hq, hx⟩ := hg
    obtain ⟨its, rv, p, hz⟩ := I.tuple hq
    obtain ⟨u, hu, ru⟩ := rv.get hx
    have hel : e < s.heap.objs.size := Heap.lt_size he
    have hil : it < s.heap.objs.size := by obtain ⟨_, q, _⟩ := hit; exact Heap.lt_size q
    have hT : s.heap.IsTuple a its.toArray := p
    have nae : a ≠ e := fun z => by
      obtain ⟨o, ho, hoc, _⟩ := hT
      rw [z] at ho
      rw [show s.heap.get? e = some _ from he] at ho
      cases ho
      exact absurd (Value.type.inj hoc) (by decide)
    have nai : a ≠ it := fun z => by
      obtain ⟨o, ho, hoc, _⟩ := hT
      obtain ⟨o2, ho2, hoc2, _⟩ := hit
      rw [z, ho2] at ho
      cases ho; rw [hoc] at hoc2
      exact absurd (Value.type.inj hoc2) (by decide)
    have hlt : i < its.toArray.size := by
      have := List.getElem?_eq_some_iff.mp hu
      simpa using this.1
    have hh : X.A.in1.handled = none := I.ok.hd hc
    refine wpAny_pyNext_enum_itemD (Draws.tuple hh it a nai its.toArray) he ⟨hit, hT⟩ hlt hne (by simp [hne, Ne.symm nae]) fun x' h' tk hP ho hst' hT' hsz hk => ?_
    have eu : x' = u := by
      have q : its.toArray[i]? = some x' := hP
      rw [List.getElem?_toArray, hu] at q
      exact (Option.some.inj q).symm
    subst eu
    refine ⟨_, rfl, wpAny_letOwnedTupleGo_enum (s := { s with heap := h', toks := tk + 1 }) ho fun h'' he' sb => ?_⟩
    have hT2 : h''.get? s.heap.objs.size = some { cls := .type "tuple", data := .seq #[.int i tk, x'] } := (sb.2 _ (Nat.ne_of_gt hel)).trans hT'
    have new : ObjOk X.prog X.w (upd H s.heap.objs.size (.tup [.int (i : Nat), x])) h'' s.heap.objs.size (.tup [.int (i : Nat), x]) :=
      ⟨by show 2 ≤ sizeLine; decide, [.int i tk, x'], .cons ⟨_, rfl⟩ (.cons ru .nil), ⟨_, hT2, rfl, _, rfl⟩⟩
    have J1 : Inv X pins σ (upd H s.heap.objs.size (.tup [.int (i : Nat), x])) { s with heap := h'', toks := tk + 1 } :=
      I.turnedNew (ch := [e, it]) (fun b ob hb q => by
        have n1 : b ≠ e := fun z => hb (by simp [z])
        have n2 : b ≠ it := fun z => hb (by simp [z])
        exact (sb.2 b n1).trans (hk b ob n1 n2 q)) hf (Nat.le_refl _) new
    refine ⟨.ref s.heap.objs.size, _, J1, rfl, ⟨_, x, rfl, I.hok.fresh (Nat.le_refl _), rfl, fun ys hy => by rw [I.tuple_inj hy hq]; exact hx⟩, ⟨⟨x', ?_⟩, ?_, hne⟩, fun b hb => ?_⟩
    · have e1 : ((i + 1 : Nat) : Int) = (i : Int) + 1 := by omega
      rw [e1]; exact he'
    · obtain ⟨o3, ho3, hc3, hd3⟩ := hst'.1
      exact ⟨o3, (sb.2 it (Ne.symm hne)).trans ho3, hc3, hd3⟩
    · have hb' : b < s.heap.objs.size := by
        rcases (show b = e ∨ b = it by simpa using hb) with z | z
        · subst z; exact hel
        · subst z; exact hil
      rw [upd_ne (Nat.ne_of_lt hb')]
      exact (hf b hb).1
  done := by
    intro X hP hw hK hc i pins s σ H E I hf st hg
    subst hP hw hK
    obtain ⟨⟨old, he⟩, hit, hne⟩ := st
    obtain ⟨xs, hq, hx⟩ := hg
    obtain ⟨its, rv, p, hz⟩ := I.tuple hq
    obtain ⟨f0, f1, f2, f3, f4, f5⟩ := hf it (by simp)
    have hT : s.heap.IsTuple a its.toArray := p
    have nai : a ≠ it := fun z => by
      obtain ⟨o, ho, hoc, _⟩ := hT
      obtain ⟨o2, ho2, hoc2, _⟩ := hit
      rw [z, ho2] at ho
      cases ho; rw [hoc] at hoc2
      exact absurd (Value.type.inj hoc2) (by decide)
    have hh : X.A.in1.handled = none := I.ok.hd hc
    have hh2 : X.A.in1.in1.handled = none := I.ok.hd hc
    have hl := rv.length
    unfold pyNext
    have hTy : s.TypeIs (.ref e) "enumerate" := ⟨_, he, rfl⟩
    refine wpAny_bind (wpAny_attempt (wpAny_callSpecial?_slot (name := Str.ofString "__next__") hTy F.slot_enumerate_next (wpAny_call_entry F.slot_enumerate_next hTy F.entry_enumerate_next ?_ (F.args_enumerate_next_1 _))))
    show wpAny _ _ (field (.ref e) 2 >>= _) _ _ _
    refine wpAny_bind (wpAny_field he rfl (x := .ref it) rfl ?_)
    refine wpAny_bind (wpAny_nextOf_tuple_end hh hit hT (by simp; omega) fun h' ex he' hx' => ?_)
    obtain ⟨o, ho, hoc⟩ := hx'
    refine wpAny_bind (wpAny_isInstance (T := "StopIteration") (b := true) ⟨o, ho, hoc⟩ isSubtype_stop ?_)
    exact wpAny_pure ⟨rfl, I.turned (t' := s.toks) (fun b o hb q => he' b o hb q) f0 f1 f3 f4 f5⟩
  self := fun A i s Q E st h => let ⟨⟨_, he⟩, _⟩ := st; wpAny_pyIter_enum he h
/-- enumerate of a list or a tuple -/
theorem pi_enm {X : Cx} {e : Expr} {ta : TA} {p pos tpos : Pos} {elts : List Expr} {kk : Nat} (hg : Gl X "enumerate") (hm : X.mg "enumerate" = none) (ha : PA X [e] ta) (hs : starEach [e] X.env = [(false, eval e X.env)] := by rfl) :
    PI X (.Tuple elts kk tpos) (.Call (.Name "enumerate" p) [e] [] pos) (fun σ H R => ta σ H fun vs H1 => ∃ a xs, vs = [.ref a] ∧ ((SqL X.K H1 a xs ∧ R (Ite X.K a) H1) ∨ (SqT X.K H1 a xs ∧ R (IteT X.K a) H1))) := by
  refine ⟨fun pins s σ H R I h => ?_⟩
  refine Call_ (ld_blt I hg hm boot_enumerate (PyProof.Rows.callWith_type1 (thn (ha.run pos pins s σ H _ I h) fun us s1 ⟨vs, H1, I1, r1, q1⟩ => ?_) hs rfl))
  obtain ⟨a, xs, ex, q⟩ := q1
  subst ex
  cases r1 with
  | cons r rr =>
    cases rr
    cases r
    have fp : ∀ b ∈ [s1.heap.objs.size + 1, s1.heap.objs.size], FpOk X pins H1 b := fun b hb => by
      have hle : s1.heap.objs.size ≤ b := by
        rcases (show b = s1.heap.objs.size + 1 ∨ b = s1.heap.objs.size by simpa using hb) with z | z
        · subst z; exact Nat.le_succ _
        · subst z; exact Nat.le_refl _
      exact I1.fpOk hle (I1.hok.fresh hle)
    rcases q with ⟨hq, q⟩ | ⟨hq, q⟩
    · obtain ⟨its, rv, p', hz⟩ := I1.list hq
      refine call_enumerate_list p'.isList fun h' he hit hsz hk => wpAny_pyIter_enum he ?_
      exact ⟨s1.heap.objs.size + 1, [s1.heap.objs.size + 1, s1.heap.objs.size], _, _, H1, rfl, I1.kept (t' := s1.toks) hk, turn_enum a (s1.heap.objs.size + 1) s1.heap.objs.size, ⟨⟨.none, he⟩, hit, Nat.succ_ne_self _⟩, fp, q⟩
    · obtain ⟨its, rv, p', hz⟩ := I1.tuple hq
      refine call_enm (begins_tuple a its.toArray) p' fun h' he hit hk => wpAny_pyIter_enum he ?_
      exact ⟨s1.heap.objs.size + 1, [s1.heap.objs.size + 1, s1.heap.objs.size], _, _, H1, rfl, I1.kept (t' := s1.toks) hk, turn_enumT a (s1.heap.objs.size + 1) s1.heap.objs.size, ⟨⟨.none, he⟩, ⟨_, hit, rfl, rfl⟩, Nat.succ_ne_self _⟩, fp, q⟩
theorem wlk_enumT {G : Gx} {F : Hp} {a : Addr} {vs : List V} {ds : List D} (h : SqT G.K F a vs) (t : DpL G F vs ds) : Wlk G (IteT G.K a) F (enumD ds) := by
  obtain ⟨l, g⟩ := enumD_len ds
  refine ⟨fun i H s hi => ⟨vs, vs[i]'(by rw [t.length, ← l]; exact hi), sqT_ext h s, by simp⟩, fun i H x H' s hi ⟨T, y, ex, hT, hH, q⟩ => ?_, fun i H s hi => ⟨vs, sqT_ext h s, by rw [t.length, ← l]; exact hi⟩⟩
  obtain ⟨d, h1, h2⟩ := t.getV (q vs (sqT_ext h s))
  subst ex hH
  exact ⟨_, g i d h1, fun F1 s1 s2 => ⟨upd F1 T (.tup [.int (i : Nat), y]), .tup s2 hT, .tup (SqT.of upd_same) (.cons (.int _) (.cons ((h2.mono s1).mono (Alc.tup (o := .tup [.int (i : Nat), y]) s2 hT).subF) .nil))⟩⟩
def iEnT (ma : MA) : MI := fun ρ => bindO (ma ρ) fun rs ρ1 => match settles rs ρ1 with
  | some ([.lst xs], ρ2) => .ok (enumD xs) ρ2
  | some ([.tup xs], ρ2) => .ok (enumD xs) ρ2
  | _ => .stuck
section
variable {X : Cx} {Γ : Gm} {W : WX} {e tg : Expr} {m : M} {ma : MA} {pos p : Pos}
theorem ji_enm {a : Expr} {elts : List Expr} {kk : Nat} {tpos : Pos} (hK : X.K = Γ.G.K) (hm : X.mg "enumerate" = none) (ha : PA X [a] (tMA Γ W ma)) (hg : Gl X "enumerate" := by rfl) (hs : starEach [a] X.env = [(false, eval a X.env)] := by rfl) : PI X (.Tuple elts kk tpos) (.Call (.Name "enumerate" p) [a] [] pos) (iM Γ W (iEnT ma)) :=
  (pi_enm hg hm ha hs).imp fun σ H R ⟨ρ, F, Rl, h⟩ => ⟨ρ, F, Rl, iM_bindA h (fun rs ρ1 vs F1 H1 s1 hr hk ⟨ds, ρ2, ek⟩ => by
    have hk := hk ds ρ2 ek
    split at ek
    · rename_i xs ρ3 er
      cases ek
      obtain ⟨F2, s2, hd⟩ := settles_ok s1.rel hr er
      cases hd with
      | cons h1 t =>
        cases t
        cases h1 with
        | lst hq t => exact ⟨_, _, rfl, .inl ⟨SqL.of (s2.rel.sub _ _ hq), hk _ F2 H1 s2 (hK ▸ wlk_enum hq t)⟩⟩
    · rename_i xs ρ3 er
      cases ek
      obtain ⟨F2, s2, hd⟩ := settles_ok s1.rel hr er
      cases hd with
      | cons h1 t =>
        cases t
        cases h1 with
        | tup hq t => exact ⟨_, _, rfl, .inr ⟨hK ▸ sqT_ext hq s2.rel.sub, hk _ F2 H1 s2 (hK ▸ wlk_enumT hq t)⟩⟩
    · cases ek) (fun r ρ1 => by
    split
    · exact .inl ⟨_, _, rfl⟩
    · exact .inl ⟨_, _, rfl⟩
    · exact .inr rfl)⟩
end
def sqO1 (o : Option (List D × Rho)) : Out (List D) := match o with
  | some ([.lst xs], ρ) => .ok (enumD xs) ρ
  | some ([.tup xs], ρ) => .ok (enumD xs) ρ
  | _ => .stuck
@[simp] theorem x_sqO1l {xs : List D} {ρ : Rho} : sqO1 (some ([.lst xs], ρ)) = .ok (enumD xs) ρ := rfl
@[simp] theorem x_sqO1t {xs : List D} {ρ : Rho} : sqO1 (some ([.tup xs], ρ)) = .ok (enumD xs) ρ := rfl
@[simp] theorem x_iEnT {ma : MA} {ρ : Rho} : iEnT ma ρ = bindO (ma ρ) fun rs ρ1 => sqO1 (settles rs ρ1) := rfl
end PyD

namespace PyD
open PySem PySem.Spec PyProof.Rows L2

/-! ### a, b, .. = a tuple or a list -/
def gEi (g g' : TG) : TG := fun v σ H Q => g v σ H Q ∨ g' v σ H Q
theorem pg_ei {X : Cx} {tg : Expr} {g g' : TG} (h : PG X tg g) (h' : PG X tg g') : PG X tg (gEi g g') := ⟨fun pins s σ H v u Q I r q => q.elim (fun q => h.run pins s σ H v u Q I r q) fun q => h'.run pins s σ H v u Q I r q⟩
def gL (n : Nat) (g : Tgs) : Tg := fun d ρ => match d with
  | .tup ds => if ds.length = n then g ds ρ else none
  | .lst ds => if ds.length = n then g ds ρ else none
  | _ => none
theorem tgx_l {Γ : Gm} {u : TGs} {g : Tgs} {n : Nat} (h2 : TgsX Γ u g) : TgX Γ (gEi (gTup Γ.G.K n u) (gUnl Γ.G.K n u)) (gL n g) := by
  intro v d ρ ρ' σ F H Q R h e k
  unfold gL at e
  split at e
  · rename_i ds
    split at e
    · rename_i hn
      cases h with
      | tup hs t => exact .inl ⟨_, _, rfl, sqT_ext hs R.sub, by rw [t.length]; exact hn, h2 _ ds ρ ρ' σ F H Q R t e k⟩
    · cases e
  · rename_i ds
    split at e
    · rename_i hn
      cases h with
      | lst hs t => exact .inr ⟨_, _, rfl, SqL.of (R.sub _ _ hs), by rw [t.length]; exact hn, h2 _ ds ρ ρ' σ F H Q R t e k⟩
    · cases e
  · cases e
theorem TgsOk.x {Γ : Gm} {g : TGs} {f : Tgs} (h : TgsOk Γ g f) : TgsX Γ g f := fun v d ρ ρ' σ F H Q R dp e k => h v d ρ ρ' σ F H Q R dp e fun σ' s => k σ' F H s
@[simp] theorem x_gLt {n : Nat} {g : Tgs} {ds : List D} {ρ : Rho} : gL n g (.tup ds) ρ = if ds.length = n then g ds ρ else none := rfl
@[simp] theorem x_gLl {n : Nat} {g : Tgs} {ds : List D} {ρ : Rho} : gL n g (.lst ds) ρ = if ds.length = n then g ds ρ else none := rfl
end PyD

namespace PyD
open PySem PySem.Spec PyProof.Rows L2
/-! ### rows for simp: own [], len; lists, texts, dicts -/
@[simp] theorem x_mIxO {E : Nat → Option Fn} {ma mb : M} {ρ : Rho} : mIxO E ma mb ρ = bindF (ma ρ) fun a ρ1 => bindF (mb ρ1) fun b ρ2 => ixDisp E (resolve ρ2 a) a b ρ2 := rfl
@[simp] theorem x_ixDl {E : Nat → Option Fn} {xs : List D} {a b : Res} {ρ : Rho} : ixDisp E (some (.lst xs)) a b ρ = op2 ixD a b ρ := rfl
@[simp] theorem x_ixDt {E : Nat → Option Fn} {xs : List D} {a b : Res} {ρ : Rho} : ixDisp E (some (.tup xs)) a b ρ = op2 ixD a b ρ := rfl
@[simp] theorem x_ixDr {E : Nat → Option Fn} {xs : List Int} {a b : Res} {ρ : Rho} : ixDisp E (some (.scr xs)) a b ρ = op2 ixD a b ρ := rfl
@[simp] theorem x_ixDs {E : Nat → Option Fn} {xs : Str} {a b : Res} {ρ : Rho} : ixDisp E (some (.str xs)) a b ρ = op2 ixD a b ρ := rfl
@[simp] theorem x_ixDd {E : Nat → Option Fn} {xs : List (Key × D)} {a b : Res} {ρ : Rho} : ixDisp E (some (.dct xs)) a b ρ = op2 ixD a b ρ := rfl
def ixFn (o : Option Fn) (a b : Res) (ρ : Rho) : Out Res := match o with | some f => callR [false, false] f [a, b] ρ | none => .stuck
@[simp] theorem x_ixFn {f : Fn} {a b : Res} {ρ : Rho} : ixFn (some f) a b ρ = callR [false, false] f [a, b] ρ := rfl
@[simp] theorem x_ixDo {E : Nat → Option Fn} {c : Nat} {fs : List (Str × D)} {a b : Res} {ρ : Rho} : ixDisp E (some (.obj c fs)) a b ρ = ixFn (E c) a b ρ := by
  show ixCall E c a b ρ = _
  unfold ixCall ixFn; rfl
@[simp] theorem x_orC {f g : List D → Option Res} {ds : List D} : orC f g ds = orR (f ds) (g ds) := by unfold orC orR; cases f ds <;> rfl
def intR (o : Option Int) : Option Res := o.map fun n => .val (.int n)
@[simp] theorem x_lenOD {E : Nat → Option Fn} {x : D} : lenOD E [x] = if notO x then (lenO E x).map fun n => .val (.int n) else none := rfl
@[simp] theorem x_appD {xs : List D} {y : D} : appendD (.lst xs) [y] = if xs.length < sizeLine then some (.lst (xs ++ [y]), .non) else none := rfl
@[simp] theorem x_extD {xs ys : List D} : extendD (.lst xs) [.lst ys] = if xs.length + ys.length ≤ sizeLine then some (.lst (xs ++ ys), .non) else none := rfl
@[simp] theorem x_tyOl {xs : List D} : tyOk "list" (.lst xs) = true := rfl
@[simp] theorem x_tyOs {xs : Str} : tyOk "str" (.str xs) = true := rfl
@[simp] theorem x_blsN : blsD [] = some [] := rfl
@[simp] theorem x_blsC {b : Bool} {ds : List D} : blsD (.bl b :: ds) = (blsD ds).map (b :: ·) := rfl
@[simp] theorem x_strsN : strsD [] = some [] := rfl
@[simp] theorem x_strsC {b : Str} {ds : List D} : strsD (.str b :: ds) = (strsD ds).map (b :: ·) := rfl
@[simp] theorem x_allD {ds : List D} : allD [.lst ds] = (blsD ds).map fun bs => .val (.bl (bs.all id)) := rfl
@[simp] theorem x_anyD {ds : List D} : anyD [.lst ds] = (blsD ds).map fun bs => .val (.bl (bs.any id)) := rfl
def sortO (o : Option (List Str)) : Option Res := match o with
  | some ss => if ss.length < 64 then some (.new (.lst ((sortS ss).map .str))) else none
  | none => none
@[simp] theorem x_sortO {ss : List Str} : sortO (some ss) = if ss.length < 64 then some (.new (.lst ((sortS ss).map .str))) else none := rfl
@[simp] theorem x_sortedD {xs : List D} : sortedD [.lst xs] = sortO (strsD xs) := by unfold sortedD sortO; rfl
def joinO (a : Str) (o : Option (List Str)) : Option Res := match o with
  | some ys => if (ys.map (·.length)).sum + ys.length * a.length ≤ 16777216 then some (.val (.str (Txt.join a ys))) else none
  | none => none
@[simp] theorem x_joinO {a : Str} {ys : List Str} : joinO a (some ys) = if (ys.map (·.length)).sum + ys.length * a.length ≤ 16777216 then some (.val (.str (Txt.join a ys))) else none := rfl
@[simp] theorem x_joinL {a : Str} {xs : List D} : joinD (.str a) [.lst xs] = joinO a (strsD xs) := by unfold joinD joinO; rfl
@[simp] theorem x_joinT {a : Str} {xs : List D} : joinD (.str a) [.tup xs] = joinO a (strsD xs) := by unfold joinD joinO; rfl
@[simp] theorem x_strDs {a : Str} : strD [.str a] = some (.val (.str a)) := rfl
@[simp] theorem x_repL {xs : List D} {k : Int} : mulD (.lst xs) (.int k) = if decide (-(2 ^ 63) ≤ k) && decide (k < 2 ^ 63) && decide (xs.length * k.toNat ≤ sizeLine) then some (.new (.lst (List.replicate k.toNat xs).flatten)) else none := by
  simp only [mulD, orF, fII, fRepL]
  split
  · rename_i r h; split at h <;> simp_all
  · rename_i h; split at h <;> simp_all [fRepT]
@[simp] theorem x_slL {xs : List D} {lo hi : Option Int} : slD (.lst xs) lo hi = some (.new (.lst (cutD xs lo hi))) := rfl
@[simp] theorem x_dctI {kvs : List (Key × D)} {k : D} : ixD (.dct kvs) k = ((keyD k).bind fun k => valK kvs k).map .val := by
  cases k <;> rfl
@[simp] theorem x_valKN {k : Key} : valK [] k = none := rfl
theorem x_valKC {k k' : Key} {v : D} {r : List (Key × D)} : valK ((k', v) :: r) k = if k' = k then some v else valK r k := by
  unfold valK
  simp only [List.find?_cons]
  by_cases h : k' = k <;> simp [h]
@[simp] theorem x_putKN {k : Key} {v : D} : putKD [] k v = [(k, v)] := rfl
/-- no such key yet -/
theorem putK_new {kvs : List (Key × D)} {k : Key} {v : D} (h : ∀ kv ∈ kvs, kv.1 ≠ k) : putKD kvs k v = kvs ++ [(k, v)] := by
  unfold putKD
  rw [if_neg]
  intro z
  obtain ⟨kv, h1, h2⟩ := List.any_eq_true.mp z
  exact h kv h1 (of_decide_eq_true h2)
end PyD

namespace PyD
open PySem PySem.Spec PyProof.Rows L2

/-! ### *e in displays and calls -/
def seqD : D → Option (List D)
  | .lst xs => some xs
  | .tup xs => some xs
  | _ => none
def starR (r : Res) (ρ : Rho) : Option (List D × Rho) := match settle r ρ with
  | some (d, ρ1) => (match seqD d with | some ds => some (ds, ρ1) | none => none)
  | none => none
def mStar (ma : M) (mr : MA) : MA := fun ρ => bindF (ma ρ) fun a ρ1 => match starR a ρ1 with
  | some (ds, ρ2) => bindO (mr ρ2) fun as ρ3 => .ok (ds.map .val ++ as) ρ3
  | none => .stuck
section
variable {X : Cx} {Γ : Gm} {W : WX} {e : Expr} {ma : M} {mr : MA} {pos p : Pos} {es : List Expr}
theorem ja_star (hK : X.K = Γ.G.K) (ha : PE X e (tM Γ W ma)) (hr : PA X es (tMA Γ W mr)) (hs : starEach (.Starred e p :: es) X.env = (true, eval e X.env) :: starEach es X.env := by rfl) : PA X (.Starred e p :: es) (tMA Γ W (mStar ma mr)) :=
  (StX.pa_star (je_f ha) hr hs).imp fun σ H Q ⟨ρ, F, R, p⟩ => ⟨ρ, F, R, p.bindF fun r ρ1 v F1 H1 s1 hr p1 => by
    split at p1
    · rename_i ds ρ2 e1
      unfold starR at e1
      split at e1
      · rename_i d ρ3 es
        split at e1
        · rename_i ds' eq
          cases e1
          obtain ⟨F2, s2, hd⟩ := settle_ok s1.rel hr es
          have fin : ∀ (a : Addr) (vs : List V), v = .ref a → (SqT X.K H1 a vs ∨ SqL X.K H1 a vs) → DpL Γ.G F2 vs ds → ∃ p xs, v = V.ref p ∧ (SqT X.K H1 p xs ∨ SqL X.K H1 p xs) ∧ tMA Γ W mr σ H1 fun ys H2 => Q (xs ++ ys) H2 := fun a vs ea hq t =>
            ⟨a, vs, ea, hq, ρ2, F2, s2.rel, (p1.shift s2).bindA fun rs ρ4 us F4 H4 s4 hrs p4 => p4 (vs ++ us) F4 H4 (.refl s4.rel) ((dfl_rep (t.mono s4.subF)).app hrs)⟩
          cases d with
          | lst xs =>
            simp only [seqD, Option.some.injEq] at eq; subst eq
            cases hd with | lst ha t => exact fin _ _ rfl (.inr (SqL.of (s2.rel.sub _ _ ha))) t
          | tup xs =>
            simp only [seqD, Option.some.injEq] at eq; subst eq
            cases hd with | tup ha t => exact fin _ _ rfl (.inl (hK ▸ sqT_ext ha s2.rel.sub)) t
          | _ => simp [seqD] at eq
        · cases e1
      · cases e1
    · exact p1.elim⟩
end
def stO (o : Option (List D × Rho)) (k : List D → Rho → Out (List Res)) : Out (List Res) := match o with
  | some (ds, ρ) => k ds ρ
  | none => .stuck
def starS (o : Option (D × Rho)) : Option (List D × Rho) := match o with
  | some (d, ρ1) => (match seqD d with | some ds => some (ds, ρ1) | none => none)
  | none => none
@[simp] theorem x_starSl {xs : List D} {ρ : Rho} : starS (some (.lst xs, ρ)) = some (xs, ρ) := rfl
@[simp] theorem x_starSt {xs : List D} {ρ : Rho} : starS (some (.tup xs, ρ)) = some (xs, ρ) := rfl
@[simp] theorem x_starR {r : Res} {ρ : Rho} : starR r ρ = starS (PyD.settle r ρ) := rfl
@[simp] theorem x_stO {ds : List D} {ρ : Rho} {k : List D → Rho → Out (List Res)} : stO (some (ds, ρ)) k = k ds ρ := rfl
@[simp] theorem x_mStar {ma : M} {mr : MA} {ρ : Rho} : mStar ma mr ρ = bindF (ma ρ) fun a ρ1 => stO (starR a ρ1) fun ds ρ2 => bindO (mr ρ2) fun as ρ3 => .ok (ds.map .val ++ as) ρ3 := rfl
@[simp] theorem resolves_app {ρ : Rho} : ∀ {ds : List D} {rs : List Res}, resolves ρ (ds.map .val ++ rs) = (resolves ρ rs).map (ds ++ ·)
  | [], rs => by simp
  | d :: ds, rs => by
    simp only [List.map_cons, List.cons_append, x_resC, x_resV, resolves_app (ds := ds)]
    cases resolves ρ rs <;> rfl
@[simp] theorem settles_app {ρ : Rho} : ∀ {ds : List D} {rs : List Res}, settles (ds.map .val ++ rs) ρ = (settles rs ρ).map fun p => (ds ++ p.1, p.2)
  | [], rs => by simp
  | d :: ds, rs => by
    simp only [List.map_cons, List.cons_append, x_stCons, x_setV, x_stC, settles_app (ds := ds)]
    cases settles rs ρ <;> rfl

/-! ### [e for a in .. for b in ..] -/
theorem lcIn_ok {Γ : Gm} {g : TG} {f : Tg} {t : MB} {me : M} {vs : List Nat} {J : It} {ds ac acc : List D} {av : List V} {ρ0 ρ ρ2 : Rho} {σ0 σ : St} {F0 H0 F H : Hp} {D : Addr} {Nx : Hp → Prop}
    (hf : ∀ D, TgV (Γ.also D) g f vs) (s : Stp Γ ρ0 σ0 F0 H0 ρ σ F H) (h0 : H0 D = none) (uD : ¬ Γ.U D) (hD : H D = some (.lst av)) (fD : F D = none) (nD : ¬ Own Γ ρ σ F H D) (dp0 : DpL Γ.G F av ac)
    (w : Wlk Γ.G J F ds) (e : lcD vs f t me ds ac (wipeR ρ vs) = .ok acc ρ2)
    (k : ∀ F' H' av', Stp Γ ρ0 σ0 F0 H0 ρ2 σ F' H' → H' D = some (.lst av') → F' D = none → ¬ Own Γ ρ2 σ F' H' D → DpL Γ.G F' av' acc → Nx H') :
    ∃ V : Nat → Nat → Hp → Prop, (∃ m, V 0 m H) ∧ ∀ i m H, V i m H →
      (J.stop i H ∧ Nx H) ∨ (J.go i H ∧ ∃ N1 : Hp → Prop, (∀ H', N1 H' → ∃ m', m' < m ∧ V (i + 1) m' H') ∧ ∀ x H', J.yld i H x H' → g x (wipe σ vs) H' fun σ2 H2 => wipe σ2 vs = wipe σ vs ∧ (∃ D', tMB (Γ.also D') W0 t σ2 H2 fun b H3 =>
        if b = true then (∃ D', tF (Γ.also D') W0 me σ2 H3 fun y H4 => ∃ acc, H4 D = some (.lst acc) ∧ acc.length < sizeLine ∧ N1 (upd H4 D (.lst (acc ++ [y])))) else N1 H3)) := by
  have wl : (wipe σ vs).length = σ.length := wipe_length σ vs
  have s0 : Stp Γ ρ0 σ0 F0 H0 (wipeR ρ vs) (wipe σ vs) F H := s.wipe (fun i hi => wipe_out hi) wl
  have nD0 : ¬ Own Γ (wipeR ρ vs) (wipe σ vs) F H D := fun z => nD ((s.rel.wipe (fun i hi => wipe_out hi) wl).2 D z)
  let St' : Nat → Hp → Prop := fun i H' => ∃ ρ' F' ac av, Stp Γ ρ0 σ0 F0 H0 ρ' (wipe σ vs) F' H' ∧ Same F F' ∧ wipeR ρ' vs = ρ' ∧ H' D = some (.lst av) ∧ F' D = none ∧ ¬ Own Γ ρ' (wipe σ vs) F' H' D ∧ DpL Γ.G F' av ac ∧ lcD vs f t me (ds.drop i) ac ρ' = .ok acc ρ2
  refine ⟨fun i m H' => m = ds.length - i ∧ i ≤ ds.length ∧ St' i H', ⟨ds.length, by simp, Nat.zero_le _, wipeR ρ vs, F, ac, av, s0, Same.refl _, wipeR_idem ρ vs, hD, fD, nD0, dp0, by simpa using e⟩, ?_⟩
  rintro i m H1 ⟨rfl, hi, ρ1, F1, ac, av, s1, sF, wρ, hD1, fD1, nD1, dp, e1⟩
  have wF := w.mono sF
  by_cases hlt : i < ds.length
  · refine .inr ⟨wF.go i H1 s1.rel.sub hlt, St' (i + 1), fun H2 q => ⟨ds.length - (i + 1), by omega, rfl, hlt, q⟩, fun x H2 y => ?_⟩
    obtain ⟨d, hd, hy⟩ := wF.yld i H1 x H2 s1.rel.sub hlt y
    obtain ⟨F2, al, dpx⟩ := hy F1 (Same.refl _) s1.rel.sub
    have ed : ds.drop i = d :: ds.drop (i + 1) := by
      rw [List.getElem?_eq_getElem hlt] at hd
      rw [← Option.some.inj hd]
      exact List.drop_eq_getElem_cons hlt
    rw [ed] at e1
    simp only [lcD] at e1
    cases ef : f d ρ1 with
    | none => rw [ef] at e1; cases e1
    | some ρ3 =>
      rw [ef] at e1
      simp only at e1
      have R1 : Rel (Γ.also D) ρ1 (wipe σ vs) F1 H1 := s1.rel.also fD1 hD1 nD1
      have s2 := al.stp R1
      refine hf D x d ρ1 ρ3 (wipe σ vs) F2 H2 _ s2.rel dpx ef fun σ3 s3 w3 l3 => ⟨wipe_idem w3 l3, D, ρ3, F2, s3.rel, ?_⟩
      have s13 := s2.trans s3
      cases et : t ρ3 with
      | ok b ρ4 =>
        rw [et] at e1
        intro F4 H4 s4
        have s14 := s13.trans s4
        cases b with
        | true =>
          simp only at e1
          simp only [if_true]
          refine ⟨D, ρ4, F4, s4.rel, ?_⟩
          cases em : me ρ4 with
          | ok r ρ5 =>
            rw [em] at e1
            simp only at e1
            cases es : settle r.frz ρ5 with
            | none => rw [es] at e1; cases e1
            | some p =>
              obtain ⟨yd, ρ6⟩ := p
              rw [es] at e1
              simp only at e1
              split at e1
              · rename_i hz
                intro v F5 H5 s5 hv
                obtain ⟨F6, s6, hd6⟩ := settle_ok s5.rel hv es
                have s16 := (s14.trans s5).trans s6
                obtain ⟨u1, u2, u3, u4⟩ := s16.unalso
                refine ⟨av, by rw [u2]; exact hD1, by rw [dp.length]; exact hz, ?_⟩
                have sw := (s1.trans u1).wipe (vs := vs) (σ' := wipe σ vs) (fun j hj => (w3 j hj).symm) l3.symm
                have nO : ¬ Own Γ (wipeR ρ6 vs) (wipe σ vs) F6 H5 D := fun z => u4 ((u1.rel.wipe (vs := vs) (σ' := wipe σ vs) (fun j hj => (w3 j hj).symm) l3.symm).2 D z)
                obtain ⟨so, no⟩ := sw.out (o := .lst (av ++ [v])) h0 uD u3 nO
                exact ⟨wipeR ρ6 vs, F6, ac ++ [yd], av ++ [v], so, sF.trans s16.subF, wipeR_idem ρ6 vs, upd_same, u3, no, (dp.mono s16.subF).append (.cons hd6 .nil), e1⟩
              · cases e1
          | exc x ρ5 => rw [em] at e1; cases e1
          | stuck => rw [em] at e1; cases e1
        | false =>
          simp only at e1
          simp only [Bool.false_eq_true, if_false]
          obtain ⟨u1, u2, u3, u4⟩ := s14.unalso
          have sw := (s1.trans u1).wipe (vs := vs) (σ' := wipe σ vs) (fun j hj => (w3 j hj).symm) l3.symm
          exact ⟨wipeR ρ4 vs, F4, ac, av, sw, sF.trans s14.subF, wipeR_idem ρ4 vs, by rw [u2]; exact hD1, u3, fun z => u4 ((u1.rel.wipe (vs := vs) (σ' := wipe σ vs) (fun j hj => (w3 j hj).symm) l3.symm).2 D z), dp.mono s14.subF, e1⟩
      | exc x ρ4 => rw [et] at e1; cases e1
      | stuck => rw [et] at e1; cases e1
  · have ei : i = ds.length := by omega
    subst ei
    rw [List.drop_length] at e1
    simp only [lcD, Out.ok.injEq] at e1
    obtain ⟨rfl, rfl⟩ := e1
    have sw : Stp Γ ρ0 σ0 F0 H0 ρ1 σ F1 H1 := by
      have q := s1.wipe (vs := vs) (σ' := σ) (fun j hj => (wipe_out hj).symm) wl.symm
      rwa [wρ] at q
    refine .inl ⟨wF.stop _ H1 s1.rel.sub (Nat.le_refl _), k F1 H1 av sw hD1 fD1 (fun z => ?_) dp⟩
    have q := (s1.rel.wipe (vs := vs) (σ' := σ) (fun j hj => (wipe_out hj).symm) wl.symm).2 D
    rw [wρ] at q
    exact nD1 (q z)
def lc2D (vs : List Nat) (f : Tg) (t : MB) (mi1 : MI) (vs1 : List Nat) (f1 : Tg) (t1 : MB) (me : M) : List D → List D → Rho → Out (List D)
  | [], acc, ρ => .ok acc ρ
  | d :: ds, acc, ρ => match f d ρ with
    | some ρ1 => (match t ρ1 with
      | .ok true ρ2 => (match mi1 ρ2 with
        | .ok es ρ3 => (match lcD vs1 f1 t1 me es acc (wipeR ρ3 vs1) with
          | .ok acc' ρ4 => lc2D vs f t mi1 vs1 f1 t1 me ds acc' (wipeR ρ4 vs)
          | _ => .stuck)
        | _ => .stuck)
      | .ok false ρ2 => lc2D vs f t mi1 vs1 f1 t1 me ds acc (wipeR ρ2 vs)
      | _ => .stuck)
    | none => .stuck
def mLc2 (vs : List Nat) (mi : MI) (f : Tg) (t : MB) (mi1 : MI) (vs1 : List Nat) (f1 : Tg) (t1 : MB) (me : M) : M := fun ρ => bindO (mi ρ) fun ds ρ1 => match lc2D vs f t mi1 vs1 f1 t1 me ds [] (wipeR ρ1 vs) with
  | .ok acc ρ2 => .ok (.new (.lst acc)) ρ2
  | _ => .stuck
def tAI (Γ : Gm) (mi : MI) : TI := fun σ H R => ∃ D, iM (Γ.also D) W0 mi σ H R
theorem lc2_ok {Γ : Gm} {g g1 : TG} {f f1 : Tg} {t t1 : MB} {mi1 : MI} {me : M} {vs vs1 : List Nat} {J : It} {ds acc : List D} {ρ ρ2 : Rho} {σ : St} {F H : Hp} {Qd : Addr → Hp → Prop} (hf : ∀ D, TgV (Γ.also D) g f vs) (hf1 : ∀ D, TgV (Γ.also D) g1 f1 vs1) (R : Rel Γ ρ σ F H) (w : Wlk Γ.G J F ds) (e : lc2D vs f t mi1 vs1 f1 t1 me ds [] (wipeR ρ vs) = .ok acc ρ2)
    (k : ∀ D F' H', Stp Γ ρ σ F H ρ2 σ F' H' → Cell Γ.G F' H' D (.lst acc) → Fresh Γ ρ2 σ F' H' [D] → Qd D H') :
    ∀ D, H D = none → ∃ V : Nat → Nat → Hp → Prop, (∃ m, V 0 m (upd H D (.lst []))) ∧ ∀ i m H, V i m H →
      (J.stop i H ∧ Qd D H) ∨ (J.go i H ∧ ∃ Nx : Hp → Prop, (∀ H', Nx H' → ∃ m', m' < m ∧ V (i + 1) m' H') ∧ ∀ x H', J.yld i H x H' → g x (wipe σ vs) H' fun σ2 H2 => wipe σ2 vs = wipe σ vs ∧ tAB Γ t σ2 H2 fun b H3 =>
        if b = true then tAI Γ mi1 σ2 H3 fun J1 H4 => ∃ W1 : Nat → Nat → Hp → Prop, (∃ m, W1 0 m H4) ∧ ∀ j k H, W1 j k H →
          (J1.stop j H ∧ Nx H) ∨ (J1.go j H ∧ ∃ Nx1 : Hp → Prop, (∀ H', Nx1 H' → ∃ k', k' < k ∧ W1 (j + 1) k' H') ∧ ∀ x H', J1.yld j H x H' → g1 x (wipe σ2 vs1) H' fun σ3 H5 => wipe σ3 vs1 = wipe σ2 vs1 ∧ tAB Γ t1 σ3 H5 fun b H6 =>
            if b = true then tAF Γ me σ3 H6 fun y H7 => ∃ acc, H7 D = some (.lst acc) ∧ acc.length < sizeLine ∧ Nx1 (upd H7 D (.lst (acc ++ [y]))) else Nx1 H6)
        else Nx H3) := by
  intro D hD
  have wl : (wipe σ vs).length = σ.length := wipe_length σ vs
  have s0 : Stp Γ ρ σ F H (wipeR ρ vs) (wipe σ vs) F H := (Stp.refl R).wipe (fun i hi => wipe_out hi) wl
  have uD : ¬ Γ.U D := fun z => by
    obtain ⟨_, u, hu⟩ := R.ali D z; rw [hD] at hu; cases hu
  have nD0 : ¬ Own Γ (wipeR ρ vs) (wipe σ vs) F H D := fun ⟨j, z⟩ => by
    obtain ⟨u, hu⟩ := Rel.ownH z; rw [hD] at hu; cases hu
  let St' : Nat → Hp → Prop := fun i H' => ∃ ρ' F' ac av, Stp Γ ρ σ F H ρ' (wipe σ vs) F' H' ∧ wipeR ρ' vs = ρ' ∧ H' D = some (.lst av) ∧ F' D = none ∧ ¬ Own Γ ρ' (wipe σ vs) F' H' D ∧ DpL Γ.G F' av ac ∧ lc2D vs f t mi1 vs1 f1 t1 me (ds.drop i) ac ρ' = .ok acc ρ2
  obtain ⟨s0', nD0'⟩ := s0.out (o := .lst []) hD uD (Same.free R.sub hD) nD0
  refine ⟨fun i m H' => m = ds.length - i ∧ i ≤ ds.length ∧ St' i H', ⟨ds.length, by simp, Nat.zero_le _, wipeR ρ vs, F, [], [], s0', wipeR_idem ρ vs, upd_same, Same.free R.sub hD, nD0', .nil, by simpa using e⟩, ?_⟩
  rintro i m H1 ⟨rfl, hi, ρ1, F1, ac, av, s1, wρ, hD1, fD1, nD1, dp, e1⟩
  have wF := w.mono s1.subF
  by_cases hlt : i < ds.length
  · refine .inr ⟨wF.go i H1 s1.rel.sub hlt, St' (i + 1), fun H2 q => ⟨ds.length - (i + 1), by omega, rfl, hlt, q⟩, fun x H2 y => ?_⟩
    obtain ⟨d, hd, hy⟩ := wF.yld i H1 x H2 s1.rel.sub hlt y
    obtain ⟨F2, al, dpx⟩ := hy F1 (Same.refl _) s1.rel.sub
    have ed : ds.drop i = d :: ds.drop (i + 1) := by
      rw [List.getElem?_eq_getElem hlt] at hd
      rw [← Option.some.inj hd]
      exact List.drop_eq_getElem_cons hlt
    rw [ed] at e1
    simp only [lc2D] at e1
    cases ef : f d ρ1 with
    | none => rw [ef] at e1; cases e1
    | some ρ3 =>
      rw [ef] at e1
      simp only at e1
      have R1 : Rel (Γ.also D) ρ1 (wipe σ vs) F1 H1 := s1.rel.also fD1 hD1 nD1
      have s2 := al.stp R1
      refine hf D x d ρ1 ρ3 (wipe σ vs) F2 H2 _ s2.rel dpx ef fun σ3 s3 w3 l3 => ⟨wipe_idem w3 l3, D, ρ3, F2, s3.rel, ?_⟩
      have s13 := s2.trans s3
      cases et : t ρ3 with
      | ok b ρ4 =>
        rw [et] at e1
        intro F4 H4 s4
        have s14 := s13.trans s4
        cases b with
        | true =>
          simp only at e1
          simp only [if_true]
          refine ⟨D, ρ4, F4, s4.rel, ?_⟩
          cases em : mi1 ρ4 with
          | ok es ρ5 =>
            rw [em] at e1
            simp only at e1
            intro J1 F5 H5 s5 w1
            obtain ⟨u1, u2, u3, u4⟩ := (s14.trans s5).unalso
            split at e1
            · rename_i acc' ρ6 el
              have hk : ∀ F' H' av', Stp Γ ρ σ F H ρ6 σ3 F' H' → H' D = some (.lst av') → F' D = none → ¬ Own Γ ρ6 σ3 F' H' D → DpL Γ.G F' av' acc' → St' (i + 1) H' := fun F' H' av' s6 q1 q2 q3 q4 => by
                have sw := s6.wipe (vs := vs) (σ' := wipe σ vs) (fun j hj => (w3 j hj).symm) l3.symm
                exact ⟨wipeR ρ6 vs, F', acc', av', sw, wipeR_idem ρ6 vs, q1, q2, fun z => q3 ((s6.rel.wipe (vs := vs) (σ' := wipe σ vs) (fun j hj => (w3 j hj).symm) l3.symm).2 D z), q4, e1⟩
              exact lcIn_ok hf1 (s1.trans u1) hD uD (by rw [u2]; exact hD1) u3 u4 (dp.mono (s14.trans s5).subF) w1 el hk
            · cases e1
          | exc x ρ5 => rw [em] at e1; cases e1
          | stuck => rw [em] at e1; cases e1
        | false =>
          simp only at e1
          simp only [Bool.false_eq_true, if_false]
          obtain ⟨u1, u2, u3, u4⟩ := s14.unalso
          have sw := (s1.trans u1).wipe (vs := vs) (σ' := wipe σ vs) (fun j hj => (w3 j hj).symm) l3.symm
          exact ⟨wipeR ρ4 vs, F4, ac, av, sw, wipeR_idem ρ4 vs, by rw [u2]; exact hD1, u3, fun z => u4 ((u1.rel.wipe (vs := vs) (σ' := wipe σ vs) (fun j hj => (w3 j hj).symm) l3.symm).2 D z), dp.mono s14.subF, e1⟩
      | exc x ρ4 => rw [et] at e1; cases e1
      | stuck => rw [et] at e1; cases e1
  · have ei : i = ds.length := by omega
    subst ei
    rw [List.drop_length] at e1
    simp only [lc2D, Out.ok.injEq] at e1
    obtain ⟨rfl, rfl⟩ := e1
    have sw : Stp Γ ρ σ F H ρ1 σ F1 H1 := by
      have q := s1.wipe (vs := vs) (σ' := σ) (fun j hj => (wipe_out hj).symm) wl.symm
      rwa [wρ] at q
    refine .inl ⟨wF.stop _ H1 s1.rel.sub (Nat.le_refl _), k D F1 H1 sw ⟨av, hD1, dp⟩ fun b hb => ?_⟩
    obtain rfl : b = D := by simpa using hb
    refine ⟨fD1, uD, fun z => ?_⟩
    have q := (s1.rel.wipe (vs := vs) (σ' := σ) (fun j hj => (wipe_out hj).symm) wl.symm).2 b
    rw [wρ] at q
    exact nD1 (q z)
section
variable {X : Cx} {Γ : Gm} {W : WX} {elt tg iter tg1 iter1 : Expr} {ifs ifs1 : List Expr} {scope : Scope} {own : List (Str × Nat)} {vs1 : List Nat} {pos spos : Pos} {mi mi1 : MI} {g g1 : TG} {f f1 : Tg} {t t1 : MB} {me : M}
theorem mLc2_ok (hf : ∀ D, TgV (Γ.also D) g f (own.map (·.2))) (hf1 : ∀ D, TgV (Γ.also D) g1 f1 vs1) : ∀ σ H Q, tM Γ W (mLc2 (own.map (·.2)) mi f t mi1 vs1 f1 t1 me) σ H Q → tLc2 (iM Γ W mi) g (tAB Γ t) (tAI Γ mi1) g1 (tAB Γ t1) (tAF Γ me) (own.map (·.2)) vs1 σ H Q := fun σ H Q ⟨ρ, F, R, p⟩ => by
  refine ⟨ρ, F, R, ?_⟩
  unfold mLc2 at p
  cases e : mi ρ with
  | ok ds ρ1 =>
    rw [e] at p
    simp only [bindO] at p
    intro J F1 H1 s1 w
    split at p
    · rename_i acc ρ2 el
      exact lc2_ok (Qd := fun D H' => Q (.ref D) H') hf hf1 s1.rel w el fun D F' H' s2 c fr => p _ F' H' (s1.trans s2) ⟨D, [D], rfl, .flat c, fr⟩
    · exact p.elim
  | exc x ρ1 => rw [e] at p; exact p
  | stuck => rw [e] at p; exact p.elim
theorem pi_any {X : Cx} {Γ : Gm} {tg e : Expr} {mi : MI} (h : ∀ D, PI X tg e (iM (Γ.also D) W0 mi)) : PI X tg e (tAI Γ mi) := ⟨fun pins s σ H R I ⟨D, q⟩ => (h D).run pins s σ H R I q⟩
theorem je_lc2 (hc : X.calm = true) (hN : X.N.Nodup) (hv : ∀ i ∈ vs1, i ∈ own.map (·.2)) (hi : PI X tg iter (iM Γ W mi)) (ok : BlkOk X.N X.env.scope scope own) (hf : ∀ D, TgV (Γ.also D) g f (own.map (·.2))) (hf1 : ∀ D, TgV (Γ.also D) g1 f1 vs1)
    (hg : ∀ (s : Shared) (H : Hp) (C : Addr) (cl : List (Str × Addr)) (fp : List Addr), PG (X.blk s H scope (compEnvC scope cl C X.env) fp) tg g) (ht : ∀ (D : Addr) (s : Shared) (H : Hp) (C : Addr) (cl : List (Str × Addr)) (fp : List Addr), PTs (X.blk s H scope (compEnvC scope cl C X.env) fp) ifs (tMB (Γ.also D) W0 t))
    (hi1 : ∀ (D : Addr) (s : Shared) (H : Hp) (C : Addr) (cl : List (Str × Addr)) (fp : List Addr), PI (X.blk s H scope (compEnvC scope cl C X.env) fp) tg1 iter1 (iM (Γ.also D) W0 mi1))
    (hg1 : ∀ (s : Shared) (H : Hp) (C : Addr) (cl : List (Str × Addr)) (fp : List Addr), PG (X.blk s H scope (compEnvC scope cl C X.env) fp) tg1 g1) (ht1 : ∀ (D : Addr) (s : Shared) (H : Hp) (C : Addr) (cl : List (Str × Addr)) (fp : List Addr), PTs (X.blk s H scope (compEnvC scope cl C X.env) fp) ifs1 (tMB (Γ.also D) W0 t1))
    (he : ∀ (D : Addr) (s : Shared) (H : Hp) (C : Addr) (cl : List (Str × Addr)) (fp : List Addr), PE (X.blk s H scope (compEnvC scope cl C X.env) fp) elt (tM (Γ.also D) W0 me)) (hs : ∀ x, foldedSetIterable iter X.env x = pure x := by intro _; rfl) (hs1 : ∀ env x, foldedSetIterable iter1 env x = pure x := by intro _ _; rfl) :
    PE X (.ListComp elt [⟨tg, iter, ifs, 0⟩, ⟨tg1, iter1, ifs1, 0⟩] scope pos) (tM Γ W (mLc2 (own.map (·.2)) mi f t mi1 vs1 f1 t1 me)) :=
  (pe_lc2 hc hN hi ok hv hg (fun s H C cl fp => pts_any fun D => ht D s H C cl fp) (fun s H C cl fp => pi_any fun D => hi1 D s H C cl fp) hg1 (fun s H C cl fp => pts_any fun D => ht1 D s H C cl fp) (fun s H C cl fp => pe_any fun D => he D s H C cl fp) hs hs1).imp (mLc2_ok hf hf1)
/-- y = [.. for .. for ..] on one line -/
theorem js_setLc2 {i : Nat} {y : Str} {py : Pos} (hc : X.calm = true) (hN : X.N.Nodup) (hv : ∀ i ∈ vs1, i ∈ own.map (·.2)) (hyl : X.env.scope.names.lookup y = some .local)
    (hsw : swapsWith (.ListComp elt [⟨tg, iter, ifs, 0⟩, ⟨tg1, iter1, ifs1, 0⟩] scope pos) (some (.Name y py)) spos.line X.env = pure true) (hi : PI X tg iter (iM Γ W mi)) (ok : BlkOk X.N X.env.scope scope own) (hf : ∀ D, TgV (Γ.also D) g f (own.map (·.2))) (hf1 : ∀ D, TgV (Γ.also D) g1 f1 vs1)
    (hg : ∀ (s : Shared) (H : Hp) (C : Addr) (cl : List (Str × Addr)) (fp : List Addr), PG (X.blk s H scope (compEnvC scope cl C X.env) fp) tg g) (ht : ∀ (D : Addr) (s : Shared) (H : Hp) (C : Addr) (cl : List (Str × Addr)) (fp : List Addr), PTs (X.blk s H scope (compEnvC scope cl C X.env) fp) ifs (tMB (Γ.also D) W0 t))
    (hi1 : ∀ (D : Addr) (s : Shared) (H : Hp) (C : Addr) (cl : List (Str × Addr)) (fp : List Addr), PI (X.blk s H scope (compEnvC scope cl C X.env) fp) tg1 iter1 (iM (Γ.also D) W0 mi1))
    (hg1 : ∀ (s : Shared) (H : Hp) (C : Addr) (cl : List (Str × Addr)) (fp : List Addr), PG (X.blk s H scope (compEnvC scope cl C X.env) fp) tg1 g1) (ht1 : ∀ (D : Addr) (s : Shared) (H : Hp) (C : Addr) (cl : List (Str × Addr)) (fp : List Addr), PTs (X.blk s H scope (compEnvC scope cl C X.env) fp) ifs1 (tMB (Γ.also D) W0 t1))
    (he : ∀ (D : Addr) (s : Shared) (H : Hp) (C : Addr) (cl : List (Str × Addr)) (fp : List Addr), PE (X.blk s H scope (compEnvC scope cl C X.env) fp) elt (tM (Γ.also D) W0 me)) (hy : X.N[i]? = some y := by rfl) (hs : ∀ x, foldedSetIterable iter X.env x = pure x := by intro _; rfl) (hs1 : ∀ env x, foldedSetIterable iter1 env x = pure x := by intro _ _; rfl) :
    PS X (.Assign [.Name y py] (.ListComp elt [⟨tg, iter, ifs, 0⟩, ⟨tg1, iter1, ifs1, 0⟩] scope pos) spos) (tMS Γ W (mSet i (mLc2 (own.map (·.2)) mi f t mi1 vs1 f1 t1 me))) :=
  (ps_setLc2 hc hN hy hyl hsw hi ok hv hg (fun s H C cl fp => pts_any fun D => ht D s H C cl fp) (fun s H C cl fp => pi_any fun D => hi1 D s H C cl fp) hg1 (fun s H C cl fp => pts_any fun D => ht1 D s H C cl fp) (fun s H C cl fp => pe_any fun D => he D s H C cl fp) hs hs1).imp fun D σ H ⟨ρ, F, R, p⟩ => mLc2_ok hf hf1 σ H _ ⟨ρ, F, R, p.bindM fun r ρ1 v F1 H1 s1 hr p1 => set_go s1 hr p1⟩
end
end PyD

namespace PyD
open PySem PySem.Spec PyProof.Rows L2

/-! ### list(range(..)) -/
def rgL : D → D → Option Res
  | .int i, .int j => if (decide (-(2 ^ 62) ≤ i) && decide (i < 2 ^ 62)) && ((decide (-(2 ^ 62) ≤ j) && decide (j < 2 ^ 62)) && decide ((j - i).toNat ≤ 2 ^ 24)) then some (.new (.lst (rangeD i (j - i).toNat))) else none
  | _, _ => none
def rRgL : R2 := fun x y H Q => ∃ i j, x = .int i ∧ y = .int j ∧ RgOk i j ∧ ∀ q, H q = none → Q (.ref q) (upd H q (.lst (rgV i j)))
theorem dpl_range {G : Gx} {F : Hp} (lo : Int) : ∀ ks : List Nat, DpL G F (ks.map fun i => V.int (lo + (i : Nat))) (ks.map fun i => D.int (lo + (i : Nat)))
  | [] => .nil
  | k :: ks => .cons (.int _) (dpl_range lo ks)
theorem rgL_ok {G : Gx} : BinOk G rRgL rgL := by
  intro F H x y dx dy res Q e vx vy q k
  unfold rgL at q
  split at q
  · split at q
    · rename_i i j w
      cases q
      simp only [Bool.and_eq_true, decide_eq_true_eq] at w
      exact ⟨i, j, vx.int, vy.int, ⟨w.1.1, w.1.2, w.2.1.1, w.2.1.2, w.2.2⟩, fun p hp => k _ F _ (.cell e hp) ⟨p, rfl, Same.free e hp, ⟨_, upd_same, dpl_range i _⟩, hp⟩⟩
    · cases q
  · cases q
section
variable {X : Cx} {Γ : Gm} {W : WX} {a b : Expr} {ma mb : M} {p q pos pos2 : Pos}
theorem je_lrg2 (hc : X.calm = true) (hm : X.mg "list" = none) (hm2 : X.mg "range" = none) (ha : PE X a (tM Γ W ma)) (hb : PE X b (tM Γ W mb)) (hg : Gl X "list" := by rfl) (hg2 : Gl X "range" := by rfl) (na : starEach [a, b] X.env = (false, eval a X.env) :: starEach [b] X.env := by rfl)
    (nb : starEach [b] X.env = (false, eval b X.env) :: starEach [] X.env := by rfl) (hp : (backTo pos2 (starEach [b] X.env)).any (·.1) = false := by rfl) (na0 : starEach [.Call (.Name "range" q) [a, b] [] pos2] X.env = (false, eval (.Call (.Name "range" q) [a, b] [] pos2) X.env) :: starEach [] X.env := by rfl) :
    PE X (.Call (.Name "list" p) [.Call (.Name "range" q) [a, b] [] pos2] [] pos) (tM Γ W (mBin rgL ma mb)) :=
  (pe_listRg hc hg hm (prg_2 hg2 hm2 (je_f ha) (je_f hb) na nb hp) na0).imp fun σ H Q h => by
    have := tOp_ok (rgL_ok (G := Γ.G)) σ H Q h
    exact this
theorem je_lrg1 (hc : X.calm = true) (hm : X.mg "list" = none) (hm2 : X.mg "range" = none) (ha : PE X a (tM Γ W ma)) (hg : Gl X "list" := by rfl) (hg2 : Gl X "range" := by rfl) (na : starEach [a] X.env = (false, eval a X.env) :: starEach [] X.env := by rfl)
    (na0 : starEach [.Call (.Name "range" q) [a] [] pos2] X.env = (false, eval (.Call (.Name "range" q) [a] [] pos2) X.env) :: starEach [] X.env := by rfl) :
    PE X (.Call (.Name "list" p) [.Call (.Name "range" q) [a] [] pos2] [] pos) (tM Γ W (mUn (rgL (.int 0)) ma)) :=
  (pe_listRg hc hg hm (prg_1 hg2 hm2 (je_f ha) na) na0).imp fun σ H Q h => by
    have u : UnOk Γ.G (fun x H Q => ∃ j, x = .int j ∧ RgOk 0 j ∧ ∀ q, H q = none → Q (.ref q) (upd H q (.lst (rgV 0 j)))) (rgL (.int 0)) := fun F H x dx res Q e vx q k => by
      obtain ⟨i, j, h1, h2, h3⟩ := rgL_ok F H (.int 0) x (.int 0) dx res Q e (View.of (.int 0)) vx q k
      cases h1
      exact ⟨j, h2, h3⟩
    have := tUn_ok u σ H Q h
    exact this
end
@[simp] theorem x_rgL {i j : Int} : rgL (.int i) (.int j) = if (decide (-(2 ^ 62) ≤ i) && decide (i < 2 ^ 62)) && ((decide (-(2 ^ 62) ≤ j) && decide (j < 2 ^ 62)) && decide ((j - i).toNat ≤ 2 ^ 24)) then some (.new (.lst (rangeD i (j - i).toNat))) else none := rfl

/-! ### o.f as a target -/
def gFld (K : PySem.W.Frag) (to : TE) (f : Str) : TG := fun v σ H Q => to σ H fun x H1 => ∃ a C dx fs, x = .ref a ∧ H1 a = some (.ins C dx fs) ∧ Cls K C ∧ NoAttr K C f ∧ fs.length < 1000 ∧ Q σ (upd H1 a (.ins C dx (putF f v fs)))
theorem pg_fld {X : Cx} {o : Expr} {f : Str} {pos : Pos} {to : TE} (ho : PE X o to) : PG X (.Attribute o f pos) (gFld X.K to f) := by
  refine ⟨fun pins s σ H v u Q I r h => ?_⟩
  rw [assign_Attribute]
  refine wpAny_bind (wpAny_holding (thn (ho.run pins s σ H _ I h) fun ov s1 ⟨x, H1, I1, r1, a, C, dx, fs, ex, ea, c, n, l, q⟩ => ?_))
  subst ex
  obtain rfl : ov = Value.ref a := r1
  refine wpAny_bind (wpAny_standAt (wpAny_bind (wpAny_holding (setattr_ok I1 ea c n l r fun s3 I3 => ?_))))
  exact wpAny_release ⟨σ, _, I3, q⟩
/-- the slot s's attribute f -/
def gFV (T : Tab) (s : Nat) (f : Str) : Tg := fun d ρ => match ρ[s]? with
  | some (some (.own b (.obj c fs))) => if (c < T.n ∧ f ∈ T.flds c) ∧ fs.length < 1000 then some (ρ.set s (some (.own b (.obj c (putD f d fs))))) else none
  | _ => none
theorem tgx_fld {Γ : Gm} {T : Tab} {s : Nat} {f : Str} (O : TabOk Γ.G T) : TgX Γ (gFld Γ.G.K (tVar s) f) (gFV T s f) := by
  intro v d ρ ρ' σ F H Q R dp e q
  unfold gFV at e
  split at e
  · rename_i b c fs e2
    split at e
    · rename_i w
      cases e
      obtain ⟨x, L, h1, a, rfl, ce, hb⟩ := R.slot s _ e2
      obtain ⟨dx, vs, h2, t⟩ := (ce.cell rfl).1
      refine ⟨_, h1, a, _, dx, vs, rfl, h2, O.cls c w.1.1, O.fld c w.1.1 f w.1.2, by rw [t.length]; exact w.2, ?_⟩
      exact q σ F _ (R.upd e2 h1 ce rfl ⟨dx, _, upd_same, t.put dp⟩)
    · cases e
  · cases e
def ownOF (o : Option (Option Slot)) (k : Option Nat → Nat → List (Str × D) → Option Rho) : Option Rho := match o with
  | some (some (.own b (.obj c fs))) => k b c fs
  | _ => none
@[simp] theorem x_ownOF {b : Option Nat} {c : Nat} {fs : List (Str × D)} {k : Option Nat → Nat → List (Str × D) → Option Rho} : ownOF (some (some (.own b (.obj c fs)))) k = k b c fs := rfl
@[simp] theorem x_gFV {T : Tab} {s : Nat} {f : Str} {d : D} {ρ : Rho} : gFV T s f d ρ = ownOF ρ[s]? fun b c fs => if (c < T.n ∧ f ∈ T.flds c) ∧ fs.length < 1000 then some (ρ.set s (some (.own b (.obj c (putD f d fs))))) else none := by
  unfold gFV ownOF; rfl

/-! ### o.f += e -/
def augF (T : Tab) (f : Str) (fo : D → D → Option Res) (me : M) (ro : Res) (ρ : Rho) : SOut := match ro with
  | .at s => (match ρ[s]? with
    | some (some (.own _ (.obj c fs))) => if c < T.n ∧ f ∈ T.flds c then (match fs.lookup f with
      | some v => bindSF (me ρ) fun rv ρ2 => (match resolve ρ2 rv with
        | some y => (match fo v y with
          | some (.val z) => (match ρ2[s]? with
            | some (some (.own b (.obj c' fs'))) => if c' = c ∧ fs'.length < 1000 then .nx (ρ2.set s (some (.own b (.obj c (putD f z fs'))))) else .stuck
            | _ => .stuck)
          | _ => .stuck)
        | none => .stuck)
      | none => .stuck) else .stuck
    | _ => .stuck)
  | _ => .stuck
def mFldA (T : Tab) (f : Str) (fo : D → D → Option Res) (mo me : M) : MS := fun ρ => bindSF (mo ρ) fun ro ρ1 => augF T f fo me ro ρ1
section
variable {X : Cx} {Γ : Gm} {W : WX} {e o : Expr} {mo me : M} {pos tpos : Pos} {f : Str} {T : Tab} {op : Operator} {rd : R2} {fo : D → D → Option Res}
theorem js_flda (O : TabOk Γ.G T) (hK : X.K = Γ.G.K) (hop : InOp X op rd) (hf : BinOk Γ.G rd fo) (ho : PE X o (tM Γ W mo)) (he : PE X e (tM Γ W me)) : PS X (.AugAssign (.Attribute o f tpos) op e pos) (tMS Γ W (mFldA T f fo mo me)) :=
  (ps_fldaug (je_f ho) (je_f he) hop).imp fun D σ H ⟨ρ, F, R, p⟩ => ⟨ρ, F, R, p.bindF fun ro ρ1 x F1 H1 s1 hx p1 => by
    unfold augF at p1
    split at p1
    · rename_i s
      have hx : σ[s]? = some (some x) := hx
      split at p1
      · rename_i bb c fs e2
        split at p1
        · rename_i w
          split at p1
          · rename_i v el
            obtain ⟨a, L, z, ce, hb, ow⟩ := s1.rel.slotO e2 hx
            subst z
            obtain ⟨dx, vs, h2, t⟩ := (ce.cell rfl).1
            obtain ⟨vv, g1, g2⟩ := t.look el
            rw [hK]
            refine ⟨a, _, dx, vs, vv, rfl, h2, O.cls c w.1, O.fld c w.1 f w.2, g1, ρ1, F1, s1.rel, p1.bindF fun rv ρ2 y F2 H2 s2 hy p2 => ?_⟩
            split at p2
            · rename_i yd er
              split at p2
              · rename_i zd ef
                split at p2
                · rename_i b' c' fs' e3
                  split at p2
                  · rename_i w2
                    obtain ⟨rfl, w3⟩ := w2
                    refine hf F2 H2 vv y v yd _ _ s2.rel.sub (View.of (g2.mono s2.subF)) (hy.view s2.rel er) ef fun zv F3 H3 al rz => ?_
                    have s3 := al.stp s2.rel
                    obtain ⟨a', L', z', ce', hb', ow'⟩ := s3.rel.slotO e3 hx
                    cases z'
                    obtain ⟨dx', vs', h2', t'⟩ := (ce'.cell rfl).1
                    refine ⟨dx', vs', h2', by rw [t'.length]; exact w3, ?_⟩
                    exact p2 σ F3 _ (s3.trans (s3.rel.upd e3 hx ce' rfl ⟨dx', _, upd_same, t'.put rz⟩))
                  · exact p2.elim
                · exact p2.elim
              · exact p2.elim
            · exact p2.elim
          · exact p1.elim
        · exact p1.elim
      · exact p1.elim
    · exact p1.elim⟩
end
def augV (o : Option D) (k : D → SOut) : SOut := match o with | some v => k v | none => .stuck
@[simp] theorem x_augV {v : D} {k : D → SOut} : augV (some v) k = k v := rfl
def augZ (o : Option Res) (k : D → SOut) : SOut := match o with | some (.val z) => k z | _ => .stuck
@[simp] theorem x_augZ {v : D} {k : D → SOut} : augZ (some (.val v)) k = k v := rfl
@[simp] theorem x_augF {T : Tab} {f : Str} {fo : D → D → Option Res} {me : M} {s : Nat} {ρ : Rho} : augF T f fo me (.at s) ρ = ownOb ρ[s]? fun _ c fs => if c < T.n ∧ f ∈ T.flds c then augV (fs.lookup f) fun v => bindSF (me ρ) fun rv ρ2 => augV (resolve ρ2 rv) fun y => augZ (fo v y) fun z => ownOb ρ2[s]? fun b c' fs' => if c' = c ∧ fs'.length < 1000 then .nx (ρ2.set s (some (.own b (.obj c (putD f z fs'))))) else .stuck else .stuck := rfl
@[simp] theorem x_mFldA {T : Tab} {f : Str} {fo : D → D → Option Res} {mo me : M} {ρ : Rho} : mFldA T f fo mo me ρ = bindSF (mo ρ) fun ro ρ1 => augF T f fo me ro ρ1 := rfl
end PyD

namespace PyD
open PySem PySem.Spec PyProof.Rows L2

/-! ### xs[::-1] of a list -/
def tRevL (K : PySem.W.Frag) (te tk : TE) : TE := fun σ H Q => te σ H fun x H1 => tk σ H1 fun k H2 => k = .int (-1) ∧ ∃ a xs, x = .ref a ∧ SqL K H2 a xs ∧ ∀ p, H2 p = none → Q (.ref p) (upd H2 p (.lst xs.reverse))
theorem vals_rev : ∀ {vs : List V} {us : List Value}, Vals vs us → Vals vs.reverse us.reverse
  | _, _, .nil => .nil
  | _, _, .cons h t => by
    simp only [List.reverse_cons]
    exact (vals_rev t).append (.cons h .nil)
theorem pe_revL {X : Cx} {e k : Expr} {te tk : TE} {p2 pos : Pos} (he : PE X e te) (hk : PE X k tk) : PE X (.Subscript e (.Slice none none (some k) p2) pos) (tRevL X.K te tk) := by
  refine ⟨fun pins s σ H Q I h => ?_⟩
  refine Subscript_ (thn (he.run pins s σ H _ I h) fun v s1 ⟨x, H1, I1, r1, q1⟩ => ?_)
  refine wpAny_Slice ?_
  rw [evalPart_none]
  refine wpAny_pure ?_
  refine wpAny_pure ?_
  rw [evalPart_some]
  refine thn (hk.run pins s1 σ H1 _ I1 q1) fun vk s3 ⟨y, H3, I3, r3, ey, a, xs, ex, hx, q⟩ => ?_
  subst ey ex
  cases r1
  obtain ⟨t, rfl⟩ := r3
  have I4 : Inv X pins σ H3 { s3 with heap := s3.heap.push { cls := .type "slice", data := .fields #[.none, .none, .int (-1) t] } } := I3.kept (t' := s3.toks) fun b ob q => Heap.get?_push_of_some _ q
  obtain ⟨its, r, ht, hz⟩ := I4.list hx
  have hlen := r.length
  show wpAny (model X.prog X.w) X.A (subscriptTail e (.Slice none none (some k) p2) (.ref a) (.ref s3.heap.objs.size)) (EP X pins σ Q) X.xe { s3 with heap := s3.heap.push { cls := .type "slice", data := .fields #[.none, .none, .int (-1) t] } }
  refine tail_any (ops := [.ref a, .ref s3.heap.objs.size]) ht.isList.typeIs slot_list_getitem.lookup ?_ rfl
  refine wpAny_getItem_list_slice ht.isList (Heap.IsSliceOf.new ..) .none .none (.int (-1) t) (by decide) ?_ (by rw [List.size_toArray] <;> omega)
  rw [PySem.W.krv_pick]
  refine ⟨.ref _, _, I4.laid (t' := s3.toks) (o := .lst xs.reverse) (fun b ob q => Heap.get?_push_of_some _ q) (Nat.le_refl _) ?_, rfl, q _ (I4.hok.fresh (Nat.le_refl _))⟩
  exact ⟨by rw [List.length_reverse]; exact hz, _, 0, by simpa using vals_rev r, Heap.get?_push_size _ rfl⟩
def revL : D → D → Option Res
  | .lst xs, .int k => if k = -1 then some (.new (.lst xs.reverse)) else none
  | _, _ => none
theorem DpL.rev {G : Gx} {F : Hp} : ∀ {vs : List V} {ds : List D}, DpL G F vs ds → DpL G F vs.reverse ds.reverse
  | _, _, .nil => .nil
  | _, _, .cons h t => by
    simp only [List.reverse_cons]
    exact (DpL.rev t).append (.cons h .nil)
theorem revL_ok {G : Gx} : BinOk G (fun x k H Q => k = .int (-1) ∧ ∃ a xs, x = .ref a ∧ SqL G.K H a xs ∧ ∀ p, H p = none → Q (.ref p) (upd H p (.lst xs.reverse))) revL := by
  intro F H x y dx dy res Q e vx vy q k
  unfold revL at q
  split at q
  · split at q
    · rename_i xs i w
      cases q
      subst w
      obtain ⟨a, vs, rfl, h1, t1⟩ := vx.lst e
      exact ⟨vy.int, a, vs, rfl, SqL.of h1, fun p hp => k _ F _ (.cell e hp) ⟨p, rfl, Same.free e hp, ⟨_, upd_same, t1.rev⟩, hp⟩⟩
    · cases q
  · cases q
theorem je_rev {X : Cx} {Γ : Gm} {W : WX} {a b : Expr} {ma mb : M} {p2 pos : Pos} (hK : X.K = Γ.G.K) (ha : PE X a (tM Γ W ma)) (hb : PE X b (tM Γ W mb)) : PE X (.Subscript a (.Slice none none (some b) p2) pos) (tM Γ W (mBin revL ma mb)) :=
  (pe_revL (je_f ha) (je_f hb)).imp fun σ H Q h => by
    have := tOp_ok (revL_ok (G := Γ.G)) σ H Q h
    rw [hK]
    exact this
@[simp] theorem x_revL {xs : List D} {k : Int} : revL (.lst xs) (.int k) = if k = -1 then some (.new (.lst xs.reverse)) else none := rfl

/-! ### defaults of both kinds -/
section
variable {K : PySem.W.Frag} {x qual : Str} {params : Arguments} {body : List Stmt} {scope : Scope} {dvs : List V} {kws : List (Str × V)} {f : Addr} {fd : FuncData} {ps ks : List Str} {p : List Nat}
theorem ways_both (F : FunD K x qual params body scope dvs kws f fd) (n : Nat) (ms : List (Str × V)) (hd : dvs ≠ []) (hk : kws ≠ []) (hms : ∀ q ∈ ms, q ∈ kws)
    (h : ∀ (T D : Addr) (doc pm : Value) (an : Option Addr) (cdv ct : Value) (us its mv ws : List Value), us.length = n → its.length = dvs.length → mv.length = ms.length → ws.length = ks.length →
      ∃ k, bindArgs (PySem.W.fnOf x qual params body scope (.ref T) (.ref D) doc pm an cdv ct) ⟨us, ks.zip ws⟩ = seqItems? (.ref T) >>= k ∧ KwChain D ((ms.map (·.1)).zip mv) (k (some its.toArray)) (ps.zip (pick p (us ++ (its ++ mv) ++ ws)))) : Ways K fd ps n ks (dvs ++ ms.map (·.2)) p := by
  obtain ⟨oc, od, dV, kV, doc, pm, an, cdv, ct, osl, rfl, lk, hcd, hD, hK⟩ := F.ex
  rcases hD with ⟨e, _⟩ | ⟨_, T, o, its, m, rfl, lT, oT, rT⟩
  · exact absurd e hd
  · rcases hK with e | ⟨D, rfl, hq⟩
    · exact absurd e hk
    · obtain ⟨mv, hl, rk, hks⟩ := kwd_vals (ms := ms) fun q hm => hq q (hms q hm)
      refine ⟨its ++ mv, rT.append rk, fun s us ws X l1 l2 => BindsTo.of_looks fun M => ?_⟩
      obtain ⟨k, e1, e2⟩ := h T D doc pm an cdv ct us its mv ws l1 rT.length.symm hl l2
      rw [e1]
      exact looks_items X lT oT (KwChain.looks X hks e2)
end
end PyD

namespace PyD
open PySem PySem.Spec PyProof.Rows L2

/-! ### loops and comprehensions, by what holds between two turns -/
inductive Al {α β : Type} (R : α → β → Prop) : List α → List β → Prop
  | nil : Al R [] []
  | cons {a : α} {b : β} {as : List α} {bs : List β} : R a b → Al R as bs → Al R (a :: as) (b :: bs)
theorem Al.len {α β : Type} {R : α → β → Prop} {as : List α} {bs : List β} (h : Al R as bs) : as.length = bs.length := by
  induction h with
  | nil => rfl
  | cons _ _ ih => simp [ih]
theorem for_inv {f : Tg} {b : MS} (I : List D → Rho → Prop) (st : ∀ d rest ρ, I (d :: rest) ρ → ∃ ρ1 ρ2, f d ρ = some ρ1 ∧ b ρ1 = .nx ρ2 ∧ I rest ρ2) : ∀ ds ρ, I ds ρ → ∃ ρ', forD f b ds ρ = .nx ρ' ∧ I [] ρ'
  | [], ρ, h => ⟨ρ, rfl, h⟩
  | d :: ds, ρ, h => by
    obtain ⟨ρ1, ρ2, h1, h2, h3⟩ := st d ds ρ h
    obtain ⟨ρ', e, h4⟩ := for_inv I st ds ρ2 h3
    refine ⟨ρ', ?_, h4⟩
    rw [x_forC, h1]
    simp only [x_optS, h2, x_loopSn, e]
/-- a comprehension whose turns change the frame -/
theorem lc_rel {vs : List Nat} {f : Tg} {t : MB} {me : M} {α : Type} (St : α → Rho) (R : D → D → Prop) : ∀ (ds acc : List D) (a : α), (∀ d ∈ ds, ∀ a, ∃ ρ1 ρ2 r ρ3 y ρ4 a', f d (St a) = some ρ1 ∧ t ρ1 = .ok true ρ2 ∧ me ρ2 = .ok r ρ3 ∧ PyD.settle r.frz ρ3 = some (y, ρ4) ∧ wipeR ρ4 vs = St a' ∧ R d y) → acc.length + ds.length ≤ sizeLine →
    ∃ ys a', lcD vs f t me ds acc (St a) = .ok (acc ++ ys) (St a') ∧ Al R ds ys
  | [], acc, a, _, _ => ⟨[], a, by simp, .nil⟩
  | d :: ds, acc, a, h, hl => by
    obtain ⟨ρ1, ρ2, r, ρ3, y, ρ4, a1, h1, h2, h3, h4, h5, h6⟩ := h d (List.mem_cons_self ..) a
    have hl' : acc.length < sizeLine := by simp only [List.length_cons] at hl; omega
    obtain ⟨ys, a', e, al⟩ := lc_rel St R ds (acc ++ [y]) a1 (fun d' hd => h d' (List.mem_cons_of_mem _ hd)) (by simp only [List.length_append, List.length_cons, List.length_nil] at hl ⊢; omega)
    refine ⟨y :: ys, a', ?_, .cons h6 al⟩
    rw [x_lcC, h1]
    simp only [x_optO, h2, x_bindN, if_true, h3, h4, hl', h5]
    rw [e]
    simp
/-- a dict comprehension with unlike keys -/
theorem dc_map {vs : List Nat} {f : Tg} {t : MB} {mk mv : M} {kf : D → Key} {vf : D → D} {ρ : Rho} : ∀ {ds : List D} {acc : List (Key × D)}, (∀ d ∈ ds, ∃ ρ1 rk r, f d ρ = some ρ1 ∧ t ρ1 = .ok true ρ1 ∧ mk ρ1 = .ok rk ρ1 ∧ keyR rk.frz = some (kf d) ∧ mv ρ1 = .ok r ρ1 ∧ r.frz = .val (vf d) ∧ wipeR ρ1 vs = ρ) → (acc.map (·.1) ++ ds.map kf).Nodup → acc.length + ds.length ≤ sizeLine →
    dcD vs f t mk mv ds acc ρ = .ok (acc ++ ds.map fun d => (kf d, vf d)) ρ
  | [], acc, _, _, _ => by simp
  | d :: ds, acc, h, hn, hl => by
    obtain ⟨ρ1, rk, r, h1, h2, h3, h4, h5, h6, h7⟩ := h d (List.mem_cons_self ..)
    have hl' : acc.length < sizeLine := by simp only [List.length_cons] at hl; omega
    rw [x_dcC, h1]
    simp only [x_optO, h2, x_bindN, if_true, h3, h4, h5, h6, x_setV, hl', h7]
    have hp : putKD acc (kf d) (vf d) = acc ++ [(kf d, vf d)] := putK_new fun kv hk e => by
      rw [List.nodup_append] at hn
      exact hn.2.2 kv.1 (List.mem_map_of_mem hk) (kf d) (by simp) e
    rw [hp, dc_map (fun d' hd => h d' (List.mem_cons_of_mem _ hd)) (by simpa using hn) (by simp only [List.length_append, List.length_cons, List.length_nil] at hl ⊢; omega)]
    simp
/-! ### pairs of texts -/
def lkD (p : Str × Str) : D := .tup [.str p.1, .str p.2]
theorem valK_of {kvs : List (Key × D)} {k : Key} {v : D} (hn : (kvs.map (·.1)).Nodup) (hm : (k, v) ∈ kvs) : valK kvs k = some v := by
  induction kvs with
  | nil => cases hm
  | cons p r ih =>
    obtain ⟨k', v'⟩ := p
    rw [x_valKC]
    simp only [List.map_cons, List.nodup_cons] at hn
    rcases List.mem_cons.mp hm with e | e
    · cases e; simp
    · have : k' ≠ k := fun z => hn.1 (z ▸ List.mem_map_of_mem (f := (·.1)) e)
      simp [this, ih hn.2 e]
/-- what is sorted stays -/
theorem sortS_of {xs ys : List Str} (p : ys.Perm xs) (h : ys.Pairwise fun a b => ltS a b = true) : sortS xs = ys :=
  (List.Perm.eq_of_pairwise (le := leS) (fun _ _ _ _ => leS_anti) (h.imp fun q => ltC_asym q) (sortS_pw xs) (p.trans (sortS_perm xs).symm)).symm
end PyD

namespace PyD
open PySem PySem.Spec PyProof.Rows L2

/-! ### plain data: equality, membership -/
mutual
def okd : Nat → D → Bool
  | _, .non => true
  | _, .bl _ => true
  | _, .int _ => true
  | _, .str x => PyData.strOk x
  | n, .lst xs => okdS n xs
  | n, .tup xs => okdS n xs
  | _, _ => false
def okdS : Nat → List D → Bool
  | 0, _ => false
  | n + 1, xs => okds n xs
def okds : Nat → List D → Bool
  | _, [] => true
  | n, d :: ds => okd n d && okds n ds
end
mutual
/-- no truth meets an integer -/
def smk : D → D → Bool
  | .bl _, .int _ => false
  | .int _, .bl _ => false
  | .lst xs, .lst ys => smks xs ys
  | .tup xs, .tup ys => smks xs ys
  | _, _ => true
def smks : List D → List D → Bool
  | x :: xs, y :: ys => smk x y && smks xs ys
  | _, _ => true
end
@[simp] theorem x_okN {n : Nat} : okd n .non = true := by simp [okd]
@[simp] theorem x_okB {n : Nat} {b : Bool} : okd n (.bl b) = true := by simp [okd]
@[simp] theorem x_okI {n : Nat} {b : Int} : okd n (.int b) = true := by simp [okd]
@[simp] theorem x_okS {n : Nat} {b : Str} : okd n (.str b) = PyData.strOk b := by simp [okd]
@[simp] theorem x_okL {n : Nat} {xs : List D} : okd (n + 1) (.lst xs) = okds n xs := by simp [okd, okdS]
@[simp] theorem x_okT {n : Nat} {xs : List D} : okd (n + 1) (.tup xs) = okds n xs := by simp [okd, okdS]
@[simp] theorem x_oksN {n : Nat} : okds n [] = true := by simp [okds]
@[simp] theorem x_oksC {n : Nat} {x : D} {xs : List D} : okds n (x :: xs) = (okd n x && okds n xs) := by simp [okds]
theorem okds_iff {n : Nat} : ∀ {xs : List D}, okds n xs = true ↔ ∀ x ∈ xs, okd n x = true
  | [] => by simp
  | x :: xs => by simp [okds_iff (xs := xs)]
theorem smk_self (x : D) : smk x x = true := by
  refine D.rec (motive_1 := fun x => smk x x = true) (motive_2 := fun xs => smks xs xs = true) (motive_3 := fun _ => True) (motive_4 := fun _ => True) (motive_5 := fun _ => True) (motive_6 := fun _ => True) ?_ ?_ ?_ ?_ ?_ ?_ ?_ ?_ ?_ ?_ ?_ ?_ ?_ ?_ ?_ ?_ ?_ ?_ ?_ ?_ ?_ ?_ ?_ ?_ x <;> intros <;> first | trivial | (simp only [smk, smks, Bool.and_eq_true]; first | assumption | exact ⟨by assumption, by assumption⟩ | trivial) | simp_all [smk, smks]
theorem okd_py (x : D) : ∀ n, okd n x = true → ∃ p, toPy x = some p ∧ PyData.canLay0 p = true ∧ PyData.depth p ≤ n := by
  refine D.rec (motive_1 := fun x => ∀ n, okd n x = true → ∃ p, toPy x = some p ∧ PyData.canLay0 p = true ∧ PyData.depth p ≤ n) (motive_2 := fun xs => ∀ n, okds n xs = true → ∃ ps, toPys xs = some ps ∧ PyData.canLayAll0 ps = true ∧ PyData.depthAll ps ≤ n) (motive_3 := fun _ => True) (motive_4 := fun _ => True) (motive_5 := fun _ => True) (motive_6 := fun _ => True)
    ?_ ?_ ?_ ?_ ?_ ?_ ?_ ?_ ?_ ?_ ?_ ?_ ?_ ?_ ?_ ?_ ?_ ?_ ?_ ?_ ?_ ?_ ?_ ?_ x
  · intro n _; exact ⟨.none, by simp, by simp, by simp⟩
  · intro b n _; exact ⟨.bool b, by simp, by simp, by simp⟩
  · intro b n _; exact ⟨.int b, by simp, by simp, by simp⟩
  · intro b n h; exact ⟨.str b, by simp, by simpa using h, by simp⟩
  · intro b n h; simp [okd] at h
  · intro xs ih n h
    cases n with
    | zero => simp [okd, okdS] at h
    | succ n =>
      obtain ⟨ps, h1, h2, h3⟩ := ih n (by simpa using h)
      exact ⟨.list ps, by simp [h1], by simpa using h2, by simp; omega⟩
  · intro xs ih n h
    cases n with
    | zero => simp [okd, okdS] at h
    | succ n =>
      obtain ⟨ps, h1, h2, h3⟩ := ih n (by simpa using h)
      exact ⟨.tuple ps, by simp [h1], by simpa using h2, by simp; omega⟩
  · intro b n h; simp [okd] at h
  · intro b ih n h; simp [okd] at h
  · intro c b ih n h; simp [okd] at h
  · intro b n h; simp [okd] at h
  · intro b n h; simp [okd] at h
  · intro b ih n h; simp [okd] at h
  · intro b ih n h; simp [okd] at h
  · intro c b ih n h; simp [okd] at h
  · intro b ih n h; simp [okd] at h
  · intro n _; exact ⟨[], by simp, by simp, by simp⟩
  · intro d ds i1 i2 n h
    simp only [x_oksC, Bool.and_eq_true] at h
    obtain ⟨p, h1, h2, h3⟩ := i1 n h.1
    obtain ⟨ps, h4, h5, h6⟩ := i2 n h.2
    exact ⟨p :: ps, by simp [h1, h4], by simp [h2, h5], by simp; omega⟩
  all_goals (intros; trivial)
theorem eqv_iff (x : D) : ∀ y, smk x y = true → ∀ p q, toPy x = some p → toPy y = some q → (PyData.eqv p q = true ↔ x = y) := by
  refine D.rec (motive_1 := fun x => ∀ y, smk x y = true → ∀ p q, toPy x = some p → toPy y = some q → (PyData.eqv p q = true ↔ x = y)) (motive_2 := fun xs => ∀ ys, smks xs ys = true → ∀ ps qs, toPys xs = some ps → toPys ys = some qs → (PyData.eqvAll ps qs = true ↔ xs = ys)) (motive_3 := fun _ => True) (motive_4 := fun _ => True) (motive_5 := fun _ => True) (motive_6 := fun _ => True)
    ?_ ?_ ?_ ?_ ?_ ?_ ?_ ?_ ?_ ?_ ?_ ?_ ?_ ?_ ?_ ?_ ?_ ?_ ?_ ?_ ?_ ?_ ?_ ?_ x
  · intro y h p q e1 e2
    cases y <;> simp [toPy] at e1 e2 <;> (try subst e1) <;> (try subst e2) <;> first | (obtain ⟨ps, _, rfl⟩ := e2; simp [PyData.eqv]; done) | simp [PyData.eqv]
  · intro b y h p q e1 e2
    cases y <;> simp [toPy] at e1 e2 <;> (try subst e1) <;> (try subst e2) <;> first | (simp [smk] at h; done) | (obtain ⟨ps, _, rfl⟩ := e2; simp [PyData.eqv]; done) | simp [PyData.eqv]
  · intro b y h p q e1 e2
    cases y <;> simp [toPy] at e1 e2 <;> (try subst e1) <;> (try subst e2) <;> first | (simp [smk] at h; done) | (obtain ⟨ps, _, rfl⟩ := e2; simp [PyData.eqv]; done) | simp [PyData.eqv]
  · intro b y h p q e1 e2
    cases y <;> simp [toPy] at e1 e2 <;> (try subst e1) <;> (try subst e2) <;> first | (obtain ⟨ps, _, rfl⟩ := e2; simp [PyData.eqv]; done) | simp [PyData.eqv]
  · intro b y h p q e1 e2; simp [toPy] at e1
  · intro xs ih y h p q e1 e2
    simp only [toPy, Option.map_eq_some_iff] at e1
    obtain ⟨ps, e3, rfl⟩ := e1
    cases y <;> simp [toPy] at e2 <;> (try subst e2) <;> first | (simp [PyData.eqv]; done) | (obtain ⟨qs, e4, rfl⟩ := e2; first | (simp [PyData.eqv]; done) | (simp only [smk] at h; simpa [PyData.eqv] using ih _ h ps qs e3 e4))
  · intro xs ih y h p q e1 e2
    simp only [toPy, Option.map_eq_some_iff] at e1
    obtain ⟨ps, e3, rfl⟩ := e1
    cases y <;> simp [toPy] at e2 <;> (try subst e2) <;> first | (simp [PyData.eqv]; done) | (obtain ⟨qs, e4, rfl⟩ := e2; first | (simp [PyData.eqv]; done) | (simp only [smk] at h; simpa [PyData.eqv] using ih _ h ps qs e3 e4))
  · intro b y h p q e1 e2; simp [toPy] at e1
  · intro b ih y h p q e1 e2; simp [toPy] at e1
  · intro c b ih y h p q e1 e2; simp [toPy] at e1
  · intro b y h p q e1 e2; simp [toPy] at e1
  · intro b y h p q e1 e2; simp [toPy] at e1
  · intro b ih y h p q e1 e2; simp [toPy] at e1
  · intro b ih y h p q e1 e2; simp [toPy] at e1
  · intro c b ih y h p q e1 e2; simp [toPy] at e1
  · intro b ih y h p q e1 e2; simp [toPy] at e1
  · intro ys h ps qs e1 e2
    simp at e1; subst e1
    cases ys with
    | nil => simp at e2; subst e2; simp
    | cons y ys =>
      simp only [x_tpsC] at e2
      cases h1 : toPy y with
      | none => rw [h1] at e2; simp [consO] at e2
      | some b => cases h2 : toPys ys with
        | none => rw [h1, h2] at e2; simp [consO] at e2
        | some bs => rw [h1, h2] at e2; simp at e2; subst e2; simp
  · intro d ds i1 i2 ys h ps qs e1 e2
    simp only [x_tpsC] at e1
    cases h1 : toPy d with
    | none => rw [h1] at e1; simp [consO] at e1
    | some a => cases h2 : toPys ds with
      | none => rw [h1, h2] at e1; simp [consO] at e1
      | some as =>
        rw [h1, h2] at e1; simp at e1; subst e1
        cases ys with
        | nil => simp at e2; subst e2; simp
        | cons y ys =>
          simp only [x_tpsC] at e2
          cases h3 : toPy y with
          | none => rw [h3] at e2; simp [consO] at e2
          | some b => cases h4 : toPys ys with
            | none => rw [h3, h4] at e2; simp [consO] at e2
            | some bs =>
              rw [h3, h4] at e2; simp at e2; subst e2
              simp only [smks, Bool.and_eq_true] at h
              simp [i1 y h.1 a b h1 h3, i2 ys h.2 as bs h2 h4]
  all_goals (intros; trivial)
theorem okd_shaped {x : D} (h : okd 60 x = true) : ∃ p, toPy x = some p ∧ SeqAt.shaped p = true := by
  obtain ⟨p, h1, h2, h3⟩ := okd_py x 60 h
  exact ⟨p, h1, by simp [h2]; omega⟩
theorem eqB_of {x y : D} {b : Bool} (hx : okd 60 x = true) (hy : okd 60 y = true) (h : smk x y = true) (hb : b = true ↔ x = y) : eqB x y = some b := by
  obtain ⟨p, h1, h2⟩ := okd_shaped hx
  obtain ⟨q, h3, h4⟩ := okd_shaped hy
  rw [x_eqB, h1, h3, x_pyB, h2, h4]
  have := eqv_iff x y h p q h1 h3
  simp only [Bool.and_self, if_true, Option.some.injEq]
  cases b <;> cases e : PyData.eqv p q <;> simp_all
theorem eqF_of {x y : D} {b : Bool} (h : smk x y = true) (e : eqF x y = some b) : b = true ↔ x = y := by
  unfold eqF at e
  split at e <;> simp at e <;> subst e <;> simp
theorem eqD_of {x y : D} {b : Bool} (hx : okd 60 x = true) (hy : okd 60 y = true) (h : smk x y = true) (hb : b = true ↔ x = y) : eqD x y = some (.val (.bl b)) := by
  unfold eqD orF
  cases e : eqF x y with
  | some c =>
    have := eqF_of h e
    have : c = b := by cases b <;> cases c <;> simp_all
    subst this
    simp [e]
  | none => simp [eqD0, -x_eqB, eqB_of hx hy h hb, e]
theorem neD_of {x y : D} {b : Bool} (hx : okd 60 x = true) (hy : okd 60 y = true) (h : smk x y = true) (hb : b = true ↔ x = y) : neD x y = some (.val (.bl (!b))) := by
  unfold neD orF
  cases e : eqF x y with
  | some c =>
    have := eqF_of h e
    have : c = b := by cases b <;> cases c <;> simp_all
    subst this
    simp [e]
  | none => simp [neD0, -x_eqB, eqB_of hx hy h hb, e]
theorem eqD_t {x : D} (hx : okd 60 x = true) : eqD x x = some (.val (.bl true)) := eqD_of hx hx (smk_self x) (by simp)
theorem neD_t {x : D} (hx : okd 60 x = true) : neD x x = some (.val (.bl false)) := neD_of (b := true) hx hx (smk_self x) (by simp)
theorem eqD_f {x y : D} (hx : okd 60 x = true) (hy : okd 60 y = true) (h : smk x y = true) (n : x ≠ y) : eqD x y = some (.val (.bl false)) := eqD_of hx hy h (by simp [n])
theorem neD_f {x y : D} (hx : okd 60 x = true) (hy : okd 60 y = true) (h : smk x y = true) (n : x ≠ y) : neD x y = some (.val (.bl true)) := neD_of (b := false) hx hy h (by simp [n])
theorem anyB_of {x : D} {ys : List D} {b : Bool} (hx : okd 60 x = true) (hy : okds 59 ys = true) (h : ∀ y ∈ ys, smk y x = true) (hb : b = true ↔ x ∈ ys) : anyB (toPy x) (toPys ys) = some b := by
  obtain ⟨p, h1, h2⟩ := okd_shaped hx
  have hl : okd 60 (.lst ys) = true := by simpa using hy
  obtain ⟨q, h3, h4⟩ := okd_shaped hl
  simp only [x_tpL, Option.map_eq_some_iff] at h3
  obtain ⟨qs, h5, rfl⟩ := h3
  rw [h1, h5, x_anyB, h2, h4]
  have key : ∀ (ys : List D) (qs : List PyData), toPys ys = some qs → (∀ y ∈ ys, smk y x = true) → ((qs.any fun z => PyData.eqv z p) = true ↔ x ∈ ys) := fun ys => by
    induction ys with
    | nil => intro qs e _; simp at e; subst e; simp
    | cons y ys ih =>
      intro qs e hs
      simp only [x_tpsC] at e
      cases g1 : toPy y with
      | none => rw [g1] at e; simp [consO] at e
      | some b => cases g2 : toPys ys with
        | none => rw [g1, g2] at e; simp [consO] at e
        | some bs =>
          rw [g1, g2] at e; simp at e; subst e
          simp only [List.any_cons, Bool.or_eq_true, List.mem_cons]
          rw [eqv_iff y x (hs y (List.mem_cons_self ..)) b p g1 h1, ih bs g2 fun z hz => hs z (List.mem_cons_of_mem _ hz)]
          exact or_congr eq_comm Iff.rfl
  have := key ys qs h5 h
  simp only [Bool.and_self, if_true, Option.some.injEq]
  cases b <;> cases e : (qs.any fun z => PyData.eqv z p) <;> simp_all
end PyD

namespace PyD
open PySem PySem.Spec PyProof.Rows L2
/-! ### [.. for .. for ..] as a plain function -/
theorem lc2_map {vs : List Nat} {f : Tg} {t : MB} {mi1 : MI} {vs1 : List Nat} {f1 : Tg} {t1 : MB} {me : M} {g : D → List D} {ρ : Rho} : ∀ {ds acc : List D}, (∀ d ∈ ds, (g d).length ≤ 10 ∧ ∃ ρ1 es ρ3 ρ4, f d ρ = some ρ1 ∧ t ρ1 = .ok true ρ1 ∧ mi1 ρ1 = .ok es ρ3 ∧ (∀ acc, acc.length + 100 ≤ sizeLine → lcD vs1 f1 t1 me es acc (wipeR ρ3 vs1) = .ok (acc ++ g d) ρ4) ∧ wipeR ρ4 vs = ρ) → acc.length + 10 * ds.length + 100 ≤ sizeLine →
    lc2D vs f t mi1 vs1 f1 t1 me ds acc ρ = .ok (acc ++ ds.flatMap g) ρ
  | [], acc, _, _ => by simp [lc2D]
  | d :: ds, acc, h, hl => by
    obtain ⟨hg, ρ1, es, ρ3, ρ4, h1, h2, h3, h4, h5⟩ := h d (List.mem_cons_self ..)
    simp only [List.length_cons] at hl
    have h6 := h4 acc (by omega)
    simp only [lc2D, h1, h2, h3, h6, h5]
    rw [lc2_map (fun d' hd => h d' (List.mem_cons_of_mem _ hd)) (by simp only [List.length_append]; omega)]
    simp
def lc2F (o : Out (List D)) : Out Res := match o with | .ok acc ρ => .ok (.new (.lst acc)) ρ | _ => .stuck
@[simp] theorem x_lc2F {acc : List D} {ρ : Rho} : lc2F (.ok acc ρ) = .ok (.new (.lst acc)) ρ := rfl
@[simp] theorem x_mLc2 {vs : List Nat} {mi : MI} {f : Tg} {t : MB} {mi1 : MI} {vs1 : List Nat} {f1 : Tg} {t1 : MB} {me : M} {ρ : Rho} : mLc2 vs mi f t mi1 vs1 f1 t1 me ρ = bindO (mi ρ) fun ds ρ1 => lc2F (lc2D vs f t mi1 vs1 f1 t1 me ds [] (wipeR ρ1 vs)) := rfl
end PyD

namespace PyD
open PySem PySem.Spec PyProof.Rows L2
/-! ### a method that changes a new object, which is then dropped: f(..).append(..) -/
theorem Stp.outA {Γ : Gm} {ρ₀ ρ : Rho} {σ₀ σ : St} {F₀ H₀ F H : Hp} {a : Addr} {o : HO} (s : Stp Γ ρ₀ σ₀ F₀ H₀ ρ σ F H) (hu : ¬ Γ.U a) (hF : F a = none) (no : ¬ Own Γ ρ σ F H a) : Stp Γ ρ₀ σ₀ F₀ H₀ ρ σ F (upd H a o) := by
  have kp : ∀ j b, OwnAt Γ ρ σ F H j b → ∀ u, H b = some u → upd H a o b = some u := fun j b ob u q => by rw [upd_ne (fun z : b = a => no (z ▸ ⟨j, ob⟩))]; exact q
  have bk : ∀ j c, OwnAt Γ ρ σ F (upd H a o) j c → OwnAt Γ ρ σ F H j c := fun j c q => own_back s.rel (Same.refl _) j (fun _ q => q) rfl (kp j) q
  refine ⟨⟨fun b u q => by rw [upd_ne (ne_of_none q hF)]; exact s.rel.sub b u q, fun i sl q => slot_keep s.rel (Same.refl _) i q rfl (kp i), fun i j c h1 h2 => s.rel.inj i j c (bk i c h1) (bk j c h2), fun i c h => s.rel.own i c (bk i c h), s.rel.len, s.rel.inv, fun c h => ?_⟩, s.subF, fun c h => ?_, fun b u q => ?_⟩
  · obtain ⟨h1, u, h2⟩ := s.rel.ali c h
    exact ⟨h1, u, by rw [upd_ne (fun z : c = a => hu (z ▸ h))]; exact h2⟩
  · rw [upd_ne (fun z : c = a => hu (z ▸ h))]; exact s.keep c h
  · by_cases e : b = a
    · subst e; exact ⟨o, upd_same⟩
    · rw [upd_ne e]; exact s.there b u q
def mutN (f : D → List D → Option (D × D)) (d : D) (rs : List Res) (ρ : Rho) : Out Res := match settles rs ρ with
  | some (ds, ρ1) => (match f d ds with
    | some (_, z) => .ok (.val z) ρ1
    | none => .stuck)
  | none => .stuck
def mutNR (T : String) (f : D → List D → Option (D × D)) (ma : MA) (o : Res) (ρ : Rho) : Out Res := match o with
  | .new d => if flatD d && tyOk T d then bindO (ma ρ) fun rs ρ2 => mutN f d rs ρ2 else .stuck
  | _ => .stuck
def mMutN (T : String) (f : D → List D → Option (D × D)) (mo : M) (ma : MA) : M := fun ρ => bindO (mo ρ) fun o ρ1 => mutNR T f ma o ρ1
def tAA (Γ : Gm) (W : WX) (ma : MA) : TA := fun σ H Q => ∃ D, tMA (Γ.also D) W ma σ H Q
section
variable {X : Cx} {Γ : Gm} {W : WX} {o e : Expr} {es : List Expr} {mo : M} {ma : MA} {name : Str} {apos cpos : Pos} {T id : String} {r : V → List V → Hp → VK → Prop}
theorem tBM_mutN {f : D → List D → Option (D × D)} (hK : X.K = Γ.G.K) (hf : MutOk Γ.G r f) : ∀ σ H Q, tM Γ W (mMutN T f mo ma) σ H Q → tBM X.K T r (tM Γ W mo) (tAA Γ W ma) σ H Q := fun σ H Q ⟨ρ, F, R, p⟩ => ⟨ρ, F, R, by
  unfold mMutN at p
  cases eo : mo ρ with
  | ok ro ρ1 =>
    rw [eo] at p
    simp only [bindO] at p
    intro v F1 H1 s1 hr
    unfold mutNR at p
    split at p
    · rename_i d
      split at p
      · rename_i w
        obtain ⟨w1, w2⟩ := Bool.and_eq_true_iff.mp w
        obtain ⟨a, L, rfl, ct, fr⟩ := hr
        obtain ⟨cell, rfl⟩ := ct.cell w1
        obtain ⟨f1, f2, f3⟩ := fr a (List.mem_singleton.mpr rfl)
        obtain ⟨ho, hH⟩ := cell.there
        refine ⟨hK ▸ tyOk_ok s1.rel.sub (.inr ⟨a, _, rfl, ct⟩) w2, a, ρ1, F1, s1.rel.also f1 hH f3, ?_⟩
        cases em : ma ρ1 with
        | ok rs ρ2 =>
          rw [em] at p
          simp only [bindO] at p
          intro vs F2 H2 s2 hrs
          unfold mutN at p
          split at p
          · rename_i ds ρ3 es
            split at p
            · rename_i d' z ez
              obtain ⟨F3, s3, hd⟩ := settles_ok s2.rel hrs es
              obtain ⟨u1, u2, u3, u4⟩ := (s2.trans s3).unalso
              refine hf.2 F3 H2 a vs d ds d' z Q u1.rel.sub u3 (cell.mono u1.subF fun o h => by rw [u2]; exact h) hd ez fun v o c' dv => ?_
              exact p v F3 _ (s1.trans (u1.outA f2 u3 u4)) dv
            · exact p.elim
          · exact p.elim
        | exc x ρ2 =>
          rw [em] at p
          exact fun d F' H' s q => p d F' H' (s1.trans s.unalso.1) q
        | stuck => rw [em] at p; exact p.elim
      · exact p.elim
    · exact p.elim
  | exc x ρ1 => rw [eo] at p; exact p
  | stuck => rw [eo] at p; exact p.elim⟩
theorem pa_anyD {X : Cx} {Γ : Gm} {W : WX} {es : List Expr} {ma : MA} (h : ∀ D, PA X es (tMA (Γ.also D) W ma)) : PA X es (tAA Γ W ma) := ⟨fun pos pins s σ H Q I ⟨D, q⟩ => (h D).run pos pins s σ H Q I q⟩
theorem je_mutN {f : D → List D → Option (D × D)} (pa : PlainAttrs T) (slot : PySem.Slot T name id) (hty : typeOf (.builtin id) = pure (.type "method_descriptor")) (hm : MtR X id r) (hf : MutOk Γ.G r f) (hK : X.K = Γ.G.K) (ho : PE X o (tM Γ W mo)) (ha : ∀ D, PA X (e :: es) (tMA (Γ.also D) W ma))
    (hbase : attributeBase o name X.env (eval o X.env) = eval o X.env := by rfl)
    (hfew : ((backTo cpos (starEach (e :: es) X.env)).all (fun x => !x.1) && (backToKw cpos (keywordEach [] X.env)).all (fun x => x.1.isSome)
      && decide ((e :: es).length + ([] : List Keyword).length + (if ([] : List Keyword).isEmpty then 0 else 1) < 30)) = true := by rfl)
    (hline : (apos.endLine == cpos.line) = true := by rfl) (hs : starEach (e :: es) X.env = (false, eval e X.env) :: starEach es X.env := by rfl) (hplain : (backTo cpos (starEach es X.env)).any (·.1) = false := by rfl) :
    PE X (.Call (.Attribute o name apos) (e :: es) [] cpos) (tM Γ W (mMutN T f mo ma)) := (pe_bm pa slot hty hm ho (pa_anyD ha) hbase hfew hline hs hplain).imp (tBM_mutN hK hf)
end
@[simp] theorem x_mutN {f : D → List D → Option (D × D)} {d : D} {rs : List Res} {ρ : Rho} : mutN f d rs ρ = optO (settles rs ρ) fun p => optO (f d p.1) fun z => .ok (.val z.2) p.2 := by
  unfold mutN optO
  cases settles rs ρ with
  | none => rfl
  | some p => simp only; cases f d p.1 <;> rfl
@[simp] theorem x_mutNR {T : String} {f : D → List D → Option (D × D)} {ma : MA} {d : D} {ρ : Rho} : mutNR T f ma (.new d) ρ = if flatD d && tyOk T d then bindO (ma ρ) fun rs ρ2 => mutN f d rs ρ2 else .stuck := rfl
@[simp] theorem x_mMutN {T : String} {f : D → List D → Option (D × D)} {mo : M} {ma : MA} {ρ : Rho} : mMutN T f mo ma ρ = bindO (mo ρ) fun o ρ1 => mutNR T f ma o ρ1 := rfl
@[simp] theorem x_flatL {xs : List D} : flatD (.lst xs) = true := rfl
end PyD

namespace Lw
open PySem PySem.Spec PyProof.Rows L2 PyD
abbrev C_Till : Nat := 0
abbrev C_Town : Nat := 1
abbrev C_TownError : Nat := 2
abbrev C_BadTill : Nat := 3
abbrev C_BadLink : Nat := 4
abbrev C_BadPart : Nat := 5
abbrev C_UnknownTill : Nat := 6
abbrev C_TooMany : Nat := 7
def flds : Nat → List PySem.Str
  | 0 => [(PySem.Str.ofString "name"), (PySem.Str.ofString "limit"), (PySem.Str.ofString "heeds")]
  | 1 => [(PySem.Str.ofString "row"), (PySem.Str.ofString "links"), (PySem.Str.ofString "money"), (PySem.Str.ofString "memory"), (PySem.Str.ofString "tops"), (PySem.Str.ofString "numbered")]
  | _ => []
def T : Tab := ⟨2, fun a b => a == b, ["int", "bool", "str", "list", "tuple", "dict"], fun _ _ => false, flds⟩
theorem Tn : T.n = 2 := rfl
theorem Tf0 : T.flds 0 = [(PySem.Str.ofString "name"), (PySem.Str.ofString "limit"), (PySem.Str.ofString "heeds")] := rfl
theorem Tf1 : T.flds 1 = [(PySem.Str.ofString "row"), (PySem.Str.ofString "links"), (PySem.Str.ofString "money"), (PySem.Str.ofString "memory"), (PySem.Str.ofString "tops"), (PySem.Str.ofString "numbered")] := rfl
def cl (K : PySem.W.Frag) : Nat → Addr
  | 0 => He.ga K (PySem.Str.ofString "Till")
  | 1 => He.ga K (PySem.Str.ofString "Town")
  | 2 => He.ga K (PySem.Str.ofString "TownError")
  | 3 => He.ga K (PySem.Str.ofString "BadTill")
  | 4 => He.ga K (PySem.Str.ofString "BadLink")
  | 5 => He.ga K (PySem.Str.ofString "BadPart")
  | 6 => He.ga K (PySem.Str.ofString "UnknownTill")
  | 7 => He.ga K (PySem.Str.ofString "TooMany")
  | _ => 0
def b_Town___len__ : MS := (mRet (mCB lenD (mCons (mUn (fldD T (PySem.Str.ofString "row")) (mVar 0)) mNil)))
def f_Town___len__ : Fn := mkFn 0 b_Town___len__
def LN_Town : Nat → Option Fn := lookF [(C_Town, f_Town___len__)]
@[simp] theorem LN_Town_Town : LN_Town C_Town = some f_Town___len__ := rfl
@[simp] theorem LN_Town_Till : LN_Town C_Till = none := rfl
def b_Town___eq__ : MS := (mSeq (mIfS (mOrB (mNotB (mTru (mCB (isiD' T) (mCons (mVar 1) (mCons (mC (.cls C_Town)) mNil))))) (mOrB (mBinB neD (mUn (fldD T (PySem.Str.ofString "row")) (mVar 0)) (mUn (fldD T (PySem.Str.ofString "row")) (mVar 1))) (mBinB neD (mUn (fldD T (PySem.Str.ofString "links")) (mVar 0)) (mUn (fldD T (PySem.Str.ofString "links")) (mVar 1))))) (mRet (mC (.bl false))) mNext) (mSeq (mSet 2 (mCS tupD (mCons (mUn (fldD T (PySem.Str.ofString "money")) (mVar 0)) (mCons (mUn (fldD T (PySem.Str.ofString "memory")) (mVar 0)) (mCons (mUn (fldD T (PySem.Str.ofString "tops")) (mVar 0)) (mCons (mUn (fldD T (PySem.Str.ofString "numbered")) (mVar 0)) mNil)))))) (mRet (mBin eqD (mVar 2) (mCS tupD (mCons (mUn (fldD T (PySem.Str.ofString "money")) (mVar 1)) (mCons (mUn (fldD T (PySem.Str.ofString "memory")) (mVar 1)) (mCons (mUn (fldD T (PySem.Str.ofString "tops")) (mVar 1)) (mCons (mUn (fldD T (PySem.Str.ofString "numbered")) (mVar 1)) mNil)))))))))
def f_Town___eq__ : Fn := mkFn 1 b_Town___eq__
def EQ_Town : Nat → Option Fn := lookF [(C_Town, f_Town___eq__)]
@[simp] theorem EQ_Town_Town : EQ_Town C_Town = some f_Town___eq__ := rfl
@[simp] theorem EQ_Town_Till : EQ_Town C_Till = none := rfl
def b_Till___eq__ : MS := (mSeq (mIfS (mNotB (mTru (mCB (isiD' T) (mCons (mVar 1) (mCons (mC (.cls C_Till)) mNil))))) (mRet (mC (.bl false))) mNext) (mRet (mBin (orF eqD (eqOD false (eqO T EQ_Town))) (mCS tupD (mCons (mUn (fldD T (PySem.Str.ofString "name")) (mVar 0)) (mCons (mUn (fldD T (PySem.Str.ofString "limit")) (mVar 0)) (mCons (mUn (fldD T (PySem.Str.ofString "heeds")) (mVar 0)) mNil)))) (mCS tupD (mCons (mUn (fldD T (PySem.Str.ofString "name")) (mVar 1)) (mCons (mUn (fldD T (PySem.Str.ofString "limit")) (mVar 1)) (mCons (mUn (fldD T (PySem.Str.ofString "heeds")) (mVar 1)) mNil)))))))
def f_Till___eq__ : Fn := mkFn 0 b_Till___eq__
def EQ_Till_Town : Nat → Option Fn := lookF [(C_Till, f_Till___eq__), (C_Town, f_Town___eq__)]
@[simp] theorem EQ_Till_Town_Till : EQ_Till_Town C_Till = some f_Till___eq__ := rfl
@[simp] theorem EQ_Till_Town_Town : EQ_Till_Town C_Town = some f_Town___eq__ := rfl
def b_Town___getitem___L1 : MS := (mIfS (mAndB (mTru (mCB (isiD' T) (mCons (mVar 1) (mCons (mC (.ty "str")) mNil)))) (mBinB (orF eqD (eqOD false (eqO T EQ_Till_Town))) (mUn (fldD T (PySem.Str.ofString "name")) (mVar 2)) (mVar 1))) (mRet (mVar 2)) mNext)
def b_Town___getitem__ : MS := (mSeq (mFor (iSeq (mUn (fldD T (PySem.Str.ofString "row")) (mVar 0))) (gN 2) b_Town___getitem___L1) sStuck)
def f_Town___getitem__ : Fn := mkFn 1 b_Town___getitem__
def GI_Town : Nat → Option Fn := lookF [(C_Town, f_Town___getitem__)]
@[simp] theorem GI_Town_Town : GI_Town C_Town = some f_Town___getitem__ := rfl
@[simp] theorem GI_Town_Till : GI_Town C_Till = none := rfl
def b__law_pool : MS := (mSeq (mSet 2 (mIf (mBinB ltD (mVar 1) (mCB (orC lenD (lenOD LN_Town)) (mCons (mVar 0) mNil))) (mCB maxD (mCons (mCB intD (mCons (mIxO GI_Town (mVar 0) (mVar 1)) mNil)) (mCons (mCB intD (mCons (mBin subD (mUn negD (mC (.int 1))) (mIxO GI_Town (mVar 0) (mVar 1))) mNil)) mNil))) (mC (.int 7)))) (mSeq (mSet 3 (mBin addD (mBin modD (mCB intD (mCons (mBin mulD (mBin addD (mBin modD (mCB intD (mCons (mVar 2) mNil)) (mC (.int 2147483629))) (mBin mulD (mC (.int 104729)) (mBin addD (mVar 1) (mC (.int 1))))) (mC (.int 48271))) mNil)) (mC (.int 2147483629))) (mC (.int 1)))) (mRet (mCS lstD (mCons (mBin mulD (mVar 2) (mCB intD (mCons (mBin geD (mVar 2) (mBin powD (mC (.int 10)) (mC (.int 18)))) mNil))) (mCons (mBin modD (mCB intD (mCons (mBin mulD (mVar 3) (mVar 3)) mNil)) (mC (.int 2147483629))) mNil))))))
def f__law_pool : Fn := mkFn 2 b__law_pool
def b__law_draw : MS := (mSeq (mIfS (mBinB gtD (mBin ixD (mVar 0) (mC (.int 0))) (mC (.int 0))) (mSeq (mSet 2 (mBin modD (mCB intD (mCons (mBin ixD (mVar 0) (mC (.int 0))) mNil)) (mVar 1))) (mSeq (mStore (mVar 0) (mC (.int 0)) (mBin fdivD (mBin ixD (mVar 0) (mC (.int 0))) (mVar 1))) (mRet (mVar 2)))) mNext) (mSeq (mStore (mVar 0) (mC (.int 1)) (mBin modD (mCB intD (mCons (mBin addD (mBin mulD (mBin ixD (mVar 0) (mC (.int 1))) (mC (.int 48271))) (mC (.int 11))) mNil)) (mC (.int 2147483647)))) (mRet (mBin modD (mCB intD (mCons (mBin fdivD (mBin modD (mCB intD (mCons (mBin mulD (mBin ixD (mVar 0) (mC (.int 1))) (mBin ixD (mVar 0) (mC (.int 1)))) mNil)) (mC (.int 2147483629))) (mC (.int 16))) mNil)) (mVar 1)))))
def f__law_draw : Fn := mkFn 1 b__law_draw
def b__law_pick : MS := (mRet (mIxO GI_Town (mVar 1) (mCall 2 [true, false] f__law_draw (mCons (mVar 0) (mCons (mCB (orC lenD (lenOD LN_Town)) (mCons (mVar 1) mNil)) mNil)))))
def f__law_pick : Fn := mkFn 0 b__law_pick
def b__law_names : MS := (mSeq (mSet 2 (mC (.str (PySem.Str.ofString "abcdefghijklmnopqrstuvwxyz")))) (mSeq (mPar [4, 5] (mConsN (mCall 2 [true, false] f__law_draw (mCons (mVar 0) (mCons (mC (.int 26)) mNil))) (mConsN (mBin addD (mC (.int 1)) (mBin mulD (mC (.int 2)) (mCall 2 [true, false] f__law_draw (mCons (mVar 0) (mCons (mC (.int 6)) mNil))))) mNil))) (mSeq (mSet 3 (mCS lstD (mCons (mCS tupD (mCons (mC (.str (PySem.Str.ofString ""))) (mCons (mC (.str (PySem.Str.ofString ""))) mNil))) (mCons (mCS tupD (mCons (mC (.str (PySem.Str.ofString ""))) (mCons (mC (.str (PySem.Str.ofString "q"))) mNil))) (mCons (mCS tupD (mCons (mC (.str (PySem.Str.ofString "ab"))) (mCons (mC (.str (PySem.Str.ofString ""))) mNil))) (mCons (mCS tupD (mCons (mC (.str (PySem.Str.ofString "abcdefg"))) (mCons (mC (.str (PySem.Str.ofString ""))) mNil))) (mCons (mCS tupD (mCons (mC (.str (PySem.Str.ofString ""))) (mCons (mC (.str (PySem.Str.ofString "abcdefg"))) mNil))) mNil))))))) (mSeq (mAsg (gL 2 (gsCons (gN 6) (gsCons (gN 7) gsNil))) (mCall 2 [true, false] f__law_pick (mCons (mVar 0) (mCons (mVar 3) mNil)))) (mRet (mLc [8] (iRange (mCons (mVar 1) mNil)) (gN 8) mYes (mBin addD (mBin addD (mVar 6) (mIxO GI_Town (mVar 2) (mBin modD (mCB intD (mCons (mBin addD (mVar 4) (mBin mulD (mVar 5) (mVar 8))) mNil)) (mC (.int 26))))) (mVar 7))))))))
def f__law_names : Fn := mkFn 7 b__law_names
def b__law_model_L1 : MS := (mIfS (mBinB (orF eqD (eqOD false (eqO T EQ_Till_Town))) (mCall 2 [true, false] f__law_draw (mCons (mVar 0) (mCons (mC (.int 3)) mNil))) (mC (.int 0))) (mExpr (mMutT "list" appendD (mVar 5) (mCons (mCS tupD (mCons (mIxO GI_Town (mVar 4) (mVar 6)) (mCons (mVar 10) mNil))) mNil))) mNext)
def b__law_model_L2 : MS := (mFor (iSeq (mSl (mVar 4) (some (mBin addD (mVar 6) (mC (.int 1)))) none)) (gN 10) b__law_model_L1)
def b__law_model_t9 : MS := (mRet (mVar 9))
def b__law_model_t8 : MS := (mSeq (mAsg (gT 2 (gsCons (gSV 9 (.str (PySem.Str.ofString "tops"))) (gsCons (gSV 9 (.str (PySem.Str.ofString "numbered"))) gsNil))) (mCS tupD (mCons (mCall 2 [true, false] f__law_draw (mCons (mVar 0) (mCons (mC (.int 4)) mNil))) (mCons (mBin (orF eqD (eqOD false (eqO T EQ_Till_Town))) (mCall 2 [true, false] f__law_draw (mCons (mVar 0) (mCons (mC (.int 2)) mNil))) (mC (.int 0))) mNil)))) b__law_model_t9)
def b__law_model_t7 : MS := (mSeq (mSet 9 (mDct [.inr (PySem.Str.ofString "tills"), .inr (PySem.Str.ofString "links"), .inr (PySem.Str.ofString "money"), .inr (PySem.Str.ofString "memory")] (mCons (mVar 3) (mCons (mVar 5) (mCons (mCall 2 [true, false] f__law_draw (mCons (mVar 0) (mCons (mC (.int 5)) mNil))) (mCons (mVar 8) mNil)))))) b__law_model_t8)
def b__law_model_t6 : MS := (mSeq (mSet 8 (mCall 2 [true, false] f__law_pick (mCons (mVar 0) (mCons (mVar 7) mNil)))) b__law_model_t7)
def b__law_model_t5 : MS := (mSeq (mSet 7 (mCS lstD (mCons (mCS tupD (mCons (mC (.str (PySem.Str.ofString "nothing"))) mNil)) (mCons (mCS tupD (mCons (mC (.str (PySem.Str.ofString "nothing"))) mNil)) (mCons (mCS tupD (mCons (mC (.str (PySem.Str.ofString "times"))) (mCons (mCall 2 [true, false] f__law_draw (mCons (mVar 0) (mCons (mC (.int 3)) mNil))) mNil))) (mCons (mCS tupD (mCons (mC (.str (PySem.Str.ofString "sum"))) (mCons (mCall 2 [true, false] f__law_draw (mCons (mVar 0) (mCons (mC (.int 4)) mNil))) mNil))) mNil)))))) b__law_model_t6)
def b__law_model_t4 : MS := (mSeq (mFor (iRange (mCons (mCB (orC lenD (lenOD LN_Town)) (mCons (mVar 4) mNil)) mNil)) (gN 6) b__law_model_L2) b__law_model_t5)
def b__law_model_t3 : MS := (mSeq (mSet 5 (mCS lstD mNil)) b__law_model_t4)
def b__law_model_t2 : MS := (mSeq (mSet 4 (mCB sortedD (mCons (mLc [10] (iSeq (mVar 2)) (gN 10) mYes (mCB strD (mCons (mVar 10) mNil))) mNil))) b__law_model_t3)
def b__law_model_t1 : MS := (mSeq (mSet 3 (mLc [10] (iSeq (mVar 2)) (gN 10) mYes (mCS tupD (mCons (mVar 10) (mCons (mCall 2 [true, false] f__law_draw (mCons (mVar 0) (mCons (mC (.int 4)) mNil))) (mCons (mBin gtD (mCall 2 [true, false] f__law_draw (mCons (mVar 0) (mCons (mC (.int 4)) mNil))) (mC (.int 0))) mNil)))))) b__law_model_t2)
def b__law_model : MS := (mSeq (mSet 2 (mCall 2 [true, false] f__law_names (mCons (mVar 0) (mCons (mBin addD (mC (.int 1)) (mCall 2 [true, false] f__law_draw (mCons (mVar 0) (mCons (mVar 1) mNil)))) mNil)))) b__law_model_t1)
def f__law_model : Fn := mkFn 9 b__law_model
def b__law_words_of : MS := (mRet (mLc [1] (iSeq (mIxO GI_Town (mVar 0) (mC (.str (PySem.Str.ofString "tills"))))) (gN 1) mYes (mBin ixD (mVar 1) (mC (.int 0)))))
def f__law_words_of : Fn := mkFn 1 b__law_words_of
def b_Town___contains__ : MS := (mRet (mAndV (mCB (isiD' T) (mCons (mVar 1) (mCons (mC (.ty "str")) mNil))) (mCB anyD (mCons (mLc [2] (iSeq (mUn (fldD T (PySem.Str.ofString "row")) (mVar 0))) (gN 2) mYes (mBin (orF eqD (eqOD false (eqO T EQ_Till_Town))) (mUn (fldD T (PySem.Str.ofString "name")) (mVar 2)) (mVar 1))) mNil))))
def f_Town___contains__ : Fn := mkFn 1 b_Town___contains__
def IN_Town : Nat → Option Fn := lookF [(C_Town, f_Town___contains__)]
@[simp] theorem IN_Town_Town : IN_Town C_Town = some f_Town___contains__ := rfl
@[simp] theorem IN_Town_Till : IN_Town C_Till = none := rfl
def b_is_name : MS := (mRet (mAndV (mCB (isiD' T) (mCons (mVar 0) (mCons (mC (.ty "str")) mNil))) (mAndV (mChain leD leD (mC (.int 1)) (mCB (orC lenD (lenOD LN_Town)) (mCons (mVar 0) mNil)) (mC (.int 8))) (mCB allD (mCons (mLc [1] (iSeq (mVar 0)) (gN 1) mYes (mBin (orF (inD false) (eqOD false (inO IN_Town))) (mVar 1) (mC (.str (PySem.Str.ofString "abcdefghijklmnopqrstuvwxyz"))))) mNil)))))
def f_is_name : Fn := mkFn 1 b_is_name
def b_is_integer : MS := (mRet (mAndV (mCB (isiD' T) (mCons (mVar 0) (mCons (mC (.ty "int")) mNil))) (mNotV (mCB (isiD' T) (mCons (mVar 0) (mCons (mC (.ty "bool")) mNil))))))
def f_is_integer : Fn := mkFn 0 b_is_integer
def b_is_between : MS := (mRet (mAndV (mCall 1 [false] f_is_integer (mCons (mVar 0) mNil)) (mChain leD leD (mVar 1) (mVar 0) (mVar 2))))
def f_is_between : Fn := mkFn 0 b_is_between
def b_Till___init__ : MS := (mSeq (mIfS (mNotB (mTru (mCall 1 [false] f_is_name (mCons (mVar 1) mNil)))) (mRaise C_BadPart (PySem.Str.ofString "part") (mC (.str (PySem.Str.ofString "name")))) mNext) (mSeq (mIfS (mNotB (mTru (mCall 3 [false, false, false] f_is_between (mCons (mVar 2) (mCons (mC (.int 0)) (mCons (mC (.int 9)) mNil)))))) (mRaise C_BadPart (PySem.Str.ofString "part") (mC (.str (PySem.Str.ofString "limit")))) mNext) (mSeq (mIfS (mNotB (mTru (mCB (isiD' T) (mCons (mVar 3) (mCons (mC (.ty "bool")) mNil))))) (mRaise C_BadPart (PySem.Str.ofString "part") (mC (.str (PySem.Str.ofString "heeds")))) mNext) (mSeq (mFldS T (PySem.Str.ofString "name") (mVar 0) (mVar 1)) (mSeq (mFldS T (PySem.Str.ofString "limit") (mVar 0) (mVar 2)) (mFldS T (PySem.Str.ofString "heeds") (mVar 0) (mVar 3)))))))
def f_Till___init__ : Fn := mkFn 0 b_Till___init__
def b_checked_tills_L1 : MS := (mSeq (mIfS (mOrB (mNotB (mTru (mCB (isiD' T) (mCons (mVar 3) (mCons (mC (.cls C_Till)) mNil))))) (mBinB (orF (inD false) (eqOD false (inO IN_Town))) (mUn (fldD T (PySem.Str.ofString "name")) (mVar 3)) (mVar 1))) (mRaise C_BadTill (PySem.Str.ofString "index") (mVar 2)) mNext) (mExpr (mMutT "list" appendD (mVar 1) (mCons (mUn (fldD T (PySem.Str.ofString "name")) (mVar 3)) mNil))))
def b_checked_tills : MS := (mSeq (mIfS (mOrB (mNotB (mTru (mCB (isiD' T) (mCons (mVar 0) (mCons (mCS tupD (mCons (mC (.ty "list")) (mCons (mC (.ty "tuple")) mNil))) mNil))))) (mBinB (orF eqD (eqOD false (eqO T EQ_Till_Town))) (mCB (orC lenD (lenOD LN_Town)) (mCons (mVar 0) mNil)) (mC (.int 0)))) (mRaise C_BadTill (PySem.Str.ofString "index") (mC .non)) mNext) (mSeq (mSet 1 (mCS lstD mNil)) (mSeq (mFor (iEnT (mCons (mVar 0) mNil)) (gT 2 (gsCons (gN 2) (gsCons (gN 3) gsNil))) b_checked_tills_L1) (mSeq (mIfS (mBinB gtD (mCB (orC lenD (lenOD LN_Town)) (mCons (mVar 0) mNil)) (mC (.int 4))) (mRaise C_TooMany (PySem.Str.ofString "limit") (mC (.int 4))) mNext) (mRet (mCB tupleD (mCons (mVar 0) mNil)))))))
def f_checked_tills : Fn := mkFn 3 b_checked_tills
def b_is_link : MS := (mSeq (mIfS (mOrB (mNotB (mTru (mCB (isiD' T) (mCons (mVar 0) (mCons (mC (.ty "tuple")) mNil))))) (mOrB (mBinB (orF neD (eqOD true (eqO T EQ_Till_Town))) (mCB (orC lenD (lenOD LN_Town)) (mCons (mVar 0) mNil)) (mC (.int 2))) (mNotB (mTru (mCB allD (mCons (mLc [2] (iSeq (mVar 0)) (gN 2) mYes (mCB (isiD' T) (mCons (mVar 2) (mCons (mC (.ty "str")) mNil)))) mNil)))))) (mRet (mC (.bl false))) mNext) (mRet (mAndV (mBin (orF (inD false) (eqOD false (inO IN_Town))) (mBin ixD (mVar 0) (mC (.int 0))) (mVar 1)) (mAndV (mBin (orF (inD false) (eqOD false (inO IN_Town))) (mBin ixD (mVar 0) (mC (.int 1))) (mVar 1)) (mBin ltD (mBin ixD (mVar 0) (mC (.int 0))) (mBin ixD (mVar 0) (mC (.int 1))))))))
def f_is_link : Fn := mkFn 1 b_is_link
def b_checked_links_L1 : MS := (mIfS (mOrB (mNotB (mTru (mCall 2 [false, false] f_is_link (mCons (mVar 4) (mCons (mVar 1) mNil))))) (mBinB (orF (inD false) (eqOD false (inO IN_Town))) (mVar 4) (mSl (mVar 0) none (some (mVar 3))))) (mRaise C_BadLink (PySem.Str.ofString "index") (mVar 3)) mNext)
def b_checked_links : MS := (mSeq (mIfS (mNotB (mTru (mCB (isiD' T) (mCons (mVar 0) (mCons (mCS tupD (mCons (mC (.ty "list")) (mCons (mC (.ty "tuple")) mNil))) mNil))))) (mRaise C_BadLink (PySem.Str.ofString "index") (mC .non)) mNext) (mSeq (mFor (iEnT (mCons (mVar 0) mNil)) (gT 2 (gsCons (gN 3) (gsCons (gN 4) gsNil))) b_checked_links_L1) (mSeq (mSet 2 (mDc [4] (iSeq (mVar 0)) (gN 4) mYes (mMtT "str" joinD (mC (.str (PySem.Str.ofString " "))) (mCons (mVar 4) mNil)) (mVar 4))) (mRet (mCB tupleD (mCons (mLc [5] (iSeq (mCB sortedD (mCons (mLcK [5] 2 (gN 5) mYes (mCB strD (mCons (mVar 5) mNil))) mNil))) (gN 5) mYes (mIxO GI_Town (mVar 2) (mVar 5))) mNil))))))
def f_checked_links : Fn := mkFn 4 b_checked_links
def b_Town_names : MS := (mRet (mLc [1] (iSeq (mUn (fldD T (PySem.Str.ofString "row")) (mVar 0))) (gN 1) mYes (mUn (fldD T (PySem.Str.ofString "name")) (mVar 1))))
def f_Town_names : Fn := mkFn 1 b_Town_names
def b_has_kind : MS := (mRet (mAndV (mCB (isiD' T) (mCons (mVar 0) (mCons (mC (.ty "tuple")) mNil))) (mAndV (mBin (orF eqD (eqOD false (eqO T EQ_Till_Town))) (mCB (orC lenD (lenOD LN_Town)) (mCons (mVar 0) mNil)) (mVar 2)) (mAndV (mCB (isiD' T) (mCons (mBin ixD (mVar 0) (mC (.int 0))) (mCons (mC (.ty "str")) mNil))) (mBin (orF eqD (eqOD false (eqO T EQ_Till_Town))) (mBin ixD (mVar 0) (mC (.int 0))) (mVar 1))))))
def f_has_kind : Fn := mkFn 0 b_has_kind
def b_is_memory : MS := (mSeq (mIfS (mTru (mCall 3 [false, false, false] f_has_kind (mCons (mVar 0) (mCons (mC (.str (PySem.Str.ofString "nothing"))) (mCons (mC (.int 1)) mNil))))) (mRet (mC (.bl true))) mNext) (mRet (mAndV (mOrV (mCall 3 [false, false, false] f_has_kind (mCons (mVar 0) (mCons (mC (.str (PySem.Str.ofString "times"))) (mCons (mC (.int 2)) mNil)))) (mCall 3 [false, false, false] f_has_kind (mCons (mVar 0) (mCons (mC (.str (PySem.Str.ofString "sum"))) (mCons (mC (.int 2)) mNil))))) (mCall 3 [false, false, false] f_is_between (mCons (mBin ixD (mVar 0) (mC (.int 1))) (mCons (mC (.int 0)) (mCons (mC (.int 9)) mNil)))))))
def f_is_memory : Fn := mkFn 0 b_is_memory
def b_check_parts : MS := (mSeq (mIfS (mNotB (mTru (mCall 3 [false, false, false] f_is_between (mCons (mVar 0) (mCons (mC (.int 0)) (mCons (mC (.int 9)) mNil)))))) (mRaise C_BadPart (PySem.Str.ofString "part") (mC (.str (PySem.Str.ofString "money")))) mNext) (mSeq (mIfS (mNotB (mTru (mCall 1 [false] f_is_memory (mCons (mVar 1) mNil)))) (mRaise C_BadPart (PySem.Str.ofString "part") (mC (.str (PySem.Str.ofString "memory")))) mNext) (mSeq (mIfS (mNotB (mTru (mCall 3 [false, false, false] f_is_between (mCons (mVar 2) (mCons (mC (.int 0)) (mCons (mC (.int 5)) mNil)))))) (mRaise C_BadPart (PySem.Str.ofString "part") (mC (.str (PySem.Str.ofString "tops")))) mNext) (mIfS (mNotB (mTru (mCB (isiD' T) (mCons (mVar 3) (mCons (mC (.ty "bool")) mNil))))) (mRaise C_BadPart (PySem.Str.ofString "part") (mC (.str (PySem.Str.ofString "numbered")))) mNext))))
def f_check_parts : Fn := mkFn 0 b_check_parts
def b_Town___init__ : MS := (mSeq (mFldS T (PySem.Str.ofString "row") (mVar 0) (mCall 1 [false] f_checked_tills (mCons (mVar 1) mNil))) (mSeq (mFldS T (PySem.Str.ofString "links") (mVar 0) (mCall 2 [false, false] f_checked_links (mCons (mVar 2) (mCons (mMeth C_Town (PySem.Str.ofString "names") 1 [true] f_Town_names (mVar 0) mNil) mNil)))) (mSeq (mExpr (mCall 4 [false, false, false, false] f_check_parts (mCons (mVar 3) (mCons (mVar 4) (mCons (mVar 5) (mCons (mVar 6) mNil)))))) (mSeq (mFldS T (PySem.Str.ofString "money") (mVar 0) (mVar 3)) (mSeq (mFldS T (PySem.Str.ofString "memory") (mVar 0) (mVar 4)) (mSeq (mFldS T (PySem.Str.ofString "tops") (mVar 0) (mVar 5)) (mFldS T (PySem.Str.ofString "numbered") (mVar 0) (mVar 6))))))))
def f_Town___init__ : Fn := mkFn 0 b_Town___init__
def b__law_made : MS := (mSeq (mSet 1 (mLc [6, 7, 8] (iSeq (mIxO GI_Town (mVar 0) (mC (.str (PySem.Str.ofString "tills"))))) (gT 3 (gsCons (gN 6) (gsCons (gN 7) (gsCons (gN 8) gsNil)))) mYes (mMakeW C_Till 2 1 4 [0, 1, 2] [] [false, false, false] f_Till___init__ (mCons (mVar 6) (mCons (mVar 7) mNil)) (mCons (mVar 8) mNil)))) (mSeq (mPar [2, 3] (mConsN (mIxO GI_Town (mVar 0) (mC (.str (PySem.Str.ofString "money")))) (mConsN (mIxO GI_Town (mVar 0) (mC (.str (PySem.Str.ofString "memory")))) mNil))) (mSeq (mPar [4, 5] (mConsN (mIxO GI_Town (mVar 0) (mC (.str (PySem.Str.ofString "tops")))) (mConsN (mIxO GI_Town (mVar 0) (mC (.str (PySem.Str.ofString "numbered")))) mNil))) (mRet (mMakeW C_Town 1 5 7 [0, 1, 2, 3, 4, 5] [] [false, false, false, false, false, false] f_Town___init__ (mCons (mVar 1) mNil) (mCons (mIxO GI_Town (mVar 0) (mC (.str (PySem.Str.ofString "links")))) (mCons (mVar 2) (mCons (mVar 3) (mCons (mVar 4) (mCons (mVar 5) mNil))))))))))
def f__law_made : Fn := mkFn 8 b__law_made
def b__law_touch : MS := (mRet (mOrV (mBin (orF eqD (eqOD false (eqO T EQ_Till_Town))) (mVar 1) (mVar 2)) (mOrV (mBin (orF (inD false) (eqOD false (inO IN_Town))) (mCS tupD (mCons (mVar 1) (mCons (mVar 2) mNil))) (mVar 0)) (mBin (orF (inD false) (eqOD false (inO IN_Town))) (mCS tupD (mCons (mVar 2) (mCons (mVar 1) mNil))) (mVar 0)))))
def f__law_touch : Fn := mkFn 0 b__law_touch
def b__law_leads_L1 : MS := (mSeq (mSet 6 (mCS lstD (mCons (mCS tupD (mCons (mVar 2) (mCons (mVar 4) mNil))) (mCons (mCS tupD (mCons (mVar 4) (mCons (mVar 5) mNil))) (mCons (mCS tupD (mCons (mVar 5) (mCons (mVar 3) mNil))) mNil))))) (mIfS (mBinB (orF eqD (eqOD false (eqO T EQ_Till_Town))) (mLc [7] (iSeq (mVar 6)) (gN 7) (mNotB (mTru (mCall 3 [false, false, false] f__law_touch (mCons (mVar 1) (mCons (mBin ixD (mVar 7) (mC (.int 0))) (mCons (mBin ixD (mVar 7) (mC (.int 1))) mNil)))))) (mVar 7)) (mCS lstD mNil)) (mRet (mC (.bl true))) mNext))
def b__law_leads_L2 : MS := (mFor (iSeq (mVar 0)) (gN 5) b__law_leads_L1)
def b__law_leads : MS := (mSeq (mFor (iSeq (mVar 0)) (gN 4) b__law_leads_L2) (mRet (mC (.bl false))))
def f__law_leads : Fn := mkFn 4 b__law_leads
def b_Town_seat : MS := (mSeq (mIfS (mBinB (orF (inD true) (eqOD true (inO IN_Town))) (mVar 1) (mVar 0)) sStuck mNext) (mRet (mMtT "list" indexD (mMeth C_Town (PySem.Str.ofString "names") 1 [false] f_Town_names (mVar 0) mNil) (mCons (mVar 1) mNil))))
def f_Town_seat : Fn := mkFn 0 b_Town_seat
def b_Town_group_L1 : MS := (mIfS (mBinB (orF (inD false) (eqOD false (inO IN_Town))) (mIxO GI_Town (mVar 2) (mVar 3)) (mVar 4)) (mSeq (mSet 6 (mIf (mBinB (orF eqD (eqOD false (eqO T EQ_Till_Town))) (mBin ixD (mVar 4) (mC (.int 0))) (mIxO GI_Town (mVar 2) (mVar 3))) (mBin ixD (mVar 4) (mC (.int 1))) (mBin ixD (mVar 4) (mC (.int 0))))) (mExpr (mMutT "list" extendD (mVar 2) (mCons (mIf (mBinB (orF (inD false) (eqOD false (inO IN_Town))) (mVar 6) (mVar 2)) (mCS lstD mNil) (mCS lstD (mCons (mVar 6) mNil))) mNil)))) mNext)
def b_Town_group_W2 : MS := (mSeq (mFor (iSeq (mUn (fldD T (PySem.Str.ofString "links")) (mVar 0))) (gN 4) b_Town_group_L1) (mAug (fII (fun _ _ => true) fun i j => .int (i + j)) 3 (mC (.int 1))))
def b_Town_group : MS := (mSeq (mExpr (mMeth C_Town (PySem.Str.ofString "seat") 2 [false, false] f_Town_seat (mVar 0) (mCons (mVar 1) mNil))) (mSeq (mSet 2 (mCS lstD (mCons (mVar 1) mNil))) (mSeq (mSet 3 (mC (.int 0))) (mSeq (whileD (mBinB ltD (mVar 3) (mCB (orC lenD (lenOD LN_Town)) (mCons (mVar 2) mNil))) b_Town_group_W2 1000000) (mRet (mLc [5] (iSeq (mMeth C_Town (PySem.Str.ofString "names") 1 [false] f_Town_names (mVar 0) mNil)) (gN 5) (mBinB (orF (inD false) (eqOD false (inO IN_Town))) (mVar 5) (mVar 2)) (mVar 5)))))))
def f_Town_group : Fn := mkFn 5 b_Town_group
def b_Town_made : MS := (mSeq (mAsg (gL 4 (gsCons (gN 4) (gsCons (gN 5) (gsCons (gN 6) (gsCons (gN 7) gsNil))))) (mVar 3)) (mRet (mMakeW C_Town 1 5 7 [0, 1, 2, 3, 4, 5] [] [false, false, false, false, false, false] f_Town___init__ (mCons (mVar 1) mNil) (mCons (mVar 2) (mCons (mVar 4) (mCons (mVar 5) (mCons (mVar 6) (mCons (mVar 7) mNil))))))))
def f_Town_made : Fn := mkFn 4 b_Town_made
def b_Town_parts : MS := (mRet (mCS tupD (mCons (mUn (fldD T (PySem.Str.ofString "money")) (mVar 0)) (mCons (mUn (fldD T (PySem.Str.ofString "memory")) (mVar 0)) (mCons (mUn (fldD T (PySem.Str.ofString "tops")) (mVar 0)) (mCons (mUn (fldD T (PySem.Str.ofString "numbered")) (mVar 0)) mNil))))))
def f_Town_parts : Fn := mkFn 0 b_Town_parts
def b_Town_with_links : MS := (mRet (mMeth C_Town (PySem.Str.ofString "made") 4 [false, false, false, false] f_Town_made (mVar 0) (mCons (mUn (fldD T (PySem.Str.ofString "row")) (mVar 0)) (mCons (mVar 1) (mCons (mMeth C_Town (PySem.Str.ofString "parts") 1 [false] f_Town_parts (mVar 0) mNil) mNil)))))
def f_Town_with_links : Fn := mkFn 0 b_Town_with_links
def b_law_L1 : MS := (mSeq (mSet 10 (mLc [11] (iSeq (mVar 9)) (gN 11) (mTru (mCall 4 [false, false, false, false] f__law_leads (mCons (mVar 9) (mCons (mIxO GI_Town (mVar 3) (mC (.str (PySem.Str.ofString "links")))) (mCons (mVar 7) (mCons (mVar 11) mNil)))))) (mVar 11))) (mSeq (mIfS (mBinB (orF neD (eqOD true (eqO T EQ_Till_Town))) (mMeth C_Town (PySem.Str.ofString "group") 2 [false, false] f_Town_group (mVar 8) (mCons (mVar 7) mNil)) (mVar 10)) (mRet (mC (.bl false))) mNext) (mSeq (mIfS (mBinB (orF neD (eqOD true (eqO T EQ_Till_Town))) (mLc [11] (iSeq (mVar 10)) (gN 11) (mBinB (orF neD (eqOD true (eqO T EQ_Till_Town))) (mMeth C_Town (PySem.Str.ofString "group") 2 [false, false] f_Town_group (mVar 8) (mCons (mVar 11) mNil)) (mVar 10)) (mVar 11)) (mCS lstD mNil)) (mRet (mC (.bl false))) mNext) (mExpr (mMutN "list" appendD (mMeth C_Town (PySem.Str.ofString "group") 2 [false, false] f_Town_group (mVar 8) (mCons (mVar 7) mNil)) (mCons (mC (.str (PySem.Str.ofString "x"))) mNil))))))
def b_law_L2 : MS := (mFor (iSeq (mVar 9)) (gN 7) b_law_L1)
def b_law_L3 : MS := (mSeq (mSet 10 (mLc [11] (iSeq (mVar 9)) (gN 11) (mTru (mCall 4 [false, false, false, false] f__law_leads (mCons (mVar 9) (mCons (mVar 5) (mCons (mVar 7) (mCons (mVar 11) mNil)))))) (mVar 11))) (mIfS (mBinB (orF neD (eqOD true (eqO T EQ_Till_Town))) (mMeth C_Town (PySem.Str.ofString "group") 2 [false, false] f_Town_group (mVar 6) (mCons (mVar 7) mNil)) (mVar 10)) (mRet (mC (.bl false))) mNext))
def b_law_t7 : MS := (mIfS (mOrB (mBinB (orF neD (eqOD true (eqO T EQ_Till_Town))) (mMeth C_Town (PySem.Str.ofString "group") 2 [false, false] f_Town_group (mMeth C_Town (PySem.Str.ofString "with_links") 2 [false, false] f_Town_with_links (mVar 8) (mCons (mCS lstD mNil) mNil)) (mCons (mBin ixD (mVar 9) (mC (.int 0))) mNil)) (mSl (mVar 9) none (some (mC (.int 1))))) (mBinB (orF neD (eqOD true (eqO T EQ_Till_Town))) (mUn (fldD T (PySem.Str.ofString "links")) (mVar 8)) (mCB tupleD (mCons (mIxO GI_Town (mVar 3) (mC (.str (PySem.Str.ofString "links")))) mNil)))) (mRet (mC (.bl false))) mNext)
def b_law_t6 : MS := (mSeq (mFor (iSeq (mVar 9)) (gN 7) b_law_L3) b_law_t7)
def b_law_t5 : MS := (mSeq (mSet 6 (mMeth C_Town (PySem.Str.ofString "with_links") 2 [false, false] f_Town_with_links (mVar 8) (mCons (mVar 5) mNil))) b_law_t6)
def b_law_t4 : MS := (mSeq (mSet 5 (mSl (mIxO GI_Town (mVar 3) (mC (.str (PySem.Str.ofString "links")))) (some (mC (.int 1))) none)) b_law_t5)
def b_law_t3 : MS := (mSeq (mFor (iRange (mCons (mC (.int 2)) mNil)) (gN 4) b_law_L2) b_law_t4)
def b_law_t2 : MS := (mSeq (mPar [8, 9] (mConsN (mCall 1 [false] f__law_made (mCons (mVar 3) mNil)) (mConsN (mCall 1 [false] f__law_words_of (mCons (mVar 3) mNil)) mNil))) b_law_t3)
def b_law_t1 : MS := (mSeq (mSet 3 (mCall 2 [true, false] f__law_model (mCons (mVar 2) (mCons (mC (.int 4)) mNil)))) b_law_t2)
def b_law_L4 : MS := (mSeq (mSet 2 (mCall 2 [false, false] f__law_pool (mCons (mVar 0) (mCons (mVar 1) mNil)))) b_law_t1)
def b_law : MS := (mSeq (mFor (iRange (mCons (mCB maxD (mCons (mC (.int 1)) (mCons (mCB minD (mCons (mCB (orC lenD (lenOD LN_Town)) (mCons (mVar 0) mNil)) (mCons (mC (.int 2)) mNil))) mNil))) mNil)) (gN 1) b_law_L4) (mRet (mC (.bl true))))
def f_law : Fn := mkFn 11 b_law
end Lw

namespace Lw
open PySem PySem.Spec PyProof.Rows L2 PyD
def topS (i : Nat) : Stmt := PySem.Challenge.pw_cutofftills_k05_whole_groups.main.body.getD i (.Pass ⟨0, 0, 0, 0⟩)
abbrev s_Town___len__ : Stmt := inClass (topS 27) 2
abbrev N_Town___len__ : List PySem.Str := [(PySem.Str.ofString "self")]
abbrev P_Town___len__ : List PySem.Str := [(PySem.Str.ofString "self")]
abbrev s_Town___eq__ : Stmt := inClass (topS 27) 5
abbrev N_Town___eq__ : List PySem.Str := [(PySem.Str.ofString "self"), (PySem.Str.ofString "other"), (PySem.Str.ofString "mine")]
abbrev P_Town___eq__ : List PySem.Str := [(PySem.Str.ofString "self"), (PySem.Str.ofString "other")]
abbrev s_Till___eq__ : Stmt := inClass (topS 21) 1
abbrev N_Till___eq__ : List PySem.Str := [(PySem.Str.ofString "self"), (PySem.Str.ofString "other")]
abbrev P_Till___eq__ : List PySem.Str := [(PySem.Str.ofString "self"), (PySem.Str.ofString "other")]
abbrev s_Town___getitem__ : Stmt := inClass (topS 27) 4
abbrev N_Town___getitem__ : List PySem.Str := [(PySem.Str.ofString "self"), (PySem.Str.ofString "name"), (PySem.Str.ofString "till")]
abbrev P_Town___getitem__ : List PySem.Str := [(PySem.Str.ofString "self"), (PySem.Str.ofString "name")]
abbrev s__law_pool : Stmt := topS 29
abbrev N__law_pool : List PySem.Str := [(PySem.Str.ofString "_law_script"), (PySem.Str.ofString "_law_k"), (PySem.Str.ofString "_law_size"), (PySem.Str.ofString "_law_mixed")]
abbrev P__law_pool : List PySem.Str := [(PySem.Str.ofString "_law_script"), (PySem.Str.ofString "_law_k")]
abbrev s__law_draw : Stmt := topS 30
abbrev N__law_draw : List PySem.Str := [(PySem.Str.ofString "_law_pool_here"), (PySem.Str.ofString "_law_many"), (PySem.Str.ofString "_law_found")]
abbrev P__law_draw : List PySem.Str := [(PySem.Str.ofString "_law_pool_here"), (PySem.Str.ofString "_law_many")]
abbrev s__law_pick : Stmt := topS 31
abbrev N__law_pick : List PySem.Str := [(PySem.Str.ofString "_law_pool_here"), (PySem.Str.ofString "_law_row")]
abbrev P__law_pick : List PySem.Str := [(PySem.Str.ofString "_law_pool_here"), (PySem.Str.ofString "_law_row")]
abbrev s__law_names : Stmt := topS 32
abbrev N__law_names : List PySem.Str := [(PySem.Str.ofString "_law_pool_here"), (PySem.Str.ofString "_law_count"), (PySem.Str.ofString "_law_signs"), (PySem.Str.ofString "_law_ends"), (PySem.Str.ofString "_law_origin"), (PySem.Str.ofString "_law_step"), (PySem.Str.ofString "_law_head"), (PySem.Str.ofString "_law_tail"), (PySem.Str.ofString "_law_k")]
abbrev P__law_names : List PySem.Str := [(PySem.Str.ofString "_law_pool_here"), (PySem.Str.ofString "_law_count")]
abbrev s__law_model : Stmt := topS 33
abbrev N__law_model : List PySem.Str := [(PySem.Str.ofString "_law_pool_here"), (PySem.Str.ofString "_law_most_so"), (PySem.Str.ofString "_law_names_here"), (PySem.Str.ofString "_law_tills"), (PySem.Str.ofString "_law_known"), (PySem.Str.ofString "_law_pairs"), (PySem.Str.ofString "_law_at"), (PySem.Str.ofString "_law_some"), (PySem.Str.ofString "_law_memo"), (PySem.Str.ofString "_law_model_here"), (PySem.Str.ofString "_law_name")]
abbrev P__law_model : List PySem.Str := [(PySem.Str.ofString "_law_pool_here"), (PySem.Str.ofString "_law_most_so")]
abbrev s__law_words_of : Stmt := topS 35
abbrev N__law_words_of : List PySem.Str := [(PySem.Str.ofString "_law_model_here"), (PySem.Str.ofString "_law_till")]
abbrev P__law_words_of : List PySem.Str := [(PySem.Str.ofString "_law_model_here")]
abbrev s_Town___contains__ : Stmt := inClass (topS 27) 3
abbrev N_Town___contains__ : List PySem.Str := [(PySem.Str.ofString "self"), (PySem.Str.ofString "name"), (PySem.Str.ofString "till")]
abbrev P_Town___contains__ : List PySem.Str := [(PySem.Str.ofString "self"), (PySem.Str.ofString "name")]
abbrev s_is_name : Stmt := topS 17
abbrev N_is_name : List PySem.Str := [(PySem.Str.ofString "value"), (PySem.Str.ofString "sign")]
abbrev P_is_name : List PySem.Str := [(PySem.Str.ofString "value")]
abbrev s_is_integer : Stmt := topS 15
abbrev N_is_integer : List PySem.Str := [(PySem.Str.ofString "value")]
abbrev P_is_integer : List PySem.Str := [(PySem.Str.ofString "value")]
abbrev s_is_between : Stmt := topS 16
abbrev N_is_between : List PySem.Str := [(PySem.Str.ofString "value"), (PySem.Str.ofString "least"), (PySem.Str.ofString "most")]
abbrev P_is_between : List PySem.Str := [(PySem.Str.ofString "value"), (PySem.Str.ofString "least"), (PySem.Str.ofString "most")]
abbrev s_Till___init__ : Stmt := inClass (topS 21) 0
abbrev N_Till___init__ : List PySem.Str := [(PySem.Str.ofString "self"), (PySem.Str.ofString "name"), (PySem.Str.ofString "limit"), (PySem.Str.ofString "heeds")]
abbrev P_Till___init__ : List PySem.Str := [(PySem.Str.ofString "self"), (PySem.Str.ofString "name"), (PySem.Str.ofString "limit"), (PySem.Str.ofString "heeds")]
abbrev s_checked_tills : Stmt := topS 23
abbrev N_checked_tills : List PySem.Str := [(PySem.Str.ofString "tills"), (PySem.Str.ofString "known"), (PySem.Str.ofString "index"), (PySem.Str.ofString "till")]
abbrev P_checked_tills : List PySem.Str := [(PySem.Str.ofString "tills")]
abbrev s_is_link : Stmt := topS 24
abbrev N_is_link : List PySem.Str := [(PySem.Str.ofString "value"), (PySem.Str.ofString "names"), (PySem.Str.ofString "name")]
abbrev P_is_link : List PySem.Str := [(PySem.Str.ofString "value"), (PySem.Str.ofString "names")]
abbrev s_checked_links : Stmt := topS 25
abbrev N_checked_links : List PySem.Str := [(PySem.Str.ofString "links"), (PySem.Str.ofString "names"), (PySem.Str.ofString "texts"), (PySem.Str.ofString "index"), (PySem.Str.ofString "value"), (PySem.Str.ofString "text")]
abbrev P_checked_links : List PySem.Str := [(PySem.Str.ofString "links"), (PySem.Str.ofString "names")]
abbrev s_Town_names : Stmt := inClass (topS 27) 6
abbrev N_Town_names : List PySem.Str := [(PySem.Str.ofString "self"), (PySem.Str.ofString "till")]
abbrev P_Town_names : List PySem.Str := [(PySem.Str.ofString "self")]
abbrev s_has_kind : Stmt := topS 18
abbrev N_has_kind : List PySem.Str := [(PySem.Str.ofString "value"), (PySem.Str.ofString "kind"), (PySem.Str.ofString "many")]
abbrev P_has_kind : List PySem.Str := [(PySem.Str.ofString "value"), (PySem.Str.ofString "kind"), (PySem.Str.ofString "many")]
abbrev s_is_memory : Stmt := topS 19
abbrev N_is_memory : List PySem.Str := [(PySem.Str.ofString "value")]
abbrev P_is_memory : List PySem.Str := [(PySem.Str.ofString "value")]
abbrev s_check_parts : Stmt := topS 26
abbrev N_check_parts : List PySem.Str := [(PySem.Str.ofString "money"), (PySem.Str.ofString "memory"), (PySem.Str.ofString "tops"), (PySem.Str.ofString "numbered")]
abbrev P_check_parts : List PySem.Str := [(PySem.Str.ofString "money"), (PySem.Str.ofString "memory"), (PySem.Str.ofString "tops"), (PySem.Str.ofString "numbered")]
abbrev s_Town___init__ : Stmt := inClass (topS 27) 0
abbrev N_Town___init__ : List PySem.Str := [(PySem.Str.ofString "self"), (PySem.Str.ofString "tills"), (PySem.Str.ofString "links"), (PySem.Str.ofString "money"), (PySem.Str.ofString "memory"), (PySem.Str.ofString "tops"), (PySem.Str.ofString "numbered")]
abbrev P_Town___init__ : List PySem.Str := [(PySem.Str.ofString "self"), (PySem.Str.ofString "tills"), (PySem.Str.ofString "links"), (PySem.Str.ofString "money"), (PySem.Str.ofString "memory"), (PySem.Str.ofString "tops"), (PySem.Str.ofString "numbered")]
abbrev s__law_made : Stmt := topS 34
abbrev N__law_made : List PySem.Str := [(PySem.Str.ofString "_law_model_here"), (PySem.Str.ofString "_law_tills"), (PySem.Str.ofString "_law_cash"), (PySem.Str.ofString "_law_memo"), (PySem.Str.ofString "_law_gives"), (PySem.Str.ofString "_law_marked"), (PySem.Str.ofString "_law_name"), (PySem.Str.ofString "_law_limit"), (PySem.Str.ofString "_law_heed")]
abbrev P__law_made : List PySem.Str := [(PySem.Str.ofString "_law_model_here")]
abbrev s__law_touch : Stmt := topS 36
abbrev N__law_touch : List PySem.Str := [(PySem.Str.ofString "_law_pairs"), (PySem.Str.ofString "_law_one"), (PySem.Str.ofString "_law_other")]
abbrev P__law_touch : List PySem.Str := [(PySem.Str.ofString "_law_pairs"), (PySem.Str.ofString "_law_one"), (PySem.Str.ofString "_law_other")]
abbrev s__law_leads : Stmt := topS 37
abbrev N__law_leads : List PySem.Str := [(PySem.Str.ofString "_law_names_here"), (PySem.Str.ofString "_law_pairs"), (PySem.Str.ofString "_law_one"), (PySem.Str.ofString "_law_other"), (PySem.Str.ofString "_law_first"), (PySem.Str.ofString "_law_second"), (PySem.Str.ofString "_law_rows"), (PySem.Str.ofString "_law_pair")]
abbrev P__law_leads : List PySem.Str := [(PySem.Str.ofString "_law_names_here"), (PySem.Str.ofString "_law_pairs"), (PySem.Str.ofString "_law_one"), (PySem.Str.ofString "_law_other")]
abbrev s_Town_seat : Stmt := inClass (topS 27) 7
abbrev N_Town_seat : List PySem.Str := [(PySem.Str.ofString "self"), (PySem.Str.ofString "name")]
abbrev P_Town_seat : List PySem.Str := [(PySem.Str.ofString "self"), (PySem.Str.ofString "name")]
abbrev s_Town_group : Stmt := inClass (topS 27) 8
abbrev N_Town_group : List PySem.Str := [(PySem.Str.ofString "self"), (PySem.Str.ofString "name"), (PySem.Str.ofString "found"), (PySem.Str.ofString "at"), (PySem.Str.ofString "link"), (PySem.Str.ofString "one"), (PySem.Str.ofString "other")]
abbrev P_Town_group : List PySem.Str := [(PySem.Str.ofString "self"), (PySem.Str.ofString "name")]
abbrev s_Town_made : Stmt := inClass (topS 27) 9
abbrev N_Town_made : List PySem.Str := [(PySem.Str.ofString "self"), (PySem.Str.ofString "tills"), (PySem.Str.ofString "links"), (PySem.Str.ofString "parts"), (PySem.Str.ofString "money"), (PySem.Str.ofString "memory"), (PySem.Str.ofString "tops"), (PySem.Str.ofString "numbered")]
abbrev P_Town_made : List PySem.Str := [(PySem.Str.ofString "self"), (PySem.Str.ofString "tills"), (PySem.Str.ofString "links"), (PySem.Str.ofString "parts")]
abbrev s_Town_parts : Stmt := inClass (topS 27) 10
abbrev N_Town_parts : List PySem.Str := [(PySem.Str.ofString "self")]
abbrev P_Town_parts : List PySem.Str := [(PySem.Str.ofString "self")]
abbrev s_Town_with_links : Stmt := inClass (topS 27) 12
abbrev N_Town_with_links : List PySem.Str := [(PySem.Str.ofString "self"), (PySem.Str.ofString "links")]
abbrev P_Town_with_links : List PySem.Str := [(PySem.Str.ofString "self"), (PySem.Str.ofString "links")]
abbrev s_law : Stmt := topS 38
abbrev N_law : List PySem.Str := [(PySem.Str.ofString "_law_script"), (PySem.Str.ofString "_law_k"), (PySem.Str.ofString "_law_pool_here"), (PySem.Str.ofString "_law_model_here"), (PySem.Str.ofString "_law_turn"), (PySem.Str.ofString "_law_fewer"), (PySem.Str.ofString "_law_mate"), (PySem.Str.ofString "_law_name"), (PySem.Str.ofString "_law_town"), (PySem.Str.ofString "_law_names_here"), (PySem.Str.ofString "_law_due"), (PySem.Str.ofString "_law_other")]
abbrev P_law : List PySem.Str := [(PySem.Str.ofString "_law_script")]
abbrev s_BadLink___init__ : Stmt := inClass (topS 4) 0
abbrev N_BadLink___init__ : List PySem.Str := [(PySem.Str.ofString "self"), (PySem.Str.ofString "index")]
abbrev P_BadLink___init__ : List PySem.Str := [(PySem.Str.ofString "self"), (PySem.Str.ofString "index")]
abbrev s_BadPart___init__ : Stmt := inClass (topS 5) 0
abbrev N_BadPart___init__ : List PySem.Str := [(PySem.Str.ofString "self"), (PySem.Str.ofString "part")]
abbrev P_BadPart___init__ : List PySem.Str := [(PySem.Str.ofString "self"), (PySem.Str.ofString "part")]
abbrev s_BadTill___init__ : Stmt := inClass (topS 3) 0
abbrev N_BadTill___init__ : List PySem.Str := [(PySem.Str.ofString "self"), (PySem.Str.ofString "index")]
abbrev P_BadTill___init__ : List PySem.Str := [(PySem.Str.ofString "self"), (PySem.Str.ofString "index")]
abbrev s_TooMany___init__ : Stmt := inClass (topS 7) 0
abbrev N_TooMany___init__ : List PySem.Str := [(PySem.Str.ofString "self"), (PySem.Str.ofString "limit")]
abbrev P_TooMany___init__ : List PySem.Str := [(PySem.Str.ofString "self"), (PySem.Str.ofString "limit")]
def G (K : PySem.W.Frag) : Gx := ⟨K, cl K, fun _ => 0⟩
structure Fx (K : PySem.W.Frag) (mg : PySem.Str → Option Value) : Prop where
  tab : TabOk (G K) T
  b_all : mg (PySem.Str.ofString "all") = none
  b_any : mg (PySem.Str.ofString "any") = none
  b_bool : mg (PySem.Str.ofString "bool") = none
  b_enumerate : mg (PySem.Str.ofString "enumerate") = none
  b_int : mg (PySem.Str.ofString "int") = none
  b_isinstance : mg (PySem.Str.ofString "isinstance") = none
  b_len : mg (PySem.Str.ofString "len") = none
  b_list : mg (PySem.Str.ofString "list") = none
  b_max : mg (PySem.Str.ofString "max") = none
  b_min : mg (PySem.Str.ofString "min") = none
  b_range : mg (PySem.Str.ofString "range") = none
  b_sorted : mg (PySem.Str.ofString "sorted") = none
  b_str : mg (PySem.Str.ofString "str") = none
  b_tuple : mg (PySem.Str.ofString "tuple") = none
  c_LETTERS : ∃ t, mg (PySem.Str.ofString "LETTERS") = some (.str (PySem.Str.ofString "abcdefghijklmnopqrstuvwxyz") t)
  c_MOST_LETTERS : ∃ t, mg (PySem.Str.ofString "MOST_LETTERS") = some (.int (8) t)
  c_MOST_LIMIT : ∃ t, mg (PySem.Str.ofString "MOST_LIMIT") = some (.int (9) t)
  c_MOST_MONEY : ∃ t, mg (PySem.Str.ofString "MOST_MONEY") = some (.int (9) t)
  c_MOST_TILLS : ∃ t, mg (PySem.Str.ofString "MOST_TILLS") = some (.int (4) t)
  c_MOST_TOPS : ∃ t, mg (PySem.Str.ofString "MOST_TOPS") = some (.int (5) t)
  gc_BadLink : mg (PySem.Str.ofString "BadLink") = some (.ref (He.ga K (PySem.Str.ofString "BadLink")))
  gc_BadPart : mg (PySem.Str.ofString "BadPart") = some (.ref (He.ga K (PySem.Str.ofString "BadPart")))
  gc_BadTill : mg (PySem.Str.ofString "BadTill") = some (.ref (He.ga K (PySem.Str.ofString "BadTill")))
  gc_Till : mg (PySem.Str.ofString "Till") = some (.ref (He.ga K (PySem.Str.ofString "Till")))
  gc_TooMany : mg (PySem.Str.ofString "TooMany") = some (.ref (He.ga K (PySem.Str.ofString "TooMany")))
  gc_Town : mg (PySem.Str.ofString "Town") = some (.ref (He.ga K (PySem.Str.ofString "Town")))
  kt_Town___init___links : tupA K (kwAt ((PySem.Str.ofString "Town"), some (PySem.Str.ofString "__init__")) (PySem.Str.ofString "links") K) [] = true
  kt_Town___init___memory : tupA K (kwAt ((PySem.Str.ofString "Town"), some (PySem.Str.ofString "__init__")) (PySem.Str.ofString "memory") K) [.str (PySem.Str.ofString "nothing")] = true
  d_Town___len__ : ∃ fd, FunD K (PySem.Str.ofString "__len__") (PySem.Str.ofString "Town.__len__") (defArgs s_Town___len__) (defBody s_Town___len__) (defScope s_Town___len__) [] [] (He.fAd K ((PySem.Str.ofString "Town"), some (PySem.Str.ofString "__len__"))) fd
  d_Town___eq__ : ∃ fd, FunD K (PySem.Str.ofString "__eq__") (PySem.Str.ofString "Town.__eq__") (defArgs s_Town___eq__) (defBody s_Town___eq__) (defScope s_Town___eq__) [] [] (He.fAd K ((PySem.Str.ofString "Town"), some (PySem.Str.ofString "__eq__"))) fd
  d_Till___eq__ : ∃ fd, FunD K (PySem.Str.ofString "__eq__") (PySem.Str.ofString "Till.__eq__") (defArgs s_Till___eq__) (defBody s_Till___eq__) (defScope s_Till___eq__) [] [] (He.fAd K ((PySem.Str.ofString "Till"), some (PySem.Str.ofString "__eq__"))) fd
  d_Town___getitem__ : ∃ fd, FunD K (PySem.Str.ofString "__getitem__") (PySem.Str.ofString "Town.__getitem__") (defArgs s_Town___getitem__) (defBody s_Town___getitem__) (defScope s_Town___getitem__) [] [] (He.fAd K ((PySem.Str.ofString "Town"), some (PySem.Str.ofString "__getitem__"))) fd
  d__law_pool : ∃ fd, FunD K (PySem.Str.ofString "_law_pool") (PySem.Str.ofString "_law_pool") (defArgs s__law_pool) (defBody s__law_pool) (defScope s__law_pool) [] [] (He.fAd K ((PySem.Str.ofString "_law_pool"), none)) fd
  g__law_pool : mg (PySem.Str.ofString "_law_pool") = some (.ref (He.fAd K ((PySem.Str.ofString "_law_pool"), none)))
  d__law_draw : ∃ fd, FunD K (PySem.Str.ofString "_law_draw") (PySem.Str.ofString "_law_draw") (defArgs s__law_draw) (defBody s__law_draw) (defScope s__law_draw) [] [] (He.fAd K ((PySem.Str.ofString "_law_draw"), none)) fd
  g__law_draw : mg (PySem.Str.ofString "_law_draw") = some (.ref (He.fAd K ((PySem.Str.ofString "_law_draw"), none)))
  d__law_pick : ∃ fd, FunD K (PySem.Str.ofString "_law_pick") (PySem.Str.ofString "_law_pick") (defArgs s__law_pick) (defBody s__law_pick) (defScope s__law_pick) [] [] (He.fAd K ((PySem.Str.ofString "_law_pick"), none)) fd
  g__law_pick : mg (PySem.Str.ofString "_law_pick") = some (.ref (He.fAd K ((PySem.Str.ofString "_law_pick"), none)))
  d__law_names : ∃ fd, FunD K (PySem.Str.ofString "_law_names") (PySem.Str.ofString "_law_names") (defArgs s__law_names) (defBody s__law_names) (defScope s__law_names) [] [] (He.fAd K ((PySem.Str.ofString "_law_names"), none)) fd
  g__law_names : mg (PySem.Str.ofString "_law_names") = some (.ref (He.fAd K ((PySem.Str.ofString "_law_names"), none)))
  d__law_model : ∃ fd, FunD K (PySem.Str.ofString "_law_model") (PySem.Str.ofString "_law_model") (defArgs s__law_model) (defBody s__law_model) (defScope s__law_model) [] [] (He.fAd K ((PySem.Str.ofString "_law_model"), none)) fd
  g__law_model : mg (PySem.Str.ofString "_law_model") = some (.ref (He.fAd K ((PySem.Str.ofString "_law_model"), none)))
  d__law_words_of : ∃ fd, FunD K (PySem.Str.ofString "_law_words_of") (PySem.Str.ofString "_law_words_of") (defArgs s__law_words_of) (defBody s__law_words_of) (defScope s__law_words_of) [] [] (He.fAd K ((PySem.Str.ofString "_law_words_of"), none)) fd
  g__law_words_of : mg (PySem.Str.ofString "_law_words_of") = some (.ref (He.fAd K ((PySem.Str.ofString "_law_words_of"), none)))
  d_Town___contains__ : ∃ fd, FunD K (PySem.Str.ofString "__contains__") (PySem.Str.ofString "Town.__contains__") (defArgs s_Town___contains__) (defBody s_Town___contains__) (defScope s_Town___contains__) [] [] (He.fAd K ((PySem.Str.ofString "Town"), some (PySem.Str.ofString "__contains__"))) fd
  d_is_name : ∃ fd, FunD K (PySem.Str.ofString "is_name") (PySem.Str.ofString "is_name") (defArgs s_is_name) (defBody s_is_name) (defScope s_is_name) [] [] (He.fAd K ((PySem.Str.ofString "is_name"), none)) fd
  g_is_name : mg (PySem.Str.ofString "is_name") = some (.ref (He.fAd K ((PySem.Str.ofString "is_name"), none)))
  d_is_integer : ∃ fd, FunD K (PySem.Str.ofString "is_integer") (PySem.Str.ofString "is_integer") (defArgs s_is_integer) (defBody s_is_integer) (defScope s_is_integer) [] [] (He.fAd K ((PySem.Str.ofString "is_integer"), none)) fd
  g_is_integer : mg (PySem.Str.ofString "is_integer") = some (.ref (He.fAd K ((PySem.Str.ofString "is_integer"), none)))
  d_is_between : ∃ fd, FunD K (PySem.Str.ofString "is_between") (PySem.Str.ofString "is_between") (defArgs s_is_between) (defBody s_is_between) (defScope s_is_between) [] [] (He.fAd K ((PySem.Str.ofString "is_between"), none)) fd
  g_is_between : mg (PySem.Str.ofString "is_between") = some (.ref (He.fAd K ((PySem.Str.ofString "is_between"), none)))
  d_Till___init__ : ∃ fd, FunD K (PySem.Str.ofString "__init__") (PySem.Str.ofString "Till.__init__") (defArgs s_Till___init__) (defBody s_Till___init__) (defScope s_Till___init__) [] [((PySem.Str.ofString "heeds"), .bl true)] (He.fAd K ((PySem.Str.ofString "Till"), some (PySem.Str.ofString "__init__"))) fd
  d_checked_tills : ∃ fd, FunD K (PySem.Str.ofString "checked_tills") (PySem.Str.ofString "checked_tills") (defArgs s_checked_tills) (defBody s_checked_tills) (defScope s_checked_tills) [] [] (He.fAd K ((PySem.Str.ofString "checked_tills"), none)) fd
  g_checked_tills : mg (PySem.Str.ofString "checked_tills") = some (.ref (He.fAd K ((PySem.Str.ofString "checked_tills"), none)))
  d_is_link : ∃ fd, FunD K (PySem.Str.ofString "is_link") (PySem.Str.ofString "is_link") (defArgs s_is_link) (defBody s_is_link) (defScope s_is_link) [] [] (He.fAd K ((PySem.Str.ofString "is_link"), none)) fd
  g_is_link : mg (PySem.Str.ofString "is_link") = some (.ref (He.fAd K ((PySem.Str.ofString "is_link"), none)))
  d_checked_links : ∃ fd, FunD K (PySem.Str.ofString "checked_links") (PySem.Str.ofString "checked_links") (defArgs s_checked_links) (defBody s_checked_links) (defScope s_checked_links) [] [] (He.fAd K ((PySem.Str.ofString "checked_links"), none)) fd
  g_checked_links : mg (PySem.Str.ofString "checked_links") = some (.ref (He.fAd K ((PySem.Str.ofString "checked_links"), none)))
  d_Town_names : ∃ fd, FunD K (PySem.Str.ofString "names") (PySem.Str.ofString "Town.names") (defArgs s_Town_names) (defBody s_Town_names) (defScope s_Town_names) [] [] (He.fAd K ((PySem.Str.ofString "Town"), some (PySem.Str.ofString "names"))) fd
  d_has_kind : ∃ fd, FunD K (PySem.Str.ofString "has_kind") (PySem.Str.ofString "has_kind") (defArgs s_has_kind) (defBody s_has_kind) (defScope s_has_kind) [] [] (He.fAd K ((PySem.Str.ofString "has_kind"), none)) fd
  g_has_kind : mg (PySem.Str.ofString "has_kind") = some (.ref (He.fAd K ((PySem.Str.ofString "has_kind"), none)))
  d_is_memory : ∃ fd, FunD K (PySem.Str.ofString "is_memory") (PySem.Str.ofString "is_memory") (defArgs s_is_memory) (defBody s_is_memory) (defScope s_is_memory) [] [] (He.fAd K ((PySem.Str.ofString "is_memory"), none)) fd
  g_is_memory : mg (PySem.Str.ofString "is_memory") = some (.ref (He.fAd K ((PySem.Str.ofString "is_memory"), none)))
  d_check_parts : ∃ fd, FunD K (PySem.Str.ofString "check_parts") (PySem.Str.ofString "check_parts") (defArgs s_check_parts) (defBody s_check_parts) (defScope s_check_parts) [] [] (He.fAd K ((PySem.Str.ofString "check_parts"), none)) fd
  g_check_parts : mg (PySem.Str.ofString "check_parts") = some (.ref (He.fAd K ((PySem.Str.ofString "check_parts"), none)))
  d_Town___init__ : ∃ fd, FunD K (PySem.Str.ofString "__init__") (PySem.Str.ofString "Town.__init__") (defArgs s_Town___init__) (defBody s_Town___init__) (defScope s_Town___init__) [] [((PySem.Str.ofString "links"), .ref (kwAt ((PySem.Str.ofString "Town"), some (PySem.Str.ofString "__init__")) (PySem.Str.ofString "links") K)), ((PySem.Str.ofString "money"), .int 0), ((PySem.Str.ofString "memory"), .ref (kwAt ((PySem.Str.ofString "Town"), some (PySem.Str.ofString "__init__")) (PySem.Str.ofString "memory") K)), ((PySem.Str.ofString "tops"), .int 0), ((PySem.Str.ofString "numbered"), .bl true)] (He.fAd K ((PySem.Str.ofString "Town"), some (PySem.Str.ofString "__init__"))) fd
  d__law_made : ∃ fd, FunD K (PySem.Str.ofString "_law_made") (PySem.Str.ofString "_law_made") (defArgs s__law_made) (defBody s__law_made) (defScope s__law_made) [] [] (He.fAd K ((PySem.Str.ofString "_law_made"), none)) fd
  g__law_made : mg (PySem.Str.ofString "_law_made") = some (.ref (He.fAd K ((PySem.Str.ofString "_law_made"), none)))
  d__law_touch : ∃ fd, FunD K (PySem.Str.ofString "_law_touch") (PySem.Str.ofString "_law_touch") (defArgs s__law_touch) (defBody s__law_touch) (defScope s__law_touch) [] [] (He.fAd K ((PySem.Str.ofString "_law_touch"), none)) fd
  g__law_touch : mg (PySem.Str.ofString "_law_touch") = some (.ref (He.fAd K ((PySem.Str.ofString "_law_touch"), none)))
  d__law_leads : ∃ fd, FunD K (PySem.Str.ofString "_law_leads") (PySem.Str.ofString "_law_leads") (defArgs s__law_leads) (defBody s__law_leads) (defScope s__law_leads) [] [] (He.fAd K ((PySem.Str.ofString "_law_leads"), none)) fd
  g__law_leads : mg (PySem.Str.ofString "_law_leads") = some (.ref (He.fAd K ((PySem.Str.ofString "_law_leads"), none)))
  d_Town_seat : ∃ fd, FunD K (PySem.Str.ofString "seat") (PySem.Str.ofString "Town.seat") (defArgs s_Town_seat) (defBody s_Town_seat) (defScope s_Town_seat) [] [] (He.fAd K ((PySem.Str.ofString "Town"), some (PySem.Str.ofString "seat"))) fd
  d_Town_group : ∃ fd, FunD K (PySem.Str.ofString "group") (PySem.Str.ofString "Town.group") (defArgs s_Town_group) (defBody s_Town_group) (defScope s_Town_group) [] [] (He.fAd K ((PySem.Str.ofString "Town"), some (PySem.Str.ofString "group"))) fd
  d_Town_made : ∃ fd, FunD K (PySem.Str.ofString "made") (PySem.Str.ofString "Town.made") (defArgs s_Town_made) (defBody s_Town_made) (defScope s_Town_made) [] [] (He.fAd K ((PySem.Str.ofString "Town"), some (PySem.Str.ofString "made"))) fd
  d_Town_parts : ∃ fd, FunD K (PySem.Str.ofString "parts") (PySem.Str.ofString "Town.parts") (defArgs s_Town_parts) (defBody s_Town_parts) (defScope s_Town_parts) [] [] (He.fAd K ((PySem.Str.ofString "Town"), some (PySem.Str.ofString "parts"))) fd
  d_Town_with_links : ∃ fd, FunD K (PySem.Str.ofString "with_links") (PySem.Str.ofString "Town.with_links") (defArgs s_Town_with_links) (defBody s_Town_with_links) (defScope s_Town_with_links) [] [] (He.fAd K ((PySem.Str.ofString "Town"), some (PySem.Str.ofString "with_links"))) fd
  d_law : ∃ fd, FunD K (PySem.Str.ofString "law") (PySem.Str.ofString "law") (defArgs s_law) (defBody s_law) (defScope s_law) [] [] (He.fAd K ((PySem.Str.ofString "law"), none)) fd
  g_law : mg (PySem.Str.ofString "law") = some (.ref (He.fAd K ((PySem.Str.ofString "law"), none)))
  d_BadLink___init__ : ∃ fd, FunD K (PySem.Str.ofString "__init__") (PySem.Str.ofString "BadLink.__init__") (defArgs s_BadLink___init__) (defBody s_BadLink___init__) (defScope s_BadLink___init__) [] [] (He.fAd K ((PySem.Str.ofString "BadLink"), some (PySem.Str.ofString "__init__"))) fd
  d_BadPart___init__ : ∃ fd, FunD K (PySem.Str.ofString "__init__") (PySem.Str.ofString "BadPart.__init__") (defArgs s_BadPart___init__) (defBody s_BadPart___init__) (defScope s_BadPart___init__) [] [] (He.fAd K ((PySem.Str.ofString "BadPart"), some (PySem.Str.ofString "__init__"))) fd
  d_BadTill___init__ : ∃ fd, FunD K (PySem.Str.ofString "__init__") (PySem.Str.ofString "BadTill.__init__") (defArgs s_BadTill___init__) (defBody s_BadTill___init__) (defScope s_BadTill___init__) [] [] (He.fAd K ((PySem.Str.ofString "BadTill"), some (PySem.Str.ofString "__init__"))) fd
  d_TooMany___init__ : ∃ fd, FunD K (PySem.Str.ofString "__init__") (PySem.Str.ofString "TooMany.__init__") (defArgs s_TooMany___init__) (defBody s_TooMany___init__) (defScope s_TooMany___init__) [] [] (He.fAd K ((PySem.Str.ofString "TooMany"), some (PySem.Str.ofString "__init__"))) fd
  mt_Town___len__ : Meth K (He.ga K (PySem.Str.ofString "Town")) (PySem.Str.ofString "__len__") (He.fAd K ((PySem.Str.ofString "Town"), some (PySem.Str.ofString "__len__")))
  mt_Town___eq__ : Meth K (He.ga K (PySem.Str.ofString "Town")) (PySem.Str.ofString "__eq__") (He.fAd K ((PySem.Str.ofString "Town"), some (PySem.Str.ofString "__eq__")))
  mt_Till___eq__ : Meth K (He.ga K (PySem.Str.ofString "Till")) (PySem.Str.ofString "__eq__") (He.fAd K ((PySem.Str.ofString "Till"), some (PySem.Str.ofString "__eq__")))
  mt_Town___getitem__ : Meth K (He.ga K (PySem.Str.ofString "Town")) (PySem.Str.ofString "__getitem__") (He.fAd K ((PySem.Str.ofString "Town"), some (PySem.Str.ofString "__getitem__")))
  mt_Town___contains__ : Meth K (He.ga K (PySem.Str.ofString "Town")) (PySem.Str.ofString "__contains__") (He.fAd K ((PySem.Str.ofString "Town"), some (PySem.Str.ofString "__contains__")))
  mk_Till : Mk K (He.ga K (PySem.Str.ofString "Till")) (He.fAd K ((PySem.Str.ofString "Till"), some (PySem.Str.ofString "__init__")))
  mt_Town_names : Meth K (He.ga K (PySem.Str.ofString "Town")) (PySem.Str.ofString "names") (He.fAd K ((PySem.Str.ofString "Town"), some (PySem.Str.ofString "names")))
  mk_Town : Mk K (He.ga K (PySem.Str.ofString "Town")) (He.fAd K ((PySem.Str.ofString "Town"), some (PySem.Str.ofString "__init__")))
  mt_Town_seat : Meth K (He.ga K (PySem.Str.ofString "Town")) (PySem.Str.ofString "seat") (He.fAd K ((PySem.Str.ofString "Town"), some (PySem.Str.ofString "seat")))
  mt_Town_group : Meth K (He.ga K (PySem.Str.ofString "Town")) (PySem.Str.ofString "group") (He.fAd K ((PySem.Str.ofString "Town"), some (PySem.Str.ofString "group")))
  mt_Town_made : Meth K (He.ga K (PySem.Str.ofString "Town")) (PySem.Str.ofString "made") (He.fAd K ((PySem.Str.ofString "Town"), some (PySem.Str.ofString "made")))
  mt_Town_parts : Meth K (He.ga K (PySem.Str.ofString "Town")) (PySem.Str.ofString "parts") (He.fAd K ((PySem.Str.ofString "Town"), some (PySem.Str.ofString "parts")))
  mt_Town_with_links : Meth K (He.ga K (PySem.Str.ofString "Town")) (PySem.Str.ofString "with_links") (He.fAd K ((PySem.Str.ofString "Town"), some (PySem.Str.ofString "with_links")))
  xc_BadLink : XC K (He.ga K (PySem.Str.ofString "BadLink")) [.type "ValueError", .type "Exception", .type "BaseException", .type "object"] "ValueError.__new__"
  xi0_BadLink : PySem.W.findIn K (.ref (He.ga K (PySem.Str.ofString "BadLink"))) "__init__" = some (some (.ref (He.fAd K ((PySem.Str.ofString "BadLink"), some (PySem.Str.ofString "__init__"))))) ∧ PySem.W.typeIn K (.ref (He.fAd K ((PySem.Str.ofString "BadLink"), some (PySem.Str.ofString "__init__")))) = some (.type "function")
  xb_BadLink : PySem.W.specialIn K (.ref (He.ga K (PySem.Str.ofString "TownError"))) "__getattribute__" = some (some (.builtin "type.__getattribute__")) ∧ PySem.W.readsIn K (He.ga K (PySem.Str.ofString "TownError")) (.type "type") = true ∧ PySem.W.findCls K (.ref (He.ga K (PySem.Str.ofString "TownError"))) (.type "type") "__init__" = some (.val (.builtin "ValueError.__init__")) ∧ mg (PySem.Str.ofString "TownError") = some (.ref (He.ga K (PySem.Str.ofString "TownError")))
  xc_BadPart : XC K (He.ga K (PySem.Str.ofString "BadPart")) [.type "ValueError", .type "Exception", .type "BaseException", .type "object"] "ValueError.__new__"
  xi0_BadPart : PySem.W.findIn K (.ref (He.ga K (PySem.Str.ofString "BadPart"))) "__init__" = some (some (.ref (He.fAd K ((PySem.Str.ofString "BadPart"), some (PySem.Str.ofString "__init__"))))) ∧ PySem.W.typeIn K (.ref (He.fAd K ((PySem.Str.ofString "BadPart"), some (PySem.Str.ofString "__init__")))) = some (.type "function")
  xb_BadPart : PySem.W.specialIn K (.ref (He.ga K (PySem.Str.ofString "TownError"))) "__getattribute__" = some (some (.builtin "type.__getattribute__")) ∧ PySem.W.readsIn K (He.ga K (PySem.Str.ofString "TownError")) (.type "type") = true ∧ PySem.W.findCls K (.ref (He.ga K (PySem.Str.ofString "TownError"))) (.type "type") "__init__" = some (.val (.builtin "ValueError.__init__")) ∧ mg (PySem.Str.ofString "TownError") = some (.ref (He.ga K (PySem.Str.ofString "TownError")))
  xc_BadTill : XC K (He.ga K (PySem.Str.ofString "BadTill")) [.type "ValueError", .type "Exception", .type "BaseException", .type "object"] "ValueError.__new__"
  xi0_BadTill : PySem.W.findIn K (.ref (He.ga K (PySem.Str.ofString "BadTill"))) "__init__" = some (some (.ref (He.fAd K ((PySem.Str.ofString "BadTill"), some (PySem.Str.ofString "__init__"))))) ∧ PySem.W.typeIn K (.ref (He.fAd K ((PySem.Str.ofString "BadTill"), some (PySem.Str.ofString "__init__")))) = some (.type "function")
  xb_BadTill : PySem.W.specialIn K (.ref (He.ga K (PySem.Str.ofString "TownError"))) "__getattribute__" = some (some (.builtin "type.__getattribute__")) ∧ PySem.W.readsIn K (He.ga K (PySem.Str.ofString "TownError")) (.type "type") = true ∧ PySem.W.findCls K (.ref (He.ga K (PySem.Str.ofString "TownError"))) (.type "type") "__init__" = some (.val (.builtin "ValueError.__init__")) ∧ mg (PySem.Str.ofString "TownError") = some (.ref (He.ga K (PySem.Str.ofString "TownError")))
  xc_TooMany : XC K (He.ga K (PySem.Str.ofString "TooMany")) [.type "OverflowError", .type "ArithmeticError", .type "Exception", .type "BaseException", .type "object"] "OverflowError.__new__"
  xi0_TooMany : PySem.W.findIn K (.ref (He.ga K (PySem.Str.ofString "TooMany"))) "__init__" = some (some (.ref (He.fAd K ((PySem.Str.ofString "TooMany"), some (PySem.Str.ofString "__init__"))))) ∧ PySem.W.typeIn K (.ref (He.fAd K ((PySem.Str.ofString "TooMany"), some (PySem.Str.ofString "__init__")))) = some (.type "function")
  xb_TooMany : PySem.W.findCls K (.type "OverflowError") (.type "type") "__init__" = some (.val (.builtin "OverflowError.__init__")) ∧ mg (PySem.Str.ofString "OverflowError") = none
  xn_BadLink : PySem.W.findIn K (.ref (He.ga K (PySem.Str.ofString "BadLink"))) (PySem.Str.ofString "index") = some none
  xn_BadPart : PySem.W.findIn K (.ref (He.ga K (PySem.Str.ofString "BadPart"))) (PySem.Str.ofString "part") = some none
  xn_BadTill : PySem.W.findIn K (.ref (He.ga K (PySem.Str.ofString "BadTill"))) (PySem.Str.ofString "index") = some none
  xn_TooMany : PySem.W.findIn K (.ref (He.ga K (PySem.Str.ofString "TooMany"))) (PySem.Str.ofString "limit") = some none
  sp_LN_Town_Town : spB K (He.ga K (PySem.Str.ofString "Town")) (PySem.Str.ofString "__len__") (He.fAd K ((PySem.Str.ofString "Town"), some (PySem.Str.ofString "__len__"))) = true
  sp_EQ_Town_Town : spB K (He.ga K (PySem.Str.ofString "Town")) (PySem.Str.ofString "__eq__") (He.fAd K ((PySem.Str.ofString "Town"), some (PySem.Str.ofString "__eq__"))) = true
  nf_EQ_Town_Town : nfB K (cl K) 2 (He.ga K (PySem.Str.ofString "Town")) = true
  ne_EQ_Town_Town : neB K (He.ga K (PySem.Str.ofString "Town")) = true
  sp_EQ_Till_Town_Till : spB K (He.ga K (PySem.Str.ofString "Till")) (PySem.Str.ofString "__eq__") (He.fAd K ((PySem.Str.ofString "Till"), some (PySem.Str.ofString "__eq__"))) = true
  nf_EQ_Till_Town_Till : nfB K (cl K) 2 (He.ga K (PySem.Str.ofString "Till")) = true
  ne_EQ_Till_Town_Till : neB K (He.ga K (PySem.Str.ofString "Till")) = true
  sp_EQ_Till_Town_Town : spB K (He.ga K (PySem.Str.ofString "Town")) (PySem.Str.ofString "__eq__") (He.fAd K ((PySem.Str.ofString "Town"), some (PySem.Str.ofString "__eq__"))) = true
  nf_EQ_Till_Town_Town : nfB K (cl K) 2 (He.ga K (PySem.Str.ofString "Town")) = true
  ne_EQ_Till_Town_Town : neB K (He.ga K (PySem.Str.ofString "Town")) = true
  sp_GI_Town_Town : spB K (He.ga K (PySem.Str.ofString "Town")) (PySem.Str.ofString "__getitem__") (He.fAd K ((PySem.Str.ofString "Town"), some (PySem.Str.ofString "__getitem__"))) = true
  sp_IN_Town_Town : spB K (He.ga K (PySem.Str.ofString "Town")) (PySem.Str.ofString "__contains__") (He.fAd K ((PySem.Str.ofString "Town"), some (PySem.Str.ofString "__contains__"))) = true
variable {P : Program} {w : World} {K : PySem.W.Frag} {mg : PySem.Str → Option Value} {base : Heap}
theorem sc_BadLink___init__ : FnScope N_BadLink___init__ P_BadLink___init__ (defScope s_BadLink___init__) := ⟨rfl, rfl, rfl, by decide +kernel, rfl, by decide +kernel, by decide +kernel⟩
theorem xc_BadLink (Z : Fx K mg) : XcFact P w K mg base (G K) (PySem.Str.ofString "BadLink") C_BadLink 1 (PySem.Str.ofString "index") := by
  obtain ⟨fd, F⟩ := Z.d_BadLink___init__
  exact ⟨_, _, _, _, _, fd, P_BadLink___init__, eb_ve, Z.xc_BadLink, Z.xn_BadLink, Z.gc_BadLink, Z.xi0_BadLink.1, Z.xi0_BadLink.2, F.bindsN fun _ _ _ _ _ _ us hl => match us, hl with | [_, _], _ => rfl, okx_of eb_ve F sc_BadLink___init__ (fun cdv A outer s H E => base_own Z.xb_BadLink.2.2.2 Z.xb_BadLink.1 Z.xb_BadLink.2.1 Z.xb_BadLink.2.2.1) (by first | exact Or.inl rfl | exact Or.inr (Or.inl rfl)) (by first | exact Or.inl rfl | exact Or.inr (Or.inl rfl)) (by decide) (by decide) (by decide) (by decide)⟩
theorem sc_BadPart___init__ : FnScope N_BadPart___init__ P_BadPart___init__ (defScope s_BadPart___init__) := ⟨rfl, rfl, rfl, by decide +kernel, rfl, by decide +kernel, by decide +kernel⟩
theorem xc_BadPart (Z : Fx K mg) : XcFact P w K mg base (G K) (PySem.Str.ofString "BadPart") C_BadPart 1 (PySem.Str.ofString "part") := by
  obtain ⟨fd, F⟩ := Z.d_BadPart___init__
  exact ⟨_, _, _, _, _, fd, P_BadPart___init__, eb_ve, Z.xc_BadPart, Z.xn_BadPart, Z.gc_BadPart, Z.xi0_BadPart.1, Z.xi0_BadPart.2, F.bindsN fun _ _ _ _ _ _ us hl => match us, hl with | [_, _], _ => rfl, okx_of eb_ve F sc_BadPart___init__ (fun cdv A outer s H E => base_own Z.xb_BadPart.2.2.2 Z.xb_BadPart.1 Z.xb_BadPart.2.1 Z.xb_BadPart.2.2.1) (by first | exact Or.inl rfl | exact Or.inr (Or.inl rfl)) (by first | exact Or.inl rfl | exact Or.inr (Or.inl rfl)) (by decide) (by decide) (by decide) (by decide)⟩
theorem sc_BadTill___init__ : FnScope N_BadTill___init__ P_BadTill___init__ (defScope s_BadTill___init__) := ⟨rfl, rfl, rfl, by decide +kernel, rfl, by decide +kernel, by decide +kernel⟩
theorem xc_BadTill (Z : Fx K mg) : XcFact P w K mg base (G K) (PySem.Str.ofString "BadTill") C_BadTill 1 (PySem.Str.ofString "index") := by
  obtain ⟨fd, F⟩ := Z.d_BadTill___init__
  exact ⟨_, _, _, _, _, fd, P_BadTill___init__, eb_ve, Z.xc_BadTill, Z.xn_BadTill, Z.gc_BadTill, Z.xi0_BadTill.1, Z.xi0_BadTill.2, F.bindsN fun _ _ _ _ _ _ us hl => match us, hl with | [_, _], _ => rfl, okx_of eb_ve F sc_BadTill___init__ (fun cdv A outer s H E => base_own Z.xb_BadTill.2.2.2 Z.xb_BadTill.1 Z.xb_BadTill.2.1 Z.xb_BadTill.2.2.1) (by first | exact Or.inl rfl | exact Or.inr (Or.inl rfl)) (by first | exact Or.inl rfl | exact Or.inr (Or.inl rfl)) (by decide) (by decide) (by decide) (by decide)⟩
theorem sc_TooMany___init__ : FnScope N_TooMany___init__ P_TooMany___init__ (defScope s_TooMany___init__) := ⟨rfl, rfl, rfl, by decide +kernel, rfl, by decide +kernel, by decide +kernel⟩
theorem xc_TooMany (Z : Fx K mg) : XcFact P w K mg base (G K) (PySem.Str.ofString "TooMany") C_TooMany 1 (PySem.Str.ofString "limit") := by
  obtain ⟨fd, F⟩ := Z.d_TooMany___init__
  exact ⟨_, _, _, _, _, fd, P_TooMany___init__, eb_oe, Z.xc_TooMany, Z.xn_TooMany, Z.gc_TooMany, Z.xi0_TooMany.1, Z.xi0_TooMany.2, F.bindsN fun _ _ _ _ _ _ us hl => match us, hl with | [_, _], _ => rfl, okx_of eb_oe F sc_TooMany___init__ (fun cdv A outer s H E => base_blt Z.xb_TooMany.2 (by decide +kernel) (by first | rfl | kernel_rfl) (by decide +kernel) Z.xb_TooMany.1) (by first | exact Or.inl rfl | exact Or.inr (Or.inl rfl)) (by first | exact Or.inl rfl | exact Or.inr (Or.inl rfl)) (by decide) (by decide) (by decide) (by decide)⟩
theorem sc_Town___len__ : FnScope N_Town___len__ P_Town___len__ (defScope s_Town___len__) := ⟨rfl, rfl, rfl, by decide +kernel, rfl, by decide +kernel, by decide +kernel⟩
theorem okf_Town___len__ (Z : Fx K mg) {fd : FuncData} (F : FunD K (PySem.Str.ofString "__len__") (PySem.Str.ofString "Town.__len__") (defArgs s_Town___len__) (defBody s_Town___len__) (defScope s_Town___len__) [] [] (He.fAd K ((PySem.Str.ofString "Town"), some (PySem.Str.ofString "__len__"))) fd) : FnOkG P w K mg base 1 (He.fAd K ((PySem.Str.ofString "Town"), some (PySem.Str.ofString "__len__"))) fd P_Town___len__ (spF (G K) 1 f_Town___len__) := by
  refine okf_of F sc_Town___len__ rfl rfl fun cdv A outer s H vs E U hr => ?_
  have nd := (sc_Town___len__).nd
  have u1 := hu1 hr; have u64 := hu64 hr; have u65 := hu65 hr; have u190 := hu190 hr; have gd := hr.gd
  have tk : Takes (cxOf (L2.CX P w) P w K mg base N_Town___len__ (PySem.Str.ofString "Town.__len__") (defScope s_Town___len__) (He.fAd K ((PySem.Str.ofString "Town"), some (PySem.Str.ofString "__len__"))) cdv A outer s H E) (fun cls d _ H' => E cls d H') := takes_of rfl rfl rfl rfl
  have hp : PassesOwn (model P w) (A.deeper (envOfC (PySem.Str.ofString "Town.__len__") (defScope s_Town___len__) s.heap.objs.size (He.fAd K ((PySem.Str.ofString "Town"), some (PySem.Str.ofString "__len__"))) cdv)) (envOfC (PySem.Str.ofString "Town.__len__") (defScope s_Town___len__) s.heap.objs.size (He.fAd K ((PySem.Str.ofString "Town"), some (PySem.Str.ofString "__len__"))) cdv) (cxOf (L2.CX P w) P w K mg base N_Town___len__ (PySem.Str.ofString "Town.__len__") (defScope s_Town___len__) (He.fAd K ((PySem.Str.ofString "Town"), some (PySem.Str.ofString "__len__"))) cdv A outer s H E).xe := passes_of (X := (cxOf (L2.CX P w) P w K mg base N_Town___len__ (PySem.Str.ofString "Town.__len__") (defScope s_Town___len__) (He.fAd K ((PySem.Str.ofString "Town"), some (PySem.Str.ofString "__len__"))) cdv A outer s H E)) rfl
  exact (js_one (js_ret (je_callB call_lenAll lenD_ok Z.b_len boot_len (ja_cons (je_fld Z.tab rfl (je_var 0)) ja_nil))))
theorem fact_Town___len__ (Z : Fx K mg) : MtFact P w K mg base (G K) C_Town (PySem.Str.ofString "__len__") 1 1 P_Town___len__ f_Town___len__ := by
  obtain ⟨fd, F⟩ := Z.d_Town___len__
  exact ⟨_, fd, Z.mt_Town___len__, F.bindsN fun _ _ _ _ _ _ us hl => match us, hl with | [_], _ => rfl, okf_Town___len__ Z F⟩
theorem tab_LN_Town (Z : Fx K mg) : SpTab P w K mg base (G K) (PySem.Str.ofString "__len__") 1 1 LN_Town := by
  obtain ⟨fd_Town, F_Town⟩ := Z.d_Town___len__
  exact (sptab_cons (sp_of (c := C_Town) Z.sp_LN_Town_Town (F_Town.bindsN fun _ _ _ _ _ _ us hl => match us, hl with | [_], _ => rfl) ((okf_Town___len__ Z F_Town).mono (by decide))) sptab_nil)
theorem sc_Town___eq__ : FnScope N_Town___eq__ P_Town___eq__ (defScope s_Town___eq__) := ⟨rfl, rfl, rfl, by decide +kernel, rfl, by decide +kernel, by decide +kernel⟩
theorem okf_Town___eq__ (Z : Fx K mg) {fd : FuncData} (F : FunD K (PySem.Str.ofString "__eq__") (PySem.Str.ofString "Town.__eq__") (defArgs s_Town___eq__) (defBody s_Town___eq__) (defScope s_Town___eq__) [] [] (He.fAd K ((PySem.Str.ofString "Town"), some (PySem.Str.ofString "__eq__"))) fd) : FnOkG P w K mg base 1 (He.fAd K ((PySem.Str.ofString "Town"), some (PySem.Str.ofString "__eq__"))) fd P_Town___eq__ (spF (G K) 2 f_Town___eq__) := by
  refine okf_of F sc_Town___eq__ rfl rfl fun cdv A outer s H vs E U hr => ?_
  have nd := (sc_Town___eq__).nd
  have u1 := hu1 hr; have u64 := hu64 hr; have u65 := hu65 hr; have u190 := hu190 hr; have gd := hr.gd
  have tk : Takes (cxOf (L2.CX P w) P w K mg base N_Town___eq__ (PySem.Str.ofString "Town.__eq__") (defScope s_Town___eq__) (He.fAd K ((PySem.Str.ofString "Town"), some (PySem.Str.ofString "__eq__"))) cdv A outer s H E) (fun cls d _ H' => E cls d H') := takes_of rfl rfl rfl rfl
  have hp : PassesOwn (model P w) (A.deeper (envOfC (PySem.Str.ofString "Town.__eq__") (defScope s_Town___eq__) s.heap.objs.size (He.fAd K ((PySem.Str.ofString "Town"), some (PySem.Str.ofString "__eq__"))) cdv)) (envOfC (PySem.Str.ofString "Town.__eq__") (defScope s_Town___eq__) s.heap.objs.size (He.fAd K ((PySem.Str.ofString "Town"), some (PySem.Str.ofString "__eq__"))) cdv) (cxOf (L2.CX P w) P w K mg base N_Town___eq__ (PySem.Str.ofString "Town.__eq__") (defScope s_Town___eq__) (He.fAd K ((PySem.Str.ofString "Town"), some (PySem.Str.ofString "__eq__"))) cdv A outer s H E).xe := passes_of (X := (cxOf (L2.CX P w) P w K mg base N_Town___eq__ (PySem.Str.ofString "Town.__eq__") (defScope s_Town___eq__) (He.fAd K ((PySem.Str.ofString "Town"), some (PySem.Str.ofString "__eq__"))) cdv A outer s H E)) rfl
  exact (js_cons (js_if ((jw_or (jt_not (jt_tru rfl (je_callB call_isiAll (by exact isiD_ok Z.tab) Z.b_isinstance (by decide +kernel) (ja_cons (je_var 1) (ja_cons (je_gval Z.gc_Town fun _ => .cls C_Town) ja_nil))))) (jw_or (jt_cmp (op_neAll u64) neD_ok (je_fld Z.tab rfl (je_var 0)) (je_fld Z.tab rfl (je_var 1)) (nomark _)) (pw_or1 (jt_cmp (op_neAll u64) neD_ok (je_fld Z.tab rfl (je_var 0)) (je_fld Z.tab rfl (je_var 1)) (nomark _)))))).pt (js_one (js_ret je_bl)) js_nil) (js_cons (js_set (i := 2) nd (by first | exact Or.inl rfl | exact Or.inr rfl) (je_tup (ja_cons (je_fld Z.tab rfl (je_var 0)) (ja_cons (je_fld Z.tab rfl (je_var 0)) (ja_cons (je_fld Z.tab rfl (je_var 0)) (ja_cons (je_fld Z.tab rfl (je_var 0)) ja_nil)))))) (js_one (js_ret (je_cmp (op_eqAll u64) eqD_ok (je_var 2) (je_tup (ja_cons (je_fld Z.tab rfl (je_var 1)) (ja_cons (je_fld Z.tab rfl (je_var 1)) (ja_cons (je_fld Z.tab rfl (je_var 1)) (ja_cons (je_fld Z.tab rfl (je_var 1)) ja_nil))))) (nomark _))))))
theorem fact_Town___eq__ (Z : Fx K mg) : MtFact P w K mg base (G K) C_Town (PySem.Str.ofString "__eq__") 2 1 P_Town___eq__ f_Town___eq__ := by
  obtain ⟨fd, F⟩ := Z.d_Town___eq__
  exact ⟨_, fd, Z.mt_Town___eq__, F.bindsN fun _ _ _ _ _ _ us hl => match us, hl with | [_, _], _ => rfl, okf_Town___eq__ Z F⟩
theorem tab_EQ_Town (Z : Fx K mg) : EqTab P w K mg base (G K) T 1 EQ_Town := by
  obtain ⟨fd_Town, F_Town⟩ := Z.d_Town___eq__
  exact (eqtab_cons (by decide) (eq_of (c := C_Town) Z.sp_EQ_Town_Town Z.ne_EQ_Town_Town Z.nf_EQ_Town_Town (F_Town.bindsN fun _ _ _ _ _ _ us hl => match us, hl with | [_, _], _ => rfl) ((okf_Town___eq__ Z F_Town).mono (by decide))) (nfB_ok Z.nf_EQ_Town_Town).2 eqtab_nil)
theorem sc_Till___eq__ : FnScope N_Till___eq__ P_Till___eq__ (defScope s_Till___eq__) := ⟨rfl, rfl, rfl, by decide +kernel, rfl, by decide +kernel, by decide +kernel⟩
theorem okf_Till___eq__ (Z : Fx K mg) {fd : FuncData} (F : FunD K (PySem.Str.ofString "__eq__") (PySem.Str.ofString "Till.__eq__") (defArgs s_Till___eq__) (defBody s_Till___eq__) (defScope s_Till___eq__) [] [] (He.fAd K ((PySem.Str.ofString "Till"), some (PySem.Str.ofString "__eq__"))) fd) : FnOkG P w K mg base 4 (He.fAd K ((PySem.Str.ofString "Till"), some (PySem.Str.ofString "__eq__"))) fd P_Till___eq__ (spF (G K) 2 f_Till___eq__) := by
  refine okf_of F sc_Till___eq__ rfl rfl fun cdv A outer s H vs E U hr => ?_
  have nd := (sc_Till___eq__).nd
  have u1 := hu1 hr; have u64 := hu64 hr; have u65 := hu65 hr; have u190 := hu190 hr; have gd := hr.gd
  have tk : Takes (cxOf (L2.CX P w) P w K mg base N_Till___eq__ (PySem.Str.ofString "Till.__eq__") (defScope s_Till___eq__) (He.fAd K ((PySem.Str.ofString "Till"), some (PySem.Str.ofString "__eq__"))) cdv A outer s H E) (fun cls d _ H' => E cls d H') := takes_of rfl rfl rfl rfl
  have hp : PassesOwn (model P w) (A.deeper (envOfC (PySem.Str.ofString "Till.__eq__") (defScope s_Till___eq__) s.heap.objs.size (He.fAd K ((PySem.Str.ofString "Till"), some (PySem.Str.ofString "__eq__"))) cdv)) (envOfC (PySem.Str.ofString "Till.__eq__") (defScope s_Till___eq__) s.heap.objs.size (He.fAd K ((PySem.Str.ofString "Till"), some (PySem.Str.ofString "__eq__"))) cdv) (cxOf (L2.CX P w) P w K mg base N_Till___eq__ (PySem.Str.ofString "Till.__eq__") (defScope s_Till___eq__) (He.fAd K ((PySem.Str.ofString "Till"), some (PySem.Str.ofString "__eq__"))) cdv A outer s H E).xe := passes_of (X := (cxOf (L2.CX P w) P w K mg base N_Till___eq__ (PySem.Str.ofString "Till.__eq__") (defScope s_Till___eq__) (He.fAd K ((PySem.Str.ofString "Till"), some (PySem.Str.ofString "__eq__"))) cdv A outer s H E)) rfl
  exact (js_cons (js_if (jt_not (jt_tru rfl (je_callB call_isiAll (by exact isiD_ok Z.tab) Z.b_isinstance (by decide +kernel) (ja_cons (je_var 1) (ja_cons (je_gval Z.gc_Till fun _ => .cls C_Till) ja_nil))))) (js_one (js_ret je_bl)) js_nil) (js_one (js_ret (je_cmp ((op_eqAll u64).or (op_eqO (rc_eqO Z.tab rfl (tab_EQ_Town Z)) (hr.mono (by decide)))) (eqD_ok.or eqOD_ok) (je_tup (ja_cons (je_fld Z.tab rfl (je_var 0)) (ja_cons (je_fld Z.tab rfl (je_var 0)) (ja_cons (je_fld Z.tab rfl (je_var 0)) ja_nil)))) (je_tup (ja_cons (je_fld Z.tab rfl (je_var 1)) (ja_cons (je_fld Z.tab rfl (je_var 1)) (ja_cons (je_fld Z.tab rfl (je_var 1)) ja_nil)))) (nomark _)))))
theorem fact_Till___eq__ (Z : Fx K mg) : MtFact P w K mg base (G K) C_Till (PySem.Str.ofString "__eq__") 2 4 P_Till___eq__ f_Till___eq__ := by
  obtain ⟨fd, F⟩ := Z.d_Till___eq__
  exact ⟨_, fd, Z.mt_Till___eq__, F.bindsN fun _ _ _ _ _ _ us hl => match us, hl with | [_, _], _ => rfl, okf_Till___eq__ Z F⟩
theorem tab_EQ_Till_Town (Z : Fx K mg) : EqTab P w K mg base (G K) T 4 EQ_Till_Town := by
  obtain ⟨fd_Till, F_Till⟩ := Z.d_Till___eq__
  obtain ⟨fd_Town, F_Town⟩ := Z.d_Town___eq__
  exact (eqtab_cons (by decide) (eq_of (c := C_Till) Z.sp_EQ_Till_Town_Till Z.ne_EQ_Till_Town_Till Z.nf_EQ_Till_Town_Till (F_Till.bindsN fun _ _ _ _ _ _ us hl => match us, hl with | [_, _], _ => rfl) ((okf_Till___eq__ Z F_Till).mono (by decide))) (nfB_ok Z.nf_EQ_Till_Town_Till).2 (eqtab_cons (by decide) (eq_of (c := C_Town) Z.sp_EQ_Till_Town_Town Z.ne_EQ_Till_Town_Town Z.nf_EQ_Till_Town_Town (F_Town.bindsN fun _ _ _ _ _ _ us hl => match us, hl with | [_, _], _ => rfl) ((okf_Town___eq__ Z F_Town).mono (by decide))) (nfB_ok Z.nf_EQ_Till_Town_Town).2 eqtab_nil))
theorem sc_Town___getitem__ : FnScope N_Town___getitem__ P_Town___getitem__ (defScope s_Town___getitem__) := ⟨rfl, rfl, rfl, by decide +kernel, rfl, by decide +kernel, by decide +kernel⟩
theorem okf_Town___getitem__ (Z : Fx K mg) {fd : FuncData} (F : FunD K (PySem.Str.ofString "__getitem__") (PySem.Str.ofString "Town.__getitem__") (defArgs s_Town___getitem__) (defBody s_Town___getitem__) (defScope s_Town___getitem__) [] [] (He.fAd K ((PySem.Str.ofString "Town"), some (PySem.Str.ofString "__getitem__"))) fd) : FnOkG P w K mg base 7 (He.fAd K ((PySem.Str.ofString "Town"), some (PySem.Str.ofString "__getitem__"))) fd P_Town___getitem__ (spF (G K) 2 f_Town___getitem__) := by
  refine okf_of F sc_Town___getitem__ rfl rfl fun cdv A outer s H vs E U hr => ?_
  have nd := (sc_Town___getitem__).nd
  have u1 := hu1 hr; have u64 := hu64 hr; have u65 := hu65 hr; have u190 := hu190 hr; have gd := hr.gd
  have tk : Takes (cxOf (L2.CX P w) P w K mg base N_Town___getitem__ (PySem.Str.ofString "Town.__getitem__") (defScope s_Town___getitem__) (He.fAd K ((PySem.Str.ofString "Town"), some (PySem.Str.ofString "__getitem__"))) cdv A outer s H E) (fun cls d _ H' => E cls d H') := takes_of rfl rfl rfl rfl
  have hp : PassesOwn (model P w) (A.deeper (envOfC (PySem.Str.ofString "Town.__getitem__") (defScope s_Town___getitem__) s.heap.objs.size (He.fAd K ((PySem.Str.ofString "Town"), some (PySem.Str.ofString "__getitem__"))) cdv)) (envOfC (PySem.Str.ofString "Town.__getitem__") (defScope s_Town___getitem__) s.heap.objs.size (He.fAd K ((PySem.Str.ofString "Town"), some (PySem.Str.ofString "__getitem__"))) cdv) (cxOf (L2.CX P w) P w K mg base N_Town___getitem__ (PySem.Str.ofString "Town.__getitem__") (defScope s_Town___getitem__) (He.fAd K ((PySem.Str.ofString "Town"), some (PySem.Str.ofString "__getitem__"))) cdv A outer s H E).xe := passes_of (X := (cxOf (L2.CX P w) P w K mg base N_Town___getitem__ (PySem.Str.ofString "Town.__getitem__") (defScope s_Town___getitem__) (He.fAd K ((PySem.Str.ofString "Town"), some (PySem.Str.ofString "__getitem__"))) cdv A outer s H E)) rfl
  exact (js_cons (js_for hp rfl (ji_seq rfl (je_fld Z.tab rfl (je_var 0))) (pg_name (i := 2) nd rfl (by first | exact Or.inl rfl | exact Or.inr rfl)) tg_name (js_one (js_if ((jw_and (jt_tru rfl (je_callB call_isiAll (by exact isiD_ok Z.tab) Z.b_isinstance (by decide +kernel) (ja_cons (je_var 1) (ja_cons (je_ty Z.b_str (by decide +kernel)) ja_nil)))) (pw_and1 (jt_cmp ((op_eqAll u64).or (op_eqO (rc_eqO Z.tab rfl (tab_EQ_Till_Town Z)) (hr.mono (by decide)))) (eqD_ok.or eqOD_ok) (je_fld Z.tab rfl (je_var 2)) (je_var 1) (nomark _))))).pt (js_one (js_ret (je_var 2))) js_nil))) (js_one js_stuck))
theorem fact_Town___getitem__ (Z : Fx K mg) : MtFact P w K mg base (G K) C_Town (PySem.Str.ofString "__getitem__") 2 7 P_Town___getitem__ f_Town___getitem__ := by
  obtain ⟨fd, F⟩ := Z.d_Town___getitem__
  exact ⟨_, fd, Z.mt_Town___getitem__, F.bindsN fun _ _ _ _ _ _ us hl => match us, hl with | [_, _], _ => rfl, okf_Town___getitem__ Z F⟩
theorem tab_GI_Town (Z : Fx K mg) : SpTab P w K mg base (G K) (PySem.Str.ofString "__getitem__") 2 7 GI_Town := by
  obtain ⟨fd_Town, F_Town⟩ := Z.d_Town___getitem__
  exact (sptab_cons (sp_of (c := C_Town) Z.sp_GI_Town_Town (F_Town.bindsN fun _ _ _ _ _ _ us hl => match us, hl with | [_, _], _ => rfl) ((okf_Town___getitem__ Z F_Town).mono (by decide))) sptab_nil)
theorem sc__law_pool : FnScope N__law_pool P__law_pool (defScope s__law_pool) := ⟨rfl, rfl, rfl, by decide +kernel, rfl, by decide +kernel, by decide +kernel⟩
theorem okf__law_pool (Z : Fx K mg) {fd : FuncData} (F : FunD K (PySem.Str.ofString "_law_pool") (PySem.Str.ofString "_law_pool") (defArgs s__law_pool) (defBody s__law_pool) (defScope s__law_pool) [] [] (He.fAd K ((PySem.Str.ofString "_law_pool"), none)) fd) : FnOkG P w K mg base 9 (He.fAd K ((PySem.Str.ofString "_law_pool"), none)) fd P__law_pool (spF (G K) 2 f__law_pool) := by
  refine okf_of F sc__law_pool rfl rfl fun cdv A outer s H vs E U hr => ?_
  have nd := (sc__law_pool).nd
  have u1 := hu1 hr; have u64 := hu64 hr; have u65 := hu65 hr; have u190 := hu190 hr; have gd := hr.gd
  have tk : Takes (cxOf (L2.CX P w) P w K mg base N__law_pool (PySem.Str.ofString "_law_pool") (defScope s__law_pool) (He.fAd K ((PySem.Str.ofString "_law_pool"), none)) cdv A outer s H E) (fun cls d _ H' => E cls d H') := takes_of rfl rfl rfl rfl
  have hp : PassesOwn (model P w) (A.deeper (envOfC (PySem.Str.ofString "_law_pool") (defScope s__law_pool) s.heap.objs.size (He.fAd K ((PySem.Str.ofString "_law_pool"), none)) cdv)) (envOfC (PySem.Str.ofString "_law_pool") (defScope s__law_pool) s.heap.objs.size (He.fAd K ((PySem.Str.ofString "_law_pool"), none)) cdv) (cxOf (L2.CX P w) P w K mg base N__law_pool (PySem.Str.ofString "_law_pool") (defScope s__law_pool) (He.fAd K ((PySem.Str.ofString "_law_pool"), none)) cdv A outer s H E).xe := passes_of (X := (cxOf (L2.CX P w) P w K mg base N__law_pool (PySem.Str.ofString "_law_pool") (defScope s__law_pool) (He.fAd K ((PySem.Str.ofString "_law_pool"), none)) cdv A outer s H E)) rfl
  exact (js_cons (js_set (i := 2) nd (by first | exact Or.inl rfl | exact Or.inr rfl) (je_if (jt_cmp op_ltD ltD_ok (je_var 1) (je_callB (call_lenAll.or (call_lenO (tab_LN_Town Z) (hr.mono (by decide)))) (lenD_ok.or lenOD_ok) Z.b_len boot_len (ja_cons (je_var 0) ja_nil)) (nomark _)) (je_callB (call_max2 rfl) fI2_ok Z.b_max (by decide +kernel) (ja_cons (je_callTy call_int1 intD_ok Z.b_int (by decide +kernel) (ja_cons (je_ixO tk (tab_GI_Town Z) (hr.mono (by decide)) rfl u1 (je_var 0) (je_var 1)) ja_nil)) (ja_cons (je_callTy call_int1 intD_ok Z.b_int (by decide +kernel) (ja_cons (je_bin op_sub subD_ok (je_un un_neg negD_ok je_int) (je_ixO tk (tab_GI_Town Z) (hr.mono (by decide)) rfl u1 (je_var 0) (je_var 1))) ja_nil)) ja_nil))) je_int)) (js_cons (js_set (i := 3) nd (by first | exact Or.inl rfl | exact Or.inr rfl) (je_bin op_addD addD_ok (je_bin op_mod modD_ok (je_callTy call_int1 intD_ok Z.b_int (by decide +kernel) (ja_cons (je_bin op_mulD mulD_ok (je_bin op_addD addD_ok (je_bin op_mod modD_ok (je_callTy call_int1 intD_ok Z.b_int (by decide +kernel) (ja_cons (je_var 2) ja_nil)) je_int) (je_bin op_mulD mulD_ok je_int (je_bin op_addD addD_ok (je_var 1) je_int))) je_int) ja_nil)) je_int) je_int)) (js_one (js_ret (je_lst (ja_cons (je_bin op_mulD mulD_ok (je_var 2) (je_callTy call_int1 intD_ok Z.b_int (by decide +kernel) (ja_cons (je_cmp op_ge geD_ok (je_var 2) (je_bin op_pow powD_ok je_int je_int) (nomark _)) ja_nil))) (ja_cons (je_bin op_mod modD_ok (je_callTy call_int1 intD_ok Z.b_int (by decide +kernel) (ja_cons (je_bin op_mulD mulD_ok (je_var 3) (je_var 3)) ja_nil)) je_int) ja_nil)))))))
theorem fact__law_pool (Z : Fx K mg) : FnFact P w K mg base (G K) (PySem.Str.ofString "_law_pool") 2 9 P__law_pool f__law_pool := by
  obtain ⟨fd, F⟩ := Z.d__law_pool
  exact fact_of F Z.g__law_pool (fun _ _ _ _ _ _ us hl => match us, hl with | [_, _], _ => rfl) (okf__law_pool Z F)
theorem sc__law_draw : FnScope N__law_draw P__law_draw (defScope s__law_draw) := ⟨rfl, rfl, rfl, by decide +kernel, rfl, by decide +kernel, by decide +kernel⟩
theorem okf__law_draw (Z : Fx K mg) {fd : FuncData} (F : FunD K (PySem.Str.ofString "_law_draw") (PySem.Str.ofString "_law_draw") (defArgs s__law_draw) (defBody s__law_draw) (defScope s__law_draw) [] [] (He.fAd K ((PySem.Str.ofString "_law_draw"), none)) fd) : FnOkG P w K mg base 1 (He.fAd K ((PySem.Str.ofString "_law_draw"), none)) fd P__law_draw (spF (G K) 2 f__law_draw) := by
  refine okf_of F sc__law_draw rfl rfl fun cdv A outer s H vs E U hr => ?_
  have nd := (sc__law_draw).nd
  have u1 := hu1 hr; have u64 := hu64 hr; have u65 := hu65 hr; have u190 := hu190 hr; have gd := hr.gd
  have tk : Takes (cxOf (L2.CX P w) P w K mg base N__law_draw (PySem.Str.ofString "_law_draw") (defScope s__law_draw) (He.fAd K ((PySem.Str.ofString "_law_draw"), none)) cdv A outer s H E) (fun cls d _ H' => E cls d H') := takes_of rfl rfl rfl rfl
  have hp : PassesOwn (model P w) (A.deeper (envOfC (PySem.Str.ofString "_law_draw") (defScope s__law_draw) s.heap.objs.size (He.fAd K ((PySem.Str.ofString "_law_draw"), none)) cdv)) (envOfC (PySem.Str.ofString "_law_draw") (defScope s__law_draw) s.heap.objs.size (He.fAd K ((PySem.Str.ofString "_law_draw"), none)) cdv) (cxOf (L2.CX P w) P w K mg base N__law_draw (PySem.Str.ofString "_law_draw") (defScope s__law_draw) (He.fAd K ((PySem.Str.ofString "_law_draw"), none)) cdv A outer s H E).xe := passes_of (X := (cxOf (L2.CX P w) P w K mg base N__law_draw (PySem.Str.ofString "_law_draw") (defScope s__law_draw) (He.fAd K ((PySem.Str.ofString "_law_draw"), none)) cdv A outer s H E)) rfl
  exact (js_cons (js_if (jt_cmp op_gt gtD_ok (je_ix rfl u1 (je_var 0) je_int) je_int (nomark _)) (js_cons (js_set (i := 2) nd (by first | exact Or.inl rfl | exact Or.inr rfl) (je_bin op_mod modD_ok (je_callTy call_int1 intD_ok Z.b_int (by decide +kernel) (ja_cons (je_ix rfl u1 (je_var 0) je_int) ja_nil)) (je_var 1))) (js_cons (js_store u1 (je_bin op_fdiv fdivD_ok (je_ix rfl u1 (je_var 0) je_int) (je_var 1)) (je_var 0) je_int (hsub := pg_sub (je_f (je_var 0)) (je_f je_int) (set_D u1))) (js_one (js_ret (je_var 2))))) js_nil) (js_cons (js_store u1 (je_bin op_mod modD_ok (je_callTy call_int1 intD_ok Z.b_int (by decide +kernel) (ja_cons (je_bin op_addD addD_ok (je_bin op_mulD mulD_ok (je_ix rfl u1 (je_var 0) je_int) je_int) je_int) ja_nil)) je_int) (je_var 0) je_int (hsub := pg_sub (je_f (je_var 0)) (je_f je_int) (set_D u1))) (js_one (js_ret (je_bin op_mod modD_ok (je_callTy call_int1 intD_ok Z.b_int (by decide +kernel) (ja_cons (je_bin op_fdiv fdivD_ok (je_bin op_mod modD_ok (je_callTy call_int1 intD_ok Z.b_int (by decide +kernel) (ja_cons (je_bin op_mulD mulD_ok (je_ix rfl u1 (je_var 0) je_int) (je_ix rfl u1 (je_var 0) je_int)) ja_nil)) je_int) je_int) ja_nil)) (je_var 1))))))
theorem fact__law_draw (Z : Fx K mg) : FnFact P w K mg base (G K) (PySem.Str.ofString "_law_draw") 2 1 P__law_draw f__law_draw := by
  obtain ⟨fd, F⟩ := Z.d__law_draw
  exact fact_of F Z.g__law_draw (fun _ _ _ _ _ _ us hl => match us, hl with | [_, _], _ => rfl) (okf__law_draw Z F)
theorem sc__law_pick : FnScope N__law_pick P__law_pick (defScope s__law_pick) := ⟨rfl, rfl, rfl, by decide +kernel, rfl, by decide +kernel, by decide +kernel⟩
theorem okf__law_pick (Z : Fx K mg) {fd : FuncData} (F : FunD K (PySem.Str.ofString "_law_pick") (PySem.Str.ofString "_law_pick") (defArgs s__law_pick) (defBody s__law_pick) (defScope s__law_pick) [] [] (He.fAd K ((PySem.Str.ofString "_law_pick"), none)) fd) : FnOkG P w K mg base 9 (He.fAd K ((PySem.Str.ofString "_law_pick"), none)) fd P__law_pick (spF (G K) 2 f__law_pick) := by
  refine okf_of F sc__law_pick rfl rfl fun cdv A outer s H vs E U hr => ?_
  have nd := (sc__law_pick).nd
  have u1 := hu1 hr; have u64 := hu64 hr; have u65 := hu65 hr; have u190 := hu190 hr; have gd := hr.gd
  have tk : Takes (cxOf (L2.CX P w) P w K mg base N__law_pick (PySem.Str.ofString "_law_pick") (defScope s__law_pick) (He.fAd K ((PySem.Str.ofString "_law_pick"), none)) cdv A outer s H E) (fun cls d _ H' => E cls d H') := takes_of rfl rfl rfl rfl
  have hp : PassesOwn (model P w) (A.deeper (envOfC (PySem.Str.ofString "_law_pick") (defScope s__law_pick) s.heap.objs.size (He.fAd K ((PySem.Str.ofString "_law_pick"), none)) cdv)) (envOfC (PySem.Str.ofString "_law_pick") (defScope s__law_pick) s.heap.objs.size (He.fAd K ((PySem.Str.ofString "_law_pick"), none)) cdv) (cxOf (L2.CX P w) P w K mg base N__law_pick (PySem.Str.ofString "_law_pick") (defScope s__law_pick) (He.fAd K ((PySem.Str.ofString "_law_pick"), none)) cdv A outer s H E).xe := passes_of (X := (cxOf (L2.CX P w) P w K mg base N__law_pick (PySem.Str.ofString "_law_pick") (defScope s__law_pick) (He.fAd K ((PySem.Str.ofString "_law_pick"), none)) cdv A outer s H E)) rfl
  exact (js_one (js_ret (je_ixO tk (tab_GI_Town Z) (hr.mono (by decide)) rfl u1 (je_var 1) (je_callF tk (fact__law_draw Z) (hr.mono (by decide)) (ja_cons (je_var 0) (ja_cons (je_callB (call_lenAll.or (call_lenO (tab_LN_Town Z) (hr.mono (by decide)))) (lenD_ok.or lenOD_ok) Z.b_len boot_len (ja_cons (je_var 1) ja_nil)) ja_nil))))))
theorem fact__law_pick (Z : Fx K mg) : FnFact P w K mg base (G K) (PySem.Str.ofString "_law_pick") 2 9 P__law_pick f__law_pick := by
  obtain ⟨fd, F⟩ := Z.d__law_pick
  exact fact_of F Z.g__law_pick (fun _ _ _ _ _ _ us hl => match us, hl with | [_, _], _ => rfl) (okf__law_pick Z F)
theorem sc__law_names : FnScope N__law_names P__law_names (defScope s__law_names) := ⟨rfl, rfl, rfl, by decide +kernel, rfl, by decide +kernel, by decide +kernel⟩
theorem okf__law_names (Z : Fx K mg) {fd : FuncData} (F : FunD K (PySem.Str.ofString "_law_names") (PySem.Str.ofString "_law_names") (defArgs s__law_names) (defBody s__law_names) (defScope s__law_names) [] [] (He.fAd K ((PySem.Str.ofString "_law_names"), none)) fd) : FnOkG P w K mg base 10 (He.fAd K ((PySem.Str.ofString "_law_names"), none)) fd P__law_names (spF (G K) 2 f__law_names) := by
  refine okf_of F sc__law_names rfl rfl fun cdv A outer s H vs E U hr => ?_
  have nd := (sc__law_names).nd
  have u1 := hu1 hr; have u64 := hu64 hr; have u65 := hu65 hr; have u190 := hu190 hr; have gd := hr.gd
  have tk : Takes (cxOf (L2.CX P w) P w K mg base N__law_names (PySem.Str.ofString "_law_names") (defScope s__law_names) (He.fAd K ((PySem.Str.ofString "_law_names"), none)) cdv A outer s H E) (fun cls d _ H' => E cls d H') := takes_of rfl rfl rfl rfl
  have hp : PassesOwn (model P w) (A.deeper (envOfC (PySem.Str.ofString "_law_names") (defScope s__law_names) s.heap.objs.size (He.fAd K ((PySem.Str.ofString "_law_names"), none)) cdv)) (envOfC (PySem.Str.ofString "_law_names") (defScope s__law_names) s.heap.objs.size (He.fAd K ((PySem.Str.ofString "_law_names"), none)) cdv) (cxOf (L2.CX P w) P w K mg base N__law_names (PySem.Str.ofString "_law_names") (defScope s__law_names) (He.fAd K ((PySem.Str.ofString "_law_names"), none)) cdv A outer s H E).xe := passes_of (X := (cxOf (L2.CX P w) P w K mg base N__law_names (PySem.Str.ofString "_law_names") (defScope s__law_names) (He.fAd K ((PySem.Str.ofString "_law_names"), none)) cdv A outer s H E)) rfl
  exact (js_cons (js_set (i := 2) nd (by first | exact Or.inl rfl | exact Or.inr rfl) je_str) (js_cons (by first | exact (js_par2 rfl nd (jn_cons (je_callF tk (fact__law_draw Z) (hr.mono (by decide)) (ja_cons (je_var 0) (ja_cons je_int ja_nil))) (fun _ => (jn_cons (je_bin op_addD addD_ok je_int (je_bin op_mulD mulD_ok je_int (je_callF tk (fact__law_draw Z) (hr.mono (by decide)) (ja_cons (je_var 0) (ja_cons je_int ja_nil))))) (fun _ => jn_nil))))) | exact (js_parN rfl (pg_tup rfl (pgs_cons (pg_name (i := 4) nd rfl (by first | exact Or.inl rfl | exact Or.inr rfl)) (pgs_cons (pg_name (i := 5) nd rfl (by first | exact Or.inl rfl | exact Or.inr rfl)) pgs_nil))) rfl (by decide) (jn_cons (je_callF tk (fact__law_draw Z) (hr.mono (by decide)) (ja_cons (je_var 0) (ja_cons je_int ja_nil))) (fun _ => (jn_cons (je_bin op_addD addD_ok je_int (je_bin op_mulD mulD_ok je_int (je_callF tk (fact__law_draw Z) (hr.mono (by decide)) (ja_cons (je_var 0) (ja_cons je_int ja_nil))))) (fun _ => jn_nil)))))) (js_cons (js_set (i := 3) nd (by first | exact Or.inl rfl | exact Or.inr rfl) (je_lst (ja_cons (je_tup (ja_cons je_str (ja_cons je_str ja_nil))) (ja_cons (je_tup (ja_cons je_str (ja_cons je_str ja_nil))) (ja_cons (je_tup (ja_cons je_str (ja_cons je_str ja_nil))) (ja_cons (je_tup (ja_cons je_str (ja_cons je_str ja_nil))) (ja_cons (je_tup (ja_cons je_str (ja_cons je_str ja_nil))) ja_nil))))))) (js_cons (js_asgX (pg_ei (pg_tup rfl (pgs_cons (pg_name (i := 6) nd rfl (by first | exact Or.inl rfl | exact Or.inr rfl)) (pgs_cons (pg_name (i := 7) nd rfl (by first | exact Or.inl rfl | exact Or.inr rfl)) pgs_nil))) (pg_unl rfl (pgs_cons (pg_name (i := 6) nd rfl (by first | exact Or.inl rfl | exact Or.inr rfl)) (pgs_cons (pg_name (i := 7) nd rfl (by first | exact Or.inl rfl | exact Or.inr rfl)) pgs_nil)))) (tgx_l (tgsx_cons (TgOk.x tg_name) (tgsx_cons (TgOk.x tg_name) tgsx_nil))) (je_callF tk (fact__law_pick Z) (hr.mono (by decide)) (ja_cons (je_var 0) (ja_cons (je_var 3) ja_nil)))) (js_one (js_ret (je_lc (own := [((PySem.Str.ofString "_law_k"), 8)]) (g := (gName 8)) rfl nd (ji_range Z.b_range (ja_cons (je_var 1) ja_nil)) (blkOk_by (own := [((PySem.Str.ofString "_law_k"), 8)]) (N := N__law_names) (sc := defScope s__law_names) (by decide +kernel)) (by exact fun _ => (tv_name (by decide))) (fun _ _ _ _ _ => (pg_name (i := 8) nd rfl (by first | exact Or.inl rfl | exact Or.inr rfl))) (fun _ _ _ _ _ _ => jts_nil) (fun _ _ _ _ _ _ => (je_bin op_addD addD_ok (je_bin op_addD addD_ok (je_var 6) (je_ixO takes0 (tab_GI_Town Z) (hr.mono (by decide)) rfl u1 (je_var 2) (je_bin op_mod modD_ok (je_callTy call_int1 intD_ok Z.b_int (by decide +kernel) (ja_cons (je_bin op_addD addD_ok (je_var 4) (je_bin op_mulD mulD_ok (je_var 5) (je_var 8))) ja_nil)) je_int))) (je_var 7))))))))))
theorem fact__law_names (Z : Fx K mg) : FnFact P w K mg base (G K) (PySem.Str.ofString "_law_names") 2 10 P__law_names f__law_names := by
  obtain ⟨fd, F⟩ := Z.d__law_names
  exact fact_of F Z.g__law_names (fun _ _ _ _ _ _ us hl => match us, hl with | [_, _], _ => rfl) (okf__law_names Z F)
theorem sc__law_model : FnScope N__law_model P__law_model (defScope s__law_model) := ⟨rfl, rfl, rfl, by decide +kernel, rfl, by decide +kernel, by decide +kernel⟩
theorem okf__law_model (Z : Fx K mg) {fd : FuncData} (F : FunD K (PySem.Str.ofString "_law_model") (PySem.Str.ofString "_law_model") (defArgs s__law_model) (defBody s__law_model) (defScope s__law_model) [] [] (He.fAd K ((PySem.Str.ofString "_law_model"), none)) fd) : FnOkG P w K mg base 11 (He.fAd K ((PySem.Str.ofString "_law_model"), none)) fd P__law_model (spF (G K) 2 f__law_model) := by
  refine okf_of F sc__law_model rfl rfl fun cdv A outer s H vs E U hr => ?_
  have nd := (sc__law_model).nd
  have u1 := hu1 hr; have u64 := hu64 hr; have u65 := hu65 hr; have u190 := hu190 hr; have gd := hr.gd
  have tk : Takes (cxOf (L2.CX P w) P w K mg base N__law_model (PySem.Str.ofString "_law_model") (defScope s__law_model) (He.fAd K ((PySem.Str.ofString "_law_model"), none)) cdv A outer s H E) (fun cls d _ H' => E cls d H') := takes_of rfl rfl rfl rfl
  have hp : PassesOwn (model P w) (A.deeper (envOfC (PySem.Str.ofString "_law_model") (defScope s__law_model) s.heap.objs.size (He.fAd K ((PySem.Str.ofString "_law_model"), none)) cdv)) (envOfC (PySem.Str.ofString "_law_model") (defScope s__law_model) s.heap.objs.size (He.fAd K ((PySem.Str.ofString "_law_model"), none)) cdv) (cxOf (L2.CX P w) P w K mg base N__law_model (PySem.Str.ofString "_law_model") (defScope s__law_model) (He.fAd K ((PySem.Str.ofString "_law_model"), none)) cdv A outer s H E).xe := passes_of (X := (cxOf (L2.CX P w) P w K mg base N__law_model (PySem.Str.ofString "_law_model") (defScope s__law_model) (He.fAd K ((PySem.Str.ofString "_law_model"), none)) cdv A outer s H E)) rfl
  exact (js_cons (js_set (i := 2) nd (by first | exact Or.inl rfl | exact Or.inr rfl) (je_callF tk (fact__law_names Z) (hr.mono (by decide)) (ja_cons (je_var 0) (ja_cons (je_bin op_addD addD_ok je_int (je_callF tk (fact__law_draw Z) (hr.mono (by decide)) (ja_cons (je_var 0) (ja_cons (je_var 1) ja_nil)))) ja_nil)))) (js_cons (by first | exact (js_setLc (i := 3) (own := [((PySem.Str.ofString "_law_name"), 10)]) (g := (gName 10)) rfl nd rfl (sw_true rfl rfl rfl (by decide +kernel)) (ji_seq rfl (je_var 2)) (blkOk_by (own := [((PySem.Str.ofString "_law_name"), 10)]) (N := N__law_model) (sc := defScope s__law_model) (by decide +kernel)) (by exact fun _ => (tv_name (by decide))) (fun _ _ _ _ _ => (pg_name (i := 10) nd rfl (by first | exact Or.inl rfl | exact Or.inr rfl))) (fun _ _ _ _ _ _ => jts_nil) (fun _ _ _ _ _ _ => (je_tup (ja_cons (je_var 10) (ja_cons (je_callF takes0 (fact__law_draw Z) (hr.mono (by decide)) (ja_cons (je_var 0) (ja_cons je_int ja_nil))) (ja_cons (je_cmp op_gt gtD_ok (je_callF takes0 (fact__law_draw Z) (hr.mono (by decide)) (ja_cons (je_var 0) (ja_cons je_int ja_nil))) je_int (nomark _)) ja_nil)))))) | exact (js_set (i := 3) nd (by first | exact Or.inl rfl | exact Or.inr rfl) (je_lc (own := [((PySem.Str.ofString "_law_name"), 10)]) (g := (gName 10)) rfl nd (ji_seq rfl (je_var 2)) (blkOk_by (own := [((PySem.Str.ofString "_law_name"), 10)]) (N := N__law_model) (sc := defScope s__law_model) (by decide +kernel)) (by exact fun _ => (tv_name (by decide))) (fun _ _ _ _ _ => (pg_name (i := 10) nd rfl (by first | exact Or.inl rfl | exact Or.inr rfl))) (fun _ _ _ _ _ _ => jts_nil) (fun _ _ _ _ _ _ => (je_tup (ja_cons (je_var 10) (ja_cons (je_callF takes0 (fact__law_draw Z) (hr.mono (by decide)) (ja_cons (je_var 0) (ja_cons je_int ja_nil))) (ja_cons (je_cmp op_gt gtD_ok (je_callF takes0 (fact__law_draw Z) (hr.mono (by decide)) (ja_cons (je_var 0) (ja_cons je_int ja_nil))) je_int (nomark _)) ja_nil)))))))) (js_cons (js_set (i := 4) nd (by first | exact Or.inl rfl | exact Or.inr rfl) (je_callB cr_sortedS sortedD_ok Z.b_sorted (by decide +kernel) (ja_cons (je_lc (own := [((PySem.Str.ofString "_law_name"), 10)]) (g := (gName 10)) rfl nd (ji_seq rfl (je_var 2)) (blkOk_by (own := [((PySem.Str.ofString "_law_name"), 10)]) (N := N__law_model) (sc := defScope s__law_model) (by decide +kernel)) (by exact fun _ => (tv_name (by decide))) (fun _ _ _ _ _ => (pg_name (i := 10) nd rfl (by first | exact Or.inl rfl | exact Or.inr rfl))) (fun _ _ _ _ _ _ => jts_nil) (fun _ _ _ _ _ _ => (je_callTy call_strAll strD_ok Z.b_str (by decide +kernel) (ja_cons (je_var 10) ja_nil)))) ja_nil))) (js_cons (js_set (i := 5) nd (by first | exact Or.inl rfl | exact Or.inr rfl) (je_lst ja_nil)) (js_cons (js_for hp rfl (ji_range Z.b_range (ja_cons (je_callB (call_lenAll.or (call_lenO (tab_LN_Town Z) (hr.mono (by decide)))) (lenD_ok.or lenOD_ok) Z.b_len boot_len (ja_cons (je_var 4) ja_nil)) ja_nil)) (pg_name (i := 6) nd rfl (by first | exact Or.inl rfl | exact Or.inr rfl)) tg_name (js_one (js_for hp rfl (ji_seq rfl (je_sl rfl (je_var 4) (.some (je_bin op_addD addD_ok (je_var 6) je_int)) .none)) (pg_name (i := 10) nd rfl (by first | exact Or.inl rfl | exact Or.inr rfl)) tg_name (js_one (js_if (jt_cmp ((op_eqAll u64).or (op_eqO (rc_eqO Z.tab rfl (tab_EQ_Till_Town Z)) (hr.mono (by decide)))) (eqD_ok.or eqOD_ok) (je_callF tk (fact__law_draw Z) (hr.mono (by decide)) (ja_cons (je_var 0) (ja_cons je_int ja_nil))) je_int (nomark _)) (js_one (js_expr (je_mut PySem.F.plainAttrs_list PySem.F.slot_list_append PySem.F.type_list_append mt_append appendD_ok rfl (je_var 5) (ja_cons (je_tup (ja_cons (je_ixO tk (tab_GI_Town Z) (hr.mono (by decide)) rfl u1 (je_var 4) (je_var 6)) (ja_cons (je_var 10) ja_nil))) ja_nil)))) js_nil))))) (js_cons (js_set (i := 7) nd (by first | exact Or.inl rfl | exact Or.inr rfl) (je_lst (ja_cons (je_tup (ja_cons je_str ja_nil)) (ja_cons (je_tup (ja_cons je_str ja_nil)) (ja_cons (je_tup (ja_cons je_str (ja_cons (je_callF tk (fact__law_draw Z) (hr.mono (by decide)) (ja_cons (je_var 0) (ja_cons je_int ja_nil))) ja_nil))) (ja_cons (je_tup (ja_cons je_str (ja_cons (je_callF tk (fact__law_draw Z) (hr.mono (by decide)) (ja_cons (je_var 0) (ja_cons je_int ja_nil))) ja_nil))) ja_nil)))))) (js_cons (js_set (i := 8) nd (by first | exact Or.inl rfl | exact Or.inr rfl) (je_callF tk (fact__law_pick Z) (hr.mono (by decide)) (ja_cons (je_var 0) (ja_cons (je_var 7) ja_nil)))) (js_cons (js_set (i := 9) nd (by first | exact Or.inl rfl | exact Or.inr rfl) (je_dict (jp_cons (key := .inr (PySem.Str.ofString "tills")) pe_str (fun _ => (je_var 3)) (jp_cons (key := .inr (PySem.Str.ofString "links")) pe_str (fun _ => (je_var 5)) (jp_cons (key := .inr (PySem.Str.ofString "money")) pe_str (fun _ => (je_callF tk (fact__law_draw Z) (hr.mono (by decide)) (ja_cons (je_var 0) (ja_cons je_int ja_nil)))) (jp_cons (key := .inr (PySem.Str.ofString "memory")) pe_str (fun _ => (je_var 8)) jp_nil)))))) (js_cons (js_asgX (pg_tup rfl (pgs_cons (pg_sub (pe_var (i := 9) rfl (by first | exact Or.inl rfl | exact Or.inr (Or.inl rfl) | exact Or.inr (Or.inr rfl))) pe_str (set_D u1)) (pgs_cons (pg_sub (pe_var (i := 9) rfl (by first | exact Or.inl rfl | exact Or.inr (Or.inl rfl) | exact Or.inr (Or.inr rfl))) pe_str (set_D u1)) pgs_nil))) (tgx_tup (tgsx_cons (tgx_sub fun _ => (.str _)) (tgsx_cons (tgx_sub fun _ => (.str _)) tgsx_nil))) (je_tup (ja_cons (je_callF tk (fact__law_draw Z) (hr.mono (by decide)) (ja_cons (je_var 0) (ja_cons je_int ja_nil))) (ja_cons (je_cmp ((op_eqAll u64).or (op_eqO (rc_eqO Z.tab rfl (tab_EQ_Till_Town Z)) (hr.mono (by decide)))) (eqD_ok.or eqOD_ok) (je_callF tk (fact__law_draw Z) (hr.mono (by decide)) (ja_cons (je_var 0) (ja_cons je_int ja_nil))) je_int (nomark _)) ja_nil)))) (js_one (js_ret (je_var 9))))))))))))
theorem fact__law_model (Z : Fx K mg) : FnFact P w K mg base (G K) (PySem.Str.ofString "_law_model") 2 11 P__law_model f__law_model := by
  obtain ⟨fd, F⟩ := Z.d__law_model
  exact fact_of F Z.g__law_model (fun _ _ _ _ _ _ us hl => match us, hl with | [_, _], _ => rfl) (okf__law_model Z F)
theorem sc__law_words_of : FnScope N__law_words_of P__law_words_of (defScope s__law_words_of) := ⟨rfl, rfl, rfl, by decide +kernel, rfl, by decide +kernel, by decide +kernel⟩
theorem okf__law_words_of (Z : Fx K mg) {fd : FuncData} (F : FunD K (PySem.Str.ofString "_law_words_of") (PySem.Str.ofString "_law_words_of") (defArgs s__law_words_of) (defBody s__law_words_of) (defScope s__law_words_of) [] [] (He.fAd K ((PySem.Str.ofString "_law_words_of"), none)) fd) : FnOkG P w K mg base 9 (He.fAd K ((PySem.Str.ofString "_law_words_of"), none)) fd P__law_words_of (spF (G K) 1 f__law_words_of) := by
  refine okf_of F sc__law_words_of rfl rfl fun cdv A outer s H vs E U hr => ?_
  have nd := (sc__law_words_of).nd
  have u1 := hu1 hr; have u64 := hu64 hr; have u65 := hu65 hr; have u190 := hu190 hr; have gd := hr.gd
  have tk : Takes (cxOf (L2.CX P w) P w K mg base N__law_words_of (PySem.Str.ofString "_law_words_of") (defScope s__law_words_of) (He.fAd K ((PySem.Str.ofString "_law_words_of"), none)) cdv A outer s H E) (fun cls d _ H' => E cls d H') := takes_of rfl rfl rfl rfl
  have hp : PassesOwn (model P w) (A.deeper (envOfC (PySem.Str.ofString "_law_words_of") (defScope s__law_words_of) s.heap.objs.size (He.fAd K ((PySem.Str.ofString "_law_words_of"), none)) cdv)) (envOfC (PySem.Str.ofString "_law_words_of") (defScope s__law_words_of) s.heap.objs.size (He.fAd K ((PySem.Str.ofString "_law_words_of"), none)) cdv) (cxOf (L2.CX P w) P w K mg base N__law_words_of (PySem.Str.ofString "_law_words_of") (defScope s__law_words_of) (He.fAd K ((PySem.Str.ofString "_law_words_of"), none)) cdv A outer s H E).xe := passes_of (X := (cxOf (L2.CX P w) P w K mg base N__law_words_of (PySem.Str.ofString "_law_words_of") (defScope s__law_words_of) (He.fAd K ((PySem.Str.ofString "_law_words_of"), none)) cdv A outer s H E)) rfl
  exact (js_one (js_ret (je_lc (own := [((PySem.Str.ofString "_law_till"), 1)]) (g := (gName 1)) rfl nd (ji_seq rfl (je_ixO tk (tab_GI_Town Z) (hr.mono (by decide)) rfl u1 (je_var 0) je_str)) (blkOk_by (own := [((PySem.Str.ofString "_law_till"), 1)]) (N := N__law_words_of) (sc := defScope s__law_words_of) (by decide +kernel)) (by exact fun _ => (tv_name (by decide))) (fun _ _ _ _ _ => (pg_name (i := 1) nd rfl (by first | exact Or.inl rfl | exact Or.inr rfl))) (fun _ _ _ _ _ _ => jts_nil) (fun _ _ _ _ _ _ => (je_ix rfl u1 (je_var 1) je_int)))))
theorem fact__law_words_of (Z : Fx K mg) : FnFact P w K mg base (G K) (PySem.Str.ofString "_law_words_of") 1 9 P__law_words_of f__law_words_of := by
  obtain ⟨fd, F⟩ := Z.d__law_words_of
  exact fact_of F Z.g__law_words_of (fun _ _ _ _ _ _ us hl => match us, hl with | [_], _ => rfl) (okf__law_words_of Z F)
theorem sc_Town___contains__ : FnScope N_Town___contains__ P_Town___contains__ (defScope s_Town___contains__) := ⟨rfl, rfl, rfl, by decide +kernel, rfl, by decide +kernel, by decide +kernel⟩
theorem okf_Town___contains__ (Z : Fx K mg) {fd : FuncData} (F : FunD K (PySem.Str.ofString "__contains__") (PySem.Str.ofString "Town.__contains__") (defArgs s_Town___contains__) (defBody s_Town___contains__) (defScope s_Town___contains__) [] [] (He.fAd K ((PySem.Str.ofString "Town"), some (PySem.Str.ofString "__contains__"))) fd) : FnOkG P w K mg base 7 (He.fAd K ((PySem.Str.ofString "Town"), some (PySem.Str.ofString "__contains__"))) fd P_Town___contains__ (spF (G K) 2 f_Town___contains__) := by
  refine okf_of F sc_Town___contains__ rfl rfl fun cdv A outer s H vs E U hr => ?_
  have nd := (sc_Town___contains__).nd
  have u1 := hu1 hr; have u64 := hu64 hr; have u65 := hu65 hr; have u190 := hu190 hr; have gd := hr.gd
  have tk : Takes (cxOf (L2.CX P w) P w K mg base N_Town___contains__ (PySem.Str.ofString "Town.__contains__") (defScope s_Town___contains__) (He.fAd K ((PySem.Str.ofString "Town"), some (PySem.Str.ofString "__contains__"))) cdv A outer s H E) (fun cls d _ H' => E cls d H') := takes_of rfl rfl rfl rfl
  have hp : PassesOwn (model P w) (A.deeper (envOfC (PySem.Str.ofString "Town.__contains__") (defScope s_Town___contains__) s.heap.objs.size (He.fAd K ((PySem.Str.ofString "Town"), some (PySem.Str.ofString "__contains__"))) cdv)) (envOfC (PySem.Str.ofString "Town.__contains__") (defScope s_Town___contains__) s.heap.objs.size (He.fAd K ((PySem.Str.ofString "Town"), some (PySem.Str.ofString "__contains__"))) cdv) (cxOf (L2.CX P w) P w K mg base N_Town___contains__ (PySem.Str.ofString "Town.__contains__") (defScope s_Town___contains__) (He.fAd K ((PySem.Str.ofString "Town"), some (PySem.Str.ofString "__contains__"))) cdv A outer s H E).xe := passes_of (X := (cxOf (L2.CX P w) P w K mg base N_Town___contains__ (PySem.Str.ofString "Town.__contains__") (defScope s_Town___contains__) (He.fAd K ((PySem.Str.ofString "Town"), some (PySem.Str.ofString "__contains__"))) cdv A outer s H E)) rfl
  exact (js_one (js_ret (je_and (je_callB call_isiAll (by exact isiD_ok Z.tab) Z.b_isinstance (by decide +kernel) (ja_cons (je_var 1) (ja_cons (je_ty Z.b_str (by decide +kernel)) ja_nil))) (pe_one (je_callB (cr_any rfl) anyD_ok Z.b_any (by decide +kernel) (ja_cons (je_lc (own := [((PySem.Str.ofString "till"), 2)]) (g := (gName 2)) rfl nd (ji_seq rfl (je_fld Z.tab rfl (je_var 0))) (blkOk_by (own := [((PySem.Str.ofString "till"), 2)]) (N := N_Town___contains__) (sc := defScope s_Town___contains__) (by decide +kernel)) (by exact fun _ => (tv_name (by decide))) (fun _ _ _ _ _ => (pg_name (i := 2) nd rfl (by first | exact Or.inl rfl | exact Or.inr rfl))) (fun _ _ _ _ _ _ => jts_nil) (fun _ _ _ _ _ _ => (je_cmp ((op_eqAll u64).or (op_eqO (rc_eqO Z.tab rfl (tab_EQ_Till_Town Z)) (hr.mono (by decide)))) (eqD_ok.or eqOD_ok) (je_fld Z.tab rfl (je_var 2)) (je_var 1) (nomark _)))) ja_nil))))))
theorem fact_Town___contains__ (Z : Fx K mg) : MtFact P w K mg base (G K) C_Town (PySem.Str.ofString "__contains__") 2 7 P_Town___contains__ f_Town___contains__ := by
  obtain ⟨fd, F⟩ := Z.d_Town___contains__
  exact ⟨_, fd, Z.mt_Town___contains__, F.bindsN fun _ _ _ _ _ _ us hl => match us, hl with | [_, _], _ => rfl, okf_Town___contains__ Z F⟩
theorem tab_IN_Town (Z : Fx K mg) : SpTab P w K mg base (G K) (PySem.Str.ofString "__contains__") 2 7 IN_Town := by
  obtain ⟨fd_Town, F_Town⟩ := Z.d_Town___contains__
  exact (sptab_cons (sp_of (c := C_Town) Z.sp_IN_Town_Town (F_Town.bindsN fun _ _ _ _ _ _ us hl => match us, hl with | [_, _], _ => rfl) ((okf_Town___contains__ Z F_Town).mono (by decide))) sptab_nil)
theorem sc_is_name : FnScope N_is_name P_is_name (defScope s_is_name) := ⟨rfl, rfl, rfl, by decide +kernel, rfl, by decide +kernel, by decide +kernel⟩
theorem okf_is_name (Z : Fx K mg) {fd : FuncData} (F : FunD K (PySem.Str.ofString "is_name") (PySem.Str.ofString "is_name") (defArgs s_is_name) (defBody s_is_name) (defScope s_is_name) [] [] (He.fAd K ((PySem.Str.ofString "is_name"), none)) fd) : FnOkG P w K mg base 8 (He.fAd K ((PySem.Str.ofString "is_name"), none)) fd P_is_name (spF (G K) 1 f_is_name) := by
  refine okf_of F sc_is_name rfl rfl fun cdv A outer s H vs E U hr => ?_
  have nd := (sc_is_name).nd
  have u1 := hu1 hr; have u64 := hu64 hr; have u65 := hu65 hr; have u190 := hu190 hr; have gd := hr.gd
  have tk : Takes (cxOf (L2.CX P w) P w K mg base N_is_name (PySem.Str.ofString "is_name") (defScope s_is_name) (He.fAd K ((PySem.Str.ofString "is_name"), none)) cdv A outer s H E) (fun cls d _ H' => E cls d H') := takes_of rfl rfl rfl rfl
  have hp : PassesOwn (model P w) (A.deeper (envOfC (PySem.Str.ofString "is_name") (defScope s_is_name) s.heap.objs.size (He.fAd K ((PySem.Str.ofString "is_name"), none)) cdv)) (envOfC (PySem.Str.ofString "is_name") (defScope s_is_name) s.heap.objs.size (He.fAd K ((PySem.Str.ofString "is_name"), none)) cdv) (cxOf (L2.CX P w) P w K mg base N_is_name (PySem.Str.ofString "is_name") (defScope s_is_name) (He.fAd K ((PySem.Str.ofString "is_name"), none)) cdv A outer s H E).xe := passes_of (X := (cxOf (L2.CX P w) P w K mg base N_is_name (PySem.Str.ofString "is_name") (defScope s_is_name) (He.fAd K ((PySem.Str.ofString "is_name"), none)) cdv A outer s H E)) rfl
  exact (js_one (js_ret (je_and (je_callB call_isiAll (by exact isiD_ok Z.tab) Z.b_isinstance (by decide +kernel) (ja_cons (je_var 0) (ja_cons (je_ty Z.b_str (by decide +kernel)) ja_nil))) (je_and (je_chain op_le op_le leD_ok leD_ok je_int (je_callB (call_lenAll.or (call_lenO (tab_LN_Town Z) (hr.mono (by decide)))) (lenD_ok.or lenOD_ok) Z.b_len boot_len (ja_cons (je_var 0) ja_nil)) (je_gint Z.c_MOST_LETTERS)) (pe_one (je_callB (cr_all rfl) allD_ok Z.b_all (by decide +kernel) (ja_cons (je_lc (own := [((PySem.Str.ofString "sign"), 1)]) (g := (gName 1)) rfl nd (ji_seq rfl (je_var 0)) (blkOk_by (own := [((PySem.Str.ofString "sign"), 1)]) (N := N_is_name) (sc := defScope s_is_name) (by decide +kernel)) (by exact fun _ => (tv_name (by decide))) (fun _ _ _ _ _ => (pg_name (i := 1) nd rfl (by first | exact Or.inl rfl | exact Or.inr rfl))) (fun _ _ _ _ _ _ => jts_nil) (fun _ _ _ _ _ _ => (je_cmp ((op_inB u65).or (op_inO (tab_IN_Town Z) (hr.mono (by decide)))) (inD_ok.or eqOD_ok) (je_var 1) (je_gstr Z.c_LETTERS) rfl))) ja_nil)))))))
theorem fact_is_name (Z : Fx K mg) : FnFact P w K mg base (G K) (PySem.Str.ofString "is_name") 1 8 P_is_name f_is_name := by
  obtain ⟨fd, F⟩ := Z.d_is_name
  exact fact_of F Z.g_is_name (fun _ _ _ _ _ _ us hl => match us, hl with | [_], _ => rfl) (okf_is_name Z F)
theorem sc_is_integer : FnScope N_is_integer P_is_integer (defScope s_is_integer) := ⟨rfl, rfl, rfl, by decide +kernel, rfl, by decide +kernel, by decide +kernel⟩
theorem okf_is_integer (Z : Fx K mg) {fd : FuncData} (F : FunD K (PySem.Str.ofString "is_integer") (PySem.Str.ofString "is_integer") (defArgs s_is_integer) (defBody s_is_integer) (defScope s_is_integer) [] [] (He.fAd K ((PySem.Str.ofString "is_integer"), none)) fd) : FnOkG P w K mg base 1 (He.fAd K ((PySem.Str.ofString "is_integer"), none)) fd P_is_integer (spF (G K) 1 f_is_integer) := by
  refine okf_of F sc_is_integer rfl rfl fun cdv A outer s H vs E U hr => ?_
  have nd := (sc_is_integer).nd
  have u1 := hu1 hr; have u64 := hu64 hr; have u65 := hu65 hr; have u190 := hu190 hr; have gd := hr.gd
  have tk : Takes (cxOf (L2.CX P w) P w K mg base N_is_integer (PySem.Str.ofString "is_integer") (defScope s_is_integer) (He.fAd K ((PySem.Str.ofString "is_integer"), none)) cdv A outer s H E) (fun cls d _ H' => E cls d H') := takes_of rfl rfl rfl rfl
  have hp : PassesOwn (model P w) (A.deeper (envOfC (PySem.Str.ofString "is_integer") (defScope s_is_integer) s.heap.objs.size (He.fAd K ((PySem.Str.ofString "is_integer"), none)) cdv)) (envOfC (PySem.Str.ofString "is_integer") (defScope s_is_integer) s.heap.objs.size (He.fAd K ((PySem.Str.ofString "is_integer"), none)) cdv) (cxOf (L2.CX P w) P w K mg base N_is_integer (PySem.Str.ofString "is_integer") (defScope s_is_integer) (He.fAd K ((PySem.Str.ofString "is_integer"), none)) cdv A outer s H E).xe := passes_of (X := (cxOf (L2.CX P w) P w K mg base N_is_integer (PySem.Str.ofString "is_integer") (defScope s_is_integer) (He.fAd K ((PySem.Str.ofString "is_integer"), none)) cdv A outer s H E)) rfl
  exact (js_one (js_ret (je_and (je_callB call_isiAll (by exact isiD_ok Z.tab) Z.b_isinstance (by decide +kernel) (ja_cons (je_var 0) (ja_cons (je_ty Z.b_int (by decide +kernel)) ja_nil))) (pe_one (je_not (je_callB call_isiAll (by exact isiD_ok Z.tab) Z.b_isinstance (by decide +kernel) (ja_cons (je_var 0) (ja_cons (je_ty Z.b_bool (by decide +kernel)) ja_nil))))))))
theorem fact_is_integer (Z : Fx K mg) : FnFact P w K mg base (G K) (PySem.Str.ofString "is_integer") 1 1 P_is_integer f_is_integer := by
  obtain ⟨fd, F⟩ := Z.d_is_integer
  exact fact_of F Z.g_is_integer (fun _ _ _ _ _ _ us hl => match us, hl with | [_], _ => rfl) (okf_is_integer Z F)
theorem sc_is_between : FnScope N_is_between P_is_between (defScope s_is_between) := ⟨rfl, rfl, rfl, by decide +kernel, rfl, by decide +kernel, by decide +kernel⟩
theorem okf_is_between (Z : Fx K mg) {fd : FuncData} (F : FunD K (PySem.Str.ofString "is_between") (PySem.Str.ofString "is_between") (defArgs s_is_between) (defBody s_is_between) (defScope s_is_between) [] [] (He.fAd K ((PySem.Str.ofString "is_between"), none)) fd) : FnOkG P w K mg base 2 (He.fAd K ((PySem.Str.ofString "is_between"), none)) fd P_is_between (spF (G K) 3 f_is_between) := by
  refine okf_of F sc_is_between rfl rfl fun cdv A outer s H vs E U hr => ?_
  have nd := (sc_is_between).nd
  have u1 := hu1 hr; have u64 := hu64 hr; have u65 := hu65 hr; have u190 := hu190 hr; have gd := hr.gd
  have tk : Takes (cxOf (L2.CX P w) P w K mg base N_is_between (PySem.Str.ofString "is_between") (defScope s_is_between) (He.fAd K ((PySem.Str.ofString "is_between"), none)) cdv A outer s H E) (fun cls d _ H' => E cls d H') := takes_of rfl rfl rfl rfl
  have hp : PassesOwn (model P w) (A.deeper (envOfC (PySem.Str.ofString "is_between") (defScope s_is_between) s.heap.objs.size (He.fAd K ((PySem.Str.ofString "is_between"), none)) cdv)) (envOfC (PySem.Str.ofString "is_between") (defScope s_is_between) s.heap.objs.size (He.fAd K ((PySem.Str.ofString "is_between"), none)) cdv) (cxOf (L2.CX P w) P w K mg base N_is_between (PySem.Str.ofString "is_between") (defScope s_is_between) (He.fAd K ((PySem.Str.ofString "is_between"), none)) cdv A outer s H E).xe := passes_of (X := (cxOf (L2.CX P w) P w K mg base N_is_between (PySem.Str.ofString "is_between") (defScope s_is_between) (He.fAd K ((PySem.Str.ofString "is_between"), none)) cdv A outer s H E)) rfl
  exact (js_one (js_ret (je_and (je_callF tk (fact_is_integer Z) (hr.mono (by decide)) (ja_cons (je_var 0) ja_nil)) (pe_one (je_chain op_le op_le leD_ok leD_ok (je_var 1) (je_var 0) (je_var 2))))))
theorem fact_is_between (Z : Fx K mg) : FnFact P w K mg base (G K) (PySem.Str.ofString "is_between") 3 2 P_is_between f_is_between := by
  obtain ⟨fd, F⟩ := Z.d_is_between
  exact fact_of F Z.g_is_between (fun _ _ _ _ _ _ us hl => match us, hl with | [_, _, _], _ => rfl) (okf_is_between Z F)
theorem sc_Till___init__ : FnScope N_Till___init__ P_Till___init__ (defScope s_Till___init__) := ⟨rfl, rfl, rfl, by decide +kernel, rfl, by decide +kernel, by decide +kernel⟩
theorem okf_Till___init__ (Z : Fx K mg) {fd : FuncData} (F : FunD K (PySem.Str.ofString "__init__") (PySem.Str.ofString "Till.__init__") (defArgs s_Till___init__) (defBody s_Till___init__) (defScope s_Till___init__) [] [((PySem.Str.ofString "heeds"), .bl true)] (He.fAd K ((PySem.Str.ofString "Till"), some (PySem.Str.ofString "__init__"))) fd) : FnOkG P w K mg base 9 (He.fAd K ((PySem.Str.ofString "Till"), some (PySem.Str.ofString "__init__"))) fd P_Till___init__ (spF (G K) 4 f_Till___init__) := by
  refine okf_of F sc_Till___init__ rfl rfl fun cdv A outer s H vs E U hr => ?_
  have nd := (sc_Till___init__).nd
  have u1 := hu1 hr; have u64 := hu64 hr; have u65 := hu65 hr; have u190 := hu190 hr; have gd := hr.gd
  have tk : Takes (cxOf (L2.CX P w) P w K mg base N_Till___init__ (PySem.Str.ofString "Till.__init__") (defScope s_Till___init__) (He.fAd K ((PySem.Str.ofString "Till"), some (PySem.Str.ofString "__init__"))) cdv A outer s H E) (fun cls d _ H' => E cls d H') := takes_of rfl rfl rfl rfl
  have hp : PassesOwn (model P w) (A.deeper (envOfC (PySem.Str.ofString "Till.__init__") (defScope s_Till___init__) s.heap.objs.size (He.fAd K ((PySem.Str.ofString "Till"), some (PySem.Str.ofString "__init__"))) cdv)) (envOfC (PySem.Str.ofString "Till.__init__") (defScope s_Till___init__) s.heap.objs.size (He.fAd K ((PySem.Str.ofString "Till"), some (PySem.Str.ofString "__init__"))) cdv) (cxOf (L2.CX P w) P w K mg base N_Till___init__ (PySem.Str.ofString "Till.__init__") (defScope s_Till___init__) (He.fAd K ((PySem.Str.ofString "Till"), some (PySem.Str.ofString "__init__"))) cdv A outer s H E).xe := passes_of (X := (cxOf (L2.CX P w) P w K mg base N_Till___init__ (PySem.Str.ofString "Till.__init__") (defScope s_Till___init__) (He.fAd K ((PySem.Str.ofString "Till"), some (PySem.Str.ofString "__init__"))) cdv A outer s H E)) rfl
  exact (js_cons (js_if (jt_not (jt_tru rfl (je_callF tk (fact_is_name Z) (hr.mono (by decide)) (ja_cons (je_var 1) ja_nil)))) (js_one (js_raise rfl tk (xc_BadPart Z) (hr.mono (by decide)) je_str)) js_nil) (js_cons (js_if (jt_not (jt_tru rfl (je_callF tk (fact_is_between Z) (hr.mono (by decide)) (ja_cons (je_var 2) (ja_cons je_int (ja_cons (je_gint Z.c_MOST_LIMIT) ja_nil)))))) (js_one (js_raise rfl tk (xc_BadPart Z) (hr.mono (by decide)) je_str)) js_nil) (js_cons (js_if (jt_not (jt_tru rfl (je_callB call_isiAll (by exact isiD_ok Z.tab) Z.b_isinstance (by decide +kernel) (ja_cons (je_var 3) (ja_cons (je_ty Z.b_bool (by decide +kernel)) ja_nil))))) (js_one (js_raise rfl tk (xc_BadPart Z) (hr.mono (by decide)) je_str)) js_nil) (js_cons (js_fld Z.tab rfl (je_var 0) (je_var 1)) (js_cons (js_fld Z.tab rfl (je_var 0) (je_var 2)) (js_one (js_fld Z.tab rfl (je_var 0) (je_var 3))))))))
theorem w0_Till___init__ (Z : Fx K mg) : MwFact P w K mg base (G K) (PySem.Str.ofString "Till") C_Till 4 9 2 [(PySem.Str.ofString "heeds")] [0, 1, 2] [] f_Till___init__ := by
  obtain ⟨fd, F⟩ := Z.d_Till___init__
  exact ⟨_, fd, P_Till___init__, _, Z.gc_Till, Z.mk_Till, (ways_all F 3 rfl fun _ _ _ _ _ _ us ws h1 h2 => match us, ws, h1, h2 with | [_, _, _], [_], _, _ => rfl), (fun _ => .nil), okf_Till___init__ Z F⟩
theorem sc_checked_tills : FnScope N_checked_tills P_checked_tills (defScope s_checked_tills) := ⟨rfl, rfl, rfl, by decide +kernel, rfl, by decide +kernel, by decide +kernel⟩
theorem okf_checked_tills (Z : Fx K mg) {fd : FuncData} (F : FunD K (PySem.Str.ofString "checked_tills") (PySem.Str.ofString "checked_tills") (defArgs s_checked_tills) (defBody s_checked_tills) (defScope s_checked_tills) [] [] (He.fAd K ((PySem.Str.ofString "checked_tills"), none)) fd) : FnOkG P w K mg base 8 (He.fAd K ((PySem.Str.ofString "checked_tills"), none)) fd P_checked_tills (spF (G K) 1 f_checked_tills) := by
  refine okf_of F sc_checked_tills rfl rfl fun cdv A outer s H vs E U hr => ?_
  have nd := (sc_checked_tills).nd
  have u1 := hu1 hr; have u64 := hu64 hr; have u65 := hu65 hr; have u190 := hu190 hr; have gd := hr.gd
  have tk : Takes (cxOf (L2.CX P w) P w K mg base N_checked_tills (PySem.Str.ofString "checked_tills") (defScope s_checked_tills) (He.fAd K ((PySem.Str.ofString "checked_tills"), none)) cdv A outer s H E) (fun cls d _ H' => E cls d H') := takes_of rfl rfl rfl rfl
  have hp : PassesOwn (model P w) (A.deeper (envOfC (PySem.Str.ofString "checked_tills") (defScope s_checked_tills) s.heap.objs.size (He.fAd K ((PySem.Str.ofString "checked_tills"), none)) cdv)) (envOfC (PySem.Str.ofString "checked_tills") (defScope s_checked_tills) s.heap.objs.size (He.fAd K ((PySem.Str.ofString "checked_tills"), none)) cdv) (cxOf (L2.CX P w) P w K mg base N_checked_tills (PySem.Str.ofString "checked_tills") (defScope s_checked_tills) (He.fAd K ((PySem.Str.ofString "checked_tills"), none)) cdv A outer s H E).xe := passes_of (X := (cxOf (L2.CX P w) P w K mg base N_checked_tills (PySem.Str.ofString "checked_tills") (defScope s_checked_tills) (He.fAd K ((PySem.Str.ofString "checked_tills"), none)) cdv A outer s H E)) rfl
  exact (js_cons (js_if ((jw_or (jt_not (jt_tru rfl (je_callB call_isiAll (by exact isiD_ok Z.tab) Z.b_isinstance (by decide +kernel) (ja_cons (je_var 0) (ja_cons (je_tup (ja_cons (je_ty Z.b_list (by decide +kernel)) (ja_cons (je_ty Z.b_tuple (by decide +kernel)) ja_nil))) ja_nil))))) (pw_or1 (jt_cmp ((op_eqAll u64).or (op_eqO (rc_eqO Z.tab rfl (tab_EQ_Till_Town Z)) (hr.mono (by decide)))) (eqD_ok.or eqOD_ok) (je_callB (call_lenAll.or (call_lenO (tab_LN_Town Z) (hr.mono (by decide)))) (lenD_ok.or lenOD_ok) Z.b_len boot_len (ja_cons (je_var 0) ja_nil)) je_int (nomark _))))).pt (js_one (js_raise rfl tk (xc_BadTill Z) (hr.mono (by decide)) je_non)) js_nil) (js_cons (js_set (i := 1) nd (by first | exact Or.inl rfl | exact Or.inr rfl) (je_lst ja_nil)) (js_cons (js_for hp rfl (ji_enm rfl Z.b_enumerate (ja_cons (je_var 0) ja_nil)) (pg_tup rfl (pgs_cons (pg_name (i := 2) nd rfl (by first | exact Or.inl rfl | exact Or.inr rfl)) (pgs_cons (pg_name (i := 3) nd rfl (by first | exact Or.inl rfl | exact Or.inr rfl)) pgs_nil))) (tg_tup (tgs_cons tg_name (tgs_cons tg_name tgs_nil))) (js_cons (js_if ((jw_or (jt_not (jt_tru rfl (je_callB call_isiAll (by exact isiD_ok Z.tab) Z.b_isinstance (by decide +kernel) (ja_cons (je_var 3) (ja_cons (je_gval Z.gc_Till fun _ => .cls C_Till) ja_nil))))) (pw_or1 (jt_cmp ((op_inB u65).or (op_inO (tab_IN_Town Z) (hr.mono (by decide)))) (inD_ok.or eqOD_ok) (je_fld Z.tab rfl (je_var 3)) (je_var 1) rfl)))).pt (js_one (js_raise rfl tk (xc_BadTill Z) (hr.mono (by decide)) (je_var 2))) js_nil) (js_one (js_expr (je_mut PySem.F.plainAttrs_list PySem.F.slot_list_append PySem.F.type_list_append mt_append appendD_ok rfl (je_var 1) (ja_cons (je_fld Z.tab rfl (je_var 3)) ja_nil)))))) (js_cons (js_if (jt_cmp op_gt gtD_ok (je_callB (call_lenAll.or (call_lenO (tab_LN_Town Z) (hr.mono (by decide)))) (lenD_ok.or lenOD_ok) Z.b_len boot_len (ja_cons (je_var 0) ja_nil)) (je_gint Z.c_MOST_TILLS) (nomark _)) (js_one (js_raise rfl tk (xc_TooMany Z) (hr.mono (by decide)) (je_gint Z.c_MOST_TILLS))) js_nil) (js_one (js_ret (je_callTy call_tuple_of tupleD_ok Z.b_tuple (by decide +kernel) (ja_cons (je_var 0) ja_nil))))))))
theorem fact_checked_tills (Z : Fx K mg) : FnFact P w K mg base (G K) (PySem.Str.ofString "checked_tills") 1 8 P_checked_tills f_checked_tills := by
  obtain ⟨fd, F⟩ := Z.d_checked_tills
  exact fact_of F Z.g_checked_tills (fun _ _ _ _ _ _ us hl => match us, hl with | [_], _ => rfl) (okf_checked_tills Z F)
theorem sc_is_link : FnScope N_is_link P_is_link (defScope s_is_link) := ⟨rfl, rfl, rfl, by decide +kernel, rfl, by decide +kernel, by decide +kernel⟩
theorem okf_is_link (Z : Fx K mg) {fd : FuncData} (F : FunD K (PySem.Str.ofString "is_link") (PySem.Str.ofString "is_link") (defArgs s_is_link) (defBody s_is_link) (defScope s_is_link) [] [] (He.fAd K ((PySem.Str.ofString "is_link"), none)) fd) : FnOkG P w K mg base 8 (He.fAd K ((PySem.Str.ofString "is_link"), none)) fd P_is_link (spF (G K) 2 f_is_link) := by
  refine okf_of F sc_is_link rfl rfl fun cdv A outer s H vs E U hr => ?_
  have nd := (sc_is_link).nd
  have u1 := hu1 hr; have u64 := hu64 hr; have u65 := hu65 hr; have u190 := hu190 hr; have gd := hr.gd
  have tk : Takes (cxOf (L2.CX P w) P w K mg base N_is_link (PySem.Str.ofString "is_link") (defScope s_is_link) (He.fAd K ((PySem.Str.ofString "is_link"), none)) cdv A outer s H E) (fun cls d _ H' => E cls d H') := takes_of rfl rfl rfl rfl
  have hp : PassesOwn (model P w) (A.deeper (envOfC (PySem.Str.ofString "is_link") (defScope s_is_link) s.heap.objs.size (He.fAd K ((PySem.Str.ofString "is_link"), none)) cdv)) (envOfC (PySem.Str.ofString "is_link") (defScope s_is_link) s.heap.objs.size (He.fAd K ((PySem.Str.ofString "is_link"), none)) cdv) (cxOf (L2.CX P w) P w K mg base N_is_link (PySem.Str.ofString "is_link") (defScope s_is_link) (He.fAd K ((PySem.Str.ofString "is_link"), none)) cdv A outer s H E).xe := passes_of (X := (cxOf (L2.CX P w) P w K mg base N_is_link (PySem.Str.ofString "is_link") (defScope s_is_link) (He.fAd K ((PySem.Str.ofString "is_link"), none)) cdv A outer s H E)) rfl
  exact (js_cons (js_if ((jw_or (jt_not (jt_tru rfl (je_callB call_isiAll (by exact isiD_ok Z.tab) Z.b_isinstance (by decide +kernel) (ja_cons (je_var 0) (ja_cons (je_ty Z.b_tuple (by decide +kernel)) ja_nil))))) (jw_or (jt_cmp ((op_neAll u64).or (op_neO (rc_eqO Z.tab rfl (tab_EQ_Till_Town Z)) (hr.mono (by decide)))) (neD_ok.or eqOD_ok) (je_callB (call_lenAll.or (call_lenO (tab_LN_Town Z) (hr.mono (by decide)))) (lenD_ok.or lenOD_ok) Z.b_len boot_len (ja_cons (je_var 0) ja_nil)) je_int (nomark _)) (pw_or1 (jt_not (jt_tru rfl (je_callB (cr_all rfl) allD_ok Z.b_all (by decide +kernel) (ja_cons (je_lc (own := [((PySem.Str.ofString "name"), 2)]) (g := (gName 2)) rfl nd (ji_seq rfl (je_var 0)) (blkOk_by (own := [((PySem.Str.ofString "name"), 2)]) (N := N_is_link) (sc := defScope s_is_link) (by decide +kernel)) (by exact fun _ => (tv_name (by decide))) (fun _ _ _ _ _ => (pg_name (i := 2) nd rfl (by first | exact Or.inl rfl | exact Or.inr rfl))) (fun _ _ _ _ _ _ => jts_nil) (fun _ _ _ _ _ _ => (je_callB call_isiAll (by exact isiD_ok Z.tab) Z.b_isinstance (by decide +kernel) (ja_cons (je_var 2) (ja_cons (je_ty Z.b_str (by decide +kernel)) ja_nil))))) ja_nil)))))))).pt (js_one (js_ret je_bl)) js_nil) (js_one (js_ret (je_and (je_cmp ((op_inB u65).or (op_inO (tab_IN_Town Z) (hr.mono (by decide)))) (inD_ok.or eqOD_ok) (je_ix rfl u1 (je_var 0) je_int) (je_var 1) rfl) (je_and (je_cmp ((op_inB u65).or (op_inO (tab_IN_Town Z) (hr.mono (by decide)))) (inD_ok.or eqOD_ok) (je_ix rfl u1 (je_var 0) je_int) (je_var 1) rfl) (pe_one (je_cmp op_ltD ltD_ok (je_ix rfl u1 (je_var 0) je_int) (je_ix rfl u1 (je_var 0) je_int) (nomark _))))))))
theorem fact_is_link (Z : Fx K mg) : FnFact P w K mg base (G K) (PySem.Str.ofString "is_link") 2 8 P_is_link f_is_link := by
  obtain ⟨fd, F⟩ := Z.d_is_link
  exact fact_of F Z.g_is_link (fun _ _ _ _ _ _ us hl => match us, hl with | [_, _], _ => rfl) (okf_is_link Z F)
theorem sc_checked_links : FnScope N_checked_links P_checked_links (defScope s_checked_links) := ⟨rfl, rfl, rfl, by decide +kernel, rfl, by decide +kernel, by decide +kernel⟩
theorem okf_checked_links (Z : Fx K mg) {fd : FuncData} (F : FunD K (PySem.Str.ofString "checked_links") (PySem.Str.ofString "checked_links") (defArgs s_checked_links) (defBody s_checked_links) (defScope s_checked_links) [] [] (He.fAd K ((PySem.Str.ofString "checked_links"), none)) fd) : FnOkG P w K mg base 9 (He.fAd K ((PySem.Str.ofString "checked_links"), none)) fd P_checked_links (spF (G K) 2 f_checked_links) := by
  refine okf_of F sc_checked_links rfl rfl fun cdv A outer s H vs E U hr => ?_
  have nd := (sc_checked_links).nd
  have u1 := hu1 hr; have u64 := hu64 hr; have u65 := hu65 hr; have u190 := hu190 hr; have gd := hr.gd
  have tk : Takes (cxOf (L2.CX P w) P w K mg base N_checked_links (PySem.Str.ofString "checked_links") (defScope s_checked_links) (He.fAd K ((PySem.Str.ofString "checked_links"), none)) cdv A outer s H E) (fun cls d _ H' => E cls d H') := takes_of rfl rfl rfl rfl
  have hp : PassesOwn (model P w) (A.deeper (envOfC (PySem.Str.ofString "checked_links") (defScope s_checked_links) s.heap.objs.size (He.fAd K ((PySem.Str.ofString "checked_links"), none)) cdv)) (envOfC (PySem.Str.ofString "checked_links") (defScope s_checked_links) s.heap.objs.size (He.fAd K ((PySem.Str.ofString "checked_links"), none)) cdv) (cxOf (L2.CX P w) P w K mg base N_checked_links (PySem.Str.ofString "checked_links") (defScope s_checked_links) (He.fAd K ((PySem.Str.ofString "checked_links"), none)) cdv A outer s H E).xe := passes_of (X := (cxOf (L2.CX P w) P w K mg base N_checked_links (PySem.Str.ofString "checked_links") (defScope s_checked_links) (He.fAd K ((PySem.Str.ofString "checked_links"), none)) cdv A outer s H E)) rfl
  exact (js_cons (js_if (jt_not (jt_tru rfl (je_callB call_isiAll (by exact isiD_ok Z.tab) Z.b_isinstance (by decide +kernel) (ja_cons (je_var 0) (ja_cons (je_tup (ja_cons (je_ty Z.b_list (by decide +kernel)) (ja_cons (je_ty Z.b_tuple (by decide +kernel)) ja_nil))) ja_nil))))) (js_one (js_raise rfl tk (xc_BadLink Z) (hr.mono (by decide)) je_non)) js_nil) (js_cons (js_for hp rfl (ji_enm rfl Z.b_enumerate (ja_cons (je_var 0) ja_nil)) (pg_tup rfl (pgs_cons (pg_name (i := 3) nd rfl (by first | exact Or.inl rfl | exact Or.inr rfl)) (pgs_cons (pg_name (i := 4) nd rfl (by first | exact Or.inl rfl | exact Or.inr rfl)) pgs_nil))) (tg_tup (tgs_cons tg_name (tgs_cons tg_name tgs_nil))) (js_one (js_if ((jw_or (jt_not (jt_tru rfl (je_callF tk (fact_is_link Z) (hr.mono (by decide)) (ja_cons (je_var 4) (ja_cons (je_var 1) ja_nil))))) (pw_or1 (jt_cmp ((op_inB u65).or (op_inO (tab_IN_Town Z) (hr.mono (by decide)))) (inD_ok.or eqOD_ok) (je_var 4) (je_sl rfl (je_var 0) .none (.some (je_var 3))) rfl)))).pt (js_one (js_raise rfl tk (xc_BadLink Z) (hr.mono (by decide)) (je_var 3))) js_nil))) (js_cons (js_set (i := 2) nd (by first | exact Or.inl rfl | exact Or.inr rfl) (je_dc (own := [((PySem.Str.ofString "value"), 4)]) (g := (gName 4)) rfl nd (ji_seq rfl (je_var 0)) (blkOk_by (own := [((PySem.Str.ofString "value"), 4)]) (N := N_checked_links) (sc := defScope s_checked_links) (by decide +kernel)) (by exact fun _ => (tv_name (by decide))) (fun _ _ _ _ _ => (pg_name (i := 4) nd rfl (by first | exact Or.inl rfl | exact Or.inr rfl))) (fun _ _ _ _ _ _ => jts_nil) (fun _ _ _ _ _ _ => (je_mt PySem.F.plainAttrs_str PySem.F.slot_str_join PySem.F.type_str_join mt_join joinD_ok rfl je_str (ja_cons (je_var 4) ja_nil))) (fun _ _ _ _ _ _ => (je_var 4)))) (js_one (js_ret (je_callTy call_tuple_of tupleD_ok Z.b_tuple (by decide +kernel) (ja_cons (je_lc (own := [((PySem.Str.ofString "text"), 5)]) (g := (gName 5)) rfl nd (ji_seq rfl (je_callB cr_sortedS sortedD_ok Z.b_sorted (by decide +kernel) (ja_cons (je_lcK (own := [((PySem.Str.ofString "text"), 5)]) (g := (gName 5)) 2 rfl nd (blkOk_by (own := [((PySem.Str.ofString "text"), 5)]) (N := N_checked_links) (sc := defScope s_checked_links) (by decide +kernel)) (by exact fun _ => (tv_name (by decide))) (fun _ _ _ _ _ => (pg_name (i := 5) nd rfl (by first | exact Or.inl rfl | exact Or.inr rfl))) (fun _ _ _ _ _ _ => jts_nil) (fun _ _ _ _ _ _ => (je_callTy call_strAll strD_ok Z.b_str (by decide +kernel) (ja_cons (je_var 5) ja_nil)))) ja_nil))) (blkOk_by (own := [((PySem.Str.ofString "text"), 5)]) (N := N_checked_links) (sc := defScope s_checked_links) (by decide +kernel)) (by exact fun _ => (tv_name (by decide))) (fun _ _ _ _ _ => (pg_name (i := 5) nd rfl (by first | exact Or.inl rfl | exact Or.inr rfl))) (fun _ _ _ _ _ _ => jts_nil) (fun _ _ _ _ _ _ => (je_ixO takes0 (tab_GI_Town Z) (hr.mono (by decide)) rfl u1 (je_var 2) (je_var 5)))) ja_nil)))))))
theorem fact_checked_links (Z : Fx K mg) : FnFact P w K mg base (G K) (PySem.Str.ofString "checked_links") 2 9 P_checked_links f_checked_links := by
  obtain ⟨fd, F⟩ := Z.d_checked_links
  exact fact_of F Z.g_checked_links (fun _ _ _ _ _ _ us hl => match us, hl with | [_, _], _ => rfl) (okf_checked_links Z F)
theorem sc_Town_names : FnScope N_Town_names P_Town_names (defScope s_Town_names) := ⟨rfl, rfl, rfl, by decide +kernel, rfl, by decide +kernel, by decide +kernel⟩
theorem okf_Town_names (Z : Fx K mg) {fd : FuncData} (F : FunD K (PySem.Str.ofString "names") (PySem.Str.ofString "Town.names") (defArgs s_Town_names) (defBody s_Town_names) (defScope s_Town_names) [] [] (He.fAd K ((PySem.Str.ofString "Town"), some (PySem.Str.ofString "names"))) fd) : FnOkG P w K mg base 1 (He.fAd K ((PySem.Str.ofString "Town"), some (PySem.Str.ofString "names"))) fd P_Town_names (spF (G K) 1 f_Town_names) := by
  refine okf_of F sc_Town_names rfl rfl fun cdv A outer s H vs E U hr => ?_
  have nd := (sc_Town_names).nd
  have u1 := hu1 hr; have u64 := hu64 hr; have u65 := hu65 hr; have u190 := hu190 hr; have gd := hr.gd
  have tk : Takes (cxOf (L2.CX P w) P w K mg base N_Town_names (PySem.Str.ofString "Town.names") (defScope s_Town_names) (He.fAd K ((PySem.Str.ofString "Town"), some (PySem.Str.ofString "names"))) cdv A outer s H E) (fun cls d _ H' => E cls d H') := takes_of rfl rfl rfl rfl
  have hp : PassesOwn (model P w) (A.deeper (envOfC (PySem.Str.ofString "Town.names") (defScope s_Town_names) s.heap.objs.size (He.fAd K ((PySem.Str.ofString "Town"), some (PySem.Str.ofString "names"))) cdv)) (envOfC (PySem.Str.ofString "Town.names") (defScope s_Town_names) s.heap.objs.size (He.fAd K ((PySem.Str.ofString "Town"), some (PySem.Str.ofString "names"))) cdv) (cxOf (L2.CX P w) P w K mg base N_Town_names (PySem.Str.ofString "Town.names") (defScope s_Town_names) (He.fAd K ((PySem.Str.ofString "Town"), some (PySem.Str.ofString "names"))) cdv A outer s H E).xe := passes_of (X := (cxOf (L2.CX P w) P w K mg base N_Town_names (PySem.Str.ofString "Town.names") (defScope s_Town_names) (He.fAd K ((PySem.Str.ofString "Town"), some (PySem.Str.ofString "names"))) cdv A outer s H E)) rfl
  exact (js_one (js_ret (je_lc (own := [((PySem.Str.ofString "till"), 1)]) (g := (gName 1)) rfl nd (ji_seq rfl (je_fld Z.tab rfl (je_var 0))) (blkOk_by (own := [((PySem.Str.ofString "till"), 1)]) (N := N_Town_names) (sc := defScope s_Town_names) (by decide +kernel)) (by exact fun _ => (tv_name (by decide))) (fun _ _ _ _ _ => (pg_name (i := 1) nd rfl (by first | exact Or.inl rfl | exact Or.inr rfl))) (fun _ _ _ _ _ _ => jts_nil) (fun _ _ _ _ _ _ => (je_fld Z.tab rfl (je_var 1))))))
theorem fact_Town_names (Z : Fx K mg) : MtFact P w K mg base (G K) C_Town (PySem.Str.ofString "names") 1 1 P_Town_names f_Town_names := by
  obtain ⟨fd, F⟩ := Z.d_Town_names
  exact ⟨_, fd, Z.mt_Town_names, F.bindsN fun _ _ _ _ _ _ us hl => match us, hl with | [_], _ => rfl, okf_Town_names Z F⟩
theorem sc_has_kind : FnScope N_has_kind P_has_kind (defScope s_has_kind) := ⟨rfl, rfl, rfl, by decide +kernel, rfl, by decide +kernel, by decide +kernel⟩
theorem okf_has_kind (Z : Fx K mg) {fd : FuncData} (F : FunD K (PySem.Str.ofString "has_kind") (PySem.Str.ofString "has_kind") (defArgs s_has_kind) (defBody s_has_kind) (defScope s_has_kind) [] [] (He.fAd K ((PySem.Str.ofString "has_kind"), none)) fd) : FnOkG P w K mg base 7 (He.fAd K ((PySem.Str.ofString "has_kind"), none)) fd P_has_kind (spF (G K) 3 f_has_kind) := by
  refine okf_of F sc_has_kind rfl rfl fun cdv A outer s H vs E U hr => ?_
  have nd := (sc_has_kind).nd
  have u1 := hu1 hr; have u64 := hu64 hr; have u65 := hu65 hr; have u190 := hu190 hr; have gd := hr.gd
  have tk : Takes (cxOf (L2.CX P w) P w K mg base N_has_kind (PySem.Str.ofString "has_kind") (defScope s_has_kind) (He.fAd K ((PySem.Str.ofString "has_kind"), none)) cdv A outer s H E) (fun cls d _ H' => E cls d H') := takes_of rfl rfl rfl rfl
  have hp : PassesOwn (model P w) (A.deeper (envOfC (PySem.Str.ofString "has_kind") (defScope s_has_kind) s.heap.objs.size (He.fAd K ((PySem.Str.ofString "has_kind"), none)) cdv)) (envOfC (PySem.Str.ofString "has_kind") (defScope s_has_kind) s.heap.objs.size (He.fAd K ((PySem.Str.ofString "has_kind"), none)) cdv) (cxOf (L2.CX P w) P w K mg base N_has_kind (PySem.Str.ofString "has_kind") (defScope s_has_kind) (He.fAd K ((PySem.Str.ofString "has_kind"), none)) cdv A outer s H E).xe := passes_of (X := (cxOf (L2.CX P w) P w K mg base N_has_kind (PySem.Str.ofString "has_kind") (defScope s_has_kind) (He.fAd K ((PySem.Str.ofString "has_kind"), none)) cdv A outer s H E)) rfl
  exact (js_one (js_ret (je_and (je_callB call_isiAll (by exact isiD_ok Z.tab) Z.b_isinstance (by decide +kernel) (ja_cons (je_var 0) (ja_cons (je_ty Z.b_tuple (by decide +kernel)) ja_nil))) (je_and (je_cmp ((op_eqAll u64).or (op_eqO (rc_eqO Z.tab rfl (tab_EQ_Till_Town Z)) (hr.mono (by decide)))) (eqD_ok.or eqOD_ok) (je_callB (call_lenAll.or (call_lenO (tab_LN_Town Z) (hr.mono (by decide)))) (lenD_ok.or lenOD_ok) Z.b_len boot_len (ja_cons (je_var 0) ja_nil)) (je_var 2) (nomark _)) (je_and (je_callB call_isiAll (by exact isiD_ok Z.tab) Z.b_isinstance (by decide +kernel) (ja_cons (je_ix rfl u1 (je_var 0) je_int) (ja_cons (je_ty Z.b_str (by decide +kernel)) ja_nil))) (pe_one (je_cmp ((op_eqAll u64).or (op_eqO (rc_eqO Z.tab rfl (tab_EQ_Till_Town Z)) (hr.mono (by decide)))) (eqD_ok.or eqOD_ok) (je_ix rfl u1 (je_var 0) je_int) (je_var 1) (nomark _))))))))
theorem fact_has_kind (Z : Fx K mg) : FnFact P w K mg base (G K) (PySem.Str.ofString "has_kind") 3 7 P_has_kind f_has_kind := by
  obtain ⟨fd, F⟩ := Z.d_has_kind
  exact fact_of F Z.g_has_kind (fun _ _ _ _ _ _ us hl => match us, hl with | [_, _, _], _ => rfl) (okf_has_kind Z F)
theorem sc_is_memory : FnScope N_is_memory P_is_memory (defScope s_is_memory) := ⟨rfl, rfl, rfl, by decide +kernel, rfl, by decide +kernel, by decide +kernel⟩
theorem okf_is_memory (Z : Fx K mg) {fd : FuncData} (F : FunD K (PySem.Str.ofString "is_memory") (PySem.Str.ofString "is_memory") (defArgs s_is_memory) (defBody s_is_memory) (defScope s_is_memory) [] [] (He.fAd K ((PySem.Str.ofString "is_memory"), none)) fd) : FnOkG P w K mg base 8 (He.fAd K ((PySem.Str.ofString "is_memory"), none)) fd P_is_memory (spF (G K) 1 f_is_memory) := by
  refine okf_of F sc_is_memory rfl rfl fun cdv A outer s H vs E U hr => ?_
  have nd := (sc_is_memory).nd
  have u1 := hu1 hr; have u64 := hu64 hr; have u65 := hu65 hr; have u190 := hu190 hr; have gd := hr.gd
  have tk : Takes (cxOf (L2.CX P w) P w K mg base N_is_memory (PySem.Str.ofString "is_memory") (defScope s_is_memory) (He.fAd K ((PySem.Str.ofString "is_memory"), none)) cdv A outer s H E) (fun cls d _ H' => E cls d H') := takes_of rfl rfl rfl rfl
  have hp : PassesOwn (model P w) (A.deeper (envOfC (PySem.Str.ofString "is_memory") (defScope s_is_memory) s.heap.objs.size (He.fAd K ((PySem.Str.ofString "is_memory"), none)) cdv)) (envOfC (PySem.Str.ofString "is_memory") (defScope s_is_memory) s.heap.objs.size (He.fAd K ((PySem.Str.ofString "is_memory"), none)) cdv) (cxOf (L2.CX P w) P w K mg base N_is_memory (PySem.Str.ofString "is_memory") (defScope s_is_memory) (He.fAd K ((PySem.Str.ofString "is_memory"), none)) cdv A outer s H E).xe := passes_of (X := (cxOf (L2.CX P w) P w K mg base N_is_memory (PySem.Str.ofString "is_memory") (defScope s_is_memory) (He.fAd K ((PySem.Str.ofString "is_memory"), none)) cdv A outer s H E)) rfl
  exact (js_cons (js_if (jt_tru rfl (je_callF tk (fact_has_kind Z) (hr.mono (by decide)) (ja_cons (je_var 0) (ja_cons je_str (ja_cons je_int ja_nil))))) (js_one (js_ret je_bl)) js_nil) (js_one (js_ret (je_and (je_or (je_callF tk (fact_has_kind Z) (hr.mono (by decide)) (ja_cons (je_var 0) (ja_cons je_str (ja_cons je_int ja_nil)))) (pe_one (je_callF tk (fact_has_kind Z) (hr.mono (by decide)) (ja_cons (je_var 0) (ja_cons je_str (ja_cons je_int ja_nil)))))) (pe_one (je_callF tk (fact_is_between Z) (hr.mono (by decide)) (ja_cons (je_ix rfl u1 (je_var 0) je_int) (ja_cons je_int (ja_cons (je_gint Z.c_MOST_LIMIT) ja_nil)))))))))
theorem fact_is_memory (Z : Fx K mg) : FnFact P w K mg base (G K) (PySem.Str.ofString "is_memory") 1 8 P_is_memory f_is_memory := by
  obtain ⟨fd, F⟩ := Z.d_is_memory
  exact fact_of F Z.g_is_memory (fun _ _ _ _ _ _ us hl => match us, hl with | [_], _ => rfl) (okf_is_memory Z F)
theorem sc_check_parts : FnScope N_check_parts P_check_parts (defScope s_check_parts) := ⟨rfl, rfl, rfl, by decide +kernel, rfl, by decide +kernel, by decide +kernel⟩
theorem okf_check_parts (Z : Fx K mg) {fd : FuncData} (F : FunD K (PySem.Str.ofString "check_parts") (PySem.Str.ofString "check_parts") (defArgs s_check_parts) (defBody s_check_parts) (defScope s_check_parts) [] [] (He.fAd K ((PySem.Str.ofString "check_parts"), none)) fd) : FnOkG P w K mg base 9 (He.fAd K ((PySem.Str.ofString "check_parts"), none)) fd P_check_parts (spF (G K) 4 f_check_parts) := by
  refine okf_of F sc_check_parts rfl rfl fun cdv A outer s H vs E U hr => ?_
  have nd := (sc_check_parts).nd
  have u1 := hu1 hr; have u64 := hu64 hr; have u65 := hu65 hr; have u190 := hu190 hr; have gd := hr.gd
  have tk : Takes (cxOf (L2.CX P w) P w K mg base N_check_parts (PySem.Str.ofString "check_parts") (defScope s_check_parts) (He.fAd K ((PySem.Str.ofString "check_parts"), none)) cdv A outer s H E) (fun cls d _ H' => E cls d H') := takes_of rfl rfl rfl rfl
  have hp : PassesOwn (model P w) (A.deeper (envOfC (PySem.Str.ofString "check_parts") (defScope s_check_parts) s.heap.objs.size (He.fAd K ((PySem.Str.ofString "check_parts"), none)) cdv)) (envOfC (PySem.Str.ofString "check_parts") (defScope s_check_parts) s.heap.objs.size (He.fAd K ((PySem.Str.ofString "check_parts"), none)) cdv) (cxOf (L2.CX P w) P w K mg base N_check_parts (PySem.Str.ofString "check_parts") (defScope s_check_parts) (He.fAd K ((PySem.Str.ofString "check_parts"), none)) cdv A outer s H E).xe := passes_of (X := (cxOf (L2.CX P w) P w K mg base N_check_parts (PySem.Str.ofString "check_parts") (defScope s_check_parts) (He.fAd K ((PySem.Str.ofString "check_parts"), none)) cdv A outer s H E)) rfl
  exact (js_cons (js_if (jt_not (jt_tru rfl (je_callF tk (fact_is_between Z) (hr.mono (by decide)) (ja_cons (je_var 0) (ja_cons je_int (ja_cons (je_gint Z.c_MOST_MONEY) ja_nil)))))) (js_one (js_raise rfl tk (xc_BadPart Z) (hr.mono (by decide)) je_str)) js_nil) (js_cons (js_if (jt_not (jt_tru rfl (je_callF tk (fact_is_memory Z) (hr.mono (by decide)) (ja_cons (je_var 1) ja_nil)))) (js_one (js_raise rfl tk (xc_BadPart Z) (hr.mono (by decide)) je_str)) js_nil) (js_cons (js_if (jt_not (jt_tru rfl (je_callF tk (fact_is_between Z) (hr.mono (by decide)) (ja_cons (je_var 2) (ja_cons je_int (ja_cons (je_gint Z.c_MOST_TOPS) ja_nil)))))) (js_one (js_raise rfl tk (xc_BadPart Z) (hr.mono (by decide)) je_str)) js_nil) (js_one (js_if (jt_not (jt_tru rfl (je_callB call_isiAll (by exact isiD_ok Z.tab) Z.b_isinstance (by decide +kernel) (ja_cons (je_var 3) (ja_cons (je_ty Z.b_bool (by decide +kernel)) ja_nil))))) (js_one (js_raise rfl tk (xc_BadPart Z) (hr.mono (by decide)) je_str)) js_nil)))))
theorem fact_check_parts (Z : Fx K mg) : FnFact P w K mg base (G K) (PySem.Str.ofString "check_parts") 4 9 P_check_parts f_check_parts := by
  obtain ⟨fd, F⟩ := Z.d_check_parts
  exact fact_of F Z.g_check_parts (fun _ _ _ _ _ _ us hl => match us, hl with | [_, _, _, _], _ => rfl) (okf_check_parts Z F)
theorem sc_Town___init__ : FnScope N_Town___init__ P_Town___init__ (defScope s_Town___init__) := ⟨rfl, rfl, rfl, by decide +kernel, rfl, by decide +kernel, by decide +kernel⟩
theorem okf_Town___init__ (Z : Fx K mg) {fd : FuncData} (F : FunD K (PySem.Str.ofString "__init__") (PySem.Str.ofString "Town.__init__") (defArgs s_Town___init__) (defBody s_Town___init__) (defScope s_Town___init__) [] [((PySem.Str.ofString "links"), .ref (kwAt ((PySem.Str.ofString "Town"), some (PySem.Str.ofString "__init__")) (PySem.Str.ofString "links") K)), ((PySem.Str.ofString "money"), .int 0), ((PySem.Str.ofString "memory"), .ref (kwAt ((PySem.Str.ofString "Town"), some (PySem.Str.ofString "__init__")) (PySem.Str.ofString "memory") K)), ((PySem.Str.ofString "tops"), .int 0), ((PySem.Str.ofString "numbered"), .bl true)] (He.fAd K ((PySem.Str.ofString "Town"), some (PySem.Str.ofString "__init__"))) fd) : FnOkG P w K mg base 10 (He.fAd K ((PySem.Str.ofString "Town"), some (PySem.Str.ofString "__init__"))) fd P_Town___init__ (spF (G K) 7 f_Town___init__) := by
  refine okf_of F sc_Town___init__ rfl rfl fun cdv A outer s H vs E U hr => ?_
  have nd := (sc_Town___init__).nd
  have u1 := hu1 hr; have u64 := hu64 hr; have u65 := hu65 hr; have u190 := hu190 hr; have gd := hr.gd
  have tk : Takes (cxOf (L2.CX P w) P w K mg base N_Town___init__ (PySem.Str.ofString "Town.__init__") (defScope s_Town___init__) (He.fAd K ((PySem.Str.ofString "Town"), some (PySem.Str.ofString "__init__"))) cdv A outer s H E) (fun cls d _ H' => E cls d H') := takes_of rfl rfl rfl rfl
  have hp : PassesOwn (model P w) (A.deeper (envOfC (PySem.Str.ofString "Town.__init__") (defScope s_Town___init__) s.heap.objs.size (He.fAd K ((PySem.Str.ofString "Town"), some (PySem.Str.ofString "__init__"))) cdv)) (envOfC (PySem.Str.ofString "Town.__init__") (defScope s_Town___init__) s.heap.objs.size (He.fAd K ((PySem.Str.ofString "Town"), some (PySem.Str.ofString "__init__"))) cdv) (cxOf (L2.CX P w) P w K mg base N_Town___init__ (PySem.Str.ofString "Town.__init__") (defScope s_Town___init__) (He.fAd K ((PySem.Str.ofString "Town"), some (PySem.Str.ofString "__init__"))) cdv A outer s H E).xe := passes_of (X := (cxOf (L2.CX P w) P w K mg base N_Town___init__ (PySem.Str.ofString "Town.__init__") (defScope s_Town___init__) (He.fAd K ((PySem.Str.ofString "Town"), some (PySem.Str.ofString "__init__"))) cdv A outer s H E)) rfl
  exact (js_cons (js_fld Z.tab rfl (je_var 0) (je_callF tk (fact_checked_tills Z) (hr.mono (by decide)) (ja_cons (je_var 1) ja_nil))) (js_cons (js_fld Z.tab rfl (je_var 0) (je_callF tk (fact_checked_links Z) (hr.mono (by decide)) (ja_cons (je_var 2) (ja_cons (je_meth0 tk (fact_Town_names Z) (by exact Z.tab.cls C_Town (by decide)) (hr.mono (by decide)) (je_var 0)) ja_nil)))) (js_cons (js_expr (je_callF tk (fact_check_parts Z) (hr.mono (by decide)) (ja_cons (je_var 3) (ja_cons (je_var 4) (ja_cons (je_var 5) (ja_cons (je_var 6) ja_nil)))))) (js_cons (js_fld Z.tab rfl (je_var 0) (je_var 3)) (js_cons (js_fld Z.tab rfl (je_var 0) (je_var 4)) (js_cons (js_fld Z.tab rfl (je_var 0) (je_var 5)) (js_one (js_fld Z.tab rfl (je_var 0) (je_var 6)))))))))
theorem w1_Town___init__ (Z : Fx K mg) : MwFact P w K mg base (G K) (PySem.Str.ofString "Town") C_Town 7 10 1 [(PySem.Str.ofString "links"), (PySem.Str.ofString "money"), (PySem.Str.ofString "memory"), (PySem.Str.ofString "tops"), (PySem.Str.ofString "numbered")] [0, 1, 2, 3, 4, 5] [] f_Town___init__ := by
  obtain ⟨fd, F⟩ := Z.d_Town___init__
  exact ⟨_, fd, P_Town___init__, _, Z.gc_Town, Z.mk_Town, (ways_all F 2 rfl fun _ _ _ _ _ _ us ws h1 h2 => match us, ws, h1, h2 with | [_, _], [_, _, _, _, _], _, _ => rfl), (fun _ => .nil), okf_Town___init__ Z F⟩
theorem sc__law_made : FnScope N__law_made P__law_made (defScope s__law_made) := ⟨rfl, rfl, rfl, by decide +kernel, rfl, by decide +kernel, by decide +kernel⟩
theorem okf__law_made (Z : Fx K mg) {fd : FuncData} (F : FunD K (PySem.Str.ofString "_law_made") (PySem.Str.ofString "_law_made") (defArgs s__law_made) (defBody s__law_made) (defScope s__law_made) [] [] (He.fAd K ((PySem.Str.ofString "_law_made"), none)) fd) : FnOkG P w K mg base 12 (He.fAd K ((PySem.Str.ofString "_law_made"), none)) fd P__law_made (spF (G K) 1 f__law_made) := by
  refine okf_of F sc__law_made rfl rfl fun cdv A outer s H vs E U hr => ?_
  have nd := (sc__law_made).nd
  have u1 := hu1 hr; have u64 := hu64 hr; have u65 := hu65 hr; have u190 := hu190 hr; have gd := hr.gd
  have tk : Takes (cxOf (L2.CX P w) P w K mg base N__law_made (PySem.Str.ofString "_law_made") (defScope s__law_made) (He.fAd K ((PySem.Str.ofString "_law_made"), none)) cdv A outer s H E) (fun cls d _ H' => E cls d H') := takes_of rfl rfl rfl rfl
  have hp : PassesOwn (model P w) (A.deeper (envOfC (PySem.Str.ofString "_law_made") (defScope s__law_made) s.heap.objs.size (He.fAd K ((PySem.Str.ofString "_law_made"), none)) cdv)) (envOfC (PySem.Str.ofString "_law_made") (defScope s__law_made) s.heap.objs.size (He.fAd K ((PySem.Str.ofString "_law_made"), none)) cdv) (cxOf (L2.CX P w) P w K mg base N__law_made (PySem.Str.ofString "_law_made") (defScope s__law_made) (He.fAd K ((PySem.Str.ofString "_law_made"), none)) cdv A outer s H E).xe := passes_of (X := (cxOf (L2.CX P w) P w K mg base N__law_made (PySem.Str.ofString "_law_made") (defScope s__law_made) (He.fAd K ((PySem.Str.ofString "_law_made"), none)) cdv A outer s H E)) rfl
  exact (js_cons (by first | exact (js_setLc (i := 1) (own := [((PySem.Str.ofString "_law_name"), 6), ((PySem.Str.ofString "_law_limit"), 7), ((PySem.Str.ofString "_law_heed"), 8)]) (g := (gTup K 3 (gCons (gName 6) (gCons (gName 7) (gCons (gName 8) gNil))))) rfl nd rfl (sw_true rfl rfl rfl (by decide +kernel)) (ji_seq rfl (je_ixO tk (tab_GI_Town Z) (hr.mono (by decide)) rfl u1 (je_var 0) je_str)) (blkOk_by (own := [((PySem.Str.ofString "_law_name"), 6), ((PySem.Str.ofString "_law_limit"), 7), ((PySem.Str.ofString "_law_heed"), 8)]) (N := N__law_made) (sc := defScope s__law_made) (by decide +kernel)) (by exact fun _ => (tv_tup (tvs_cons (tv_name (by decide)) (tvs_cons (tv_name (by decide)) (tvs_cons (tv_name (by decide)) tvs_nil))))) (fun _ _ _ _ _ => (pg_tup rfl (pgs_cons (pg_name (i := 6) nd rfl (by first | exact Or.inl rfl | exact Or.inr rfl)) (pgs_cons (pg_name (i := 7) nd rfl (by first | exact Or.inl rfl | exact Or.inr rfl)) (pgs_cons (pg_name (i := 8) nd rfl (by first | exact Or.inl rfl | exact Or.inr rfl)) pgs_nil))))) (fun _ _ _ _ _ _ => jts_nil) (fun _ _ _ _ _ _ => (je_makeW takes0 (w0_Till___init__ Z) (hr.mono (by decide)) (ja_cons (je_var 6) (ja_cons (je_var 7) ja_nil)) (jk_cons (je_var 8) jk_nil)))) | exact (js_set (i := 1) nd (by first | exact Or.inl rfl | exact Or.inr rfl) (je_lc (own := [((PySem.Str.ofString "_law_name"), 6), ((PySem.Str.ofString "_law_limit"), 7), ((PySem.Str.ofString "_law_heed"), 8)]) (g := (gTup K 3 (gCons (gName 6) (gCons (gName 7) (gCons (gName 8) gNil))))) rfl nd (ji_seq rfl (je_ixO tk (tab_GI_Town Z) (hr.mono (by decide)) rfl u1 (je_var 0) je_str)) (blkOk_by (own := [((PySem.Str.ofString "_law_name"), 6), ((PySem.Str.ofString "_law_limit"), 7), ((PySem.Str.ofString "_law_heed"), 8)]) (N := N__law_made) (sc := defScope s__law_made) (by decide +kernel)) (by exact fun _ => (tv_tup (tvs_cons (tv_name (by decide)) (tvs_cons (tv_name (by decide)) (tvs_cons (tv_name (by decide)) tvs_nil))))) (fun _ _ _ _ _ => (pg_tup rfl (pgs_cons (pg_name (i := 6) nd rfl (by first | exact Or.inl rfl | exact Or.inr rfl)) (pgs_cons (pg_name (i := 7) nd rfl (by first | exact Or.inl rfl | exact Or.inr rfl)) (pgs_cons (pg_name (i := 8) nd rfl (by first | exact Or.inl rfl | exact Or.inr rfl)) pgs_nil))))) (fun _ _ _ _ _ _ => jts_nil) (fun _ _ _ _ _ _ => (je_makeW takes0 (w0_Till___init__ Z) (hr.mono (by decide)) (ja_cons (je_var 6) (ja_cons (je_var 7) ja_nil)) (jk_cons (je_var 8) jk_nil)))))) (js_cons (by first | exact (js_par2 rfl nd (jn_cons (je_ixO tk (tab_GI_Town Z) (hr.mono (by decide)) rfl u1 (je_var 0) je_str) (fun _ => (jn_cons (je_ixO tk (tab_GI_Town Z) (hr.mono (by decide)) rfl u1 (je_var 0) je_str) (fun _ => jn_nil))))) | exact (js_parN rfl (pg_tup rfl (pgs_cons (pg_name (i := 2) nd rfl (by first | exact Or.inl rfl | exact Or.inr rfl)) (pgs_cons (pg_name (i := 3) nd rfl (by first | exact Or.inl rfl | exact Or.inr rfl)) pgs_nil))) rfl (by decide) (jn_cons (je_ixO tk (tab_GI_Town Z) (hr.mono (by decide)) rfl u1 (je_var 0) je_str) (fun _ => (jn_cons (je_ixO tk (tab_GI_Town Z) (hr.mono (by decide)) rfl u1 (je_var 0) je_str) (fun _ => jn_nil)))))) (js_cons (by first | exact (js_par2 rfl nd (jn_cons (je_ixO tk (tab_GI_Town Z) (hr.mono (by decide)) rfl u1 (je_var 0) je_str) (fun _ => (jn_cons (je_ixO tk (tab_GI_Town Z) (hr.mono (by decide)) rfl u1 (je_var 0) je_str) (fun _ => jn_nil))))) | exact (js_parN rfl (pg_tup rfl (pgs_cons (pg_name (i := 4) nd rfl (by first | exact Or.inl rfl | exact Or.inr rfl)) (pgs_cons (pg_name (i := 5) nd rfl (by first | exact Or.inl rfl | exact Or.inr rfl)) pgs_nil))) rfl (by decide) (jn_cons (je_ixO tk (tab_GI_Town Z) (hr.mono (by decide)) rfl u1 (je_var 0) je_str) (fun _ => (jn_cons (je_ixO tk (tab_GI_Town Z) (hr.mono (by decide)) rfl u1 (je_var 0) je_str) (fun _ => jn_nil)))))) (js_one (js_ret (je_makeW tk (w1_Town___init__ Z) (hr.mono (by decide)) (ja_cons (je_var 1) ja_nil) (jk_cons (je_ixO tk (tab_GI_Town Z) (hr.mono (by decide)) rfl u1 (je_var 0) je_str) (jk_cons (je_var 2) (jk_cons (je_var 3) (jk_cons (je_var 4) (jk_cons (je_var 5) jk_nil)))))))))))
theorem fact__law_made (Z : Fx K mg) : FnFact P w K mg base (G K) (PySem.Str.ofString "_law_made") 1 12 P__law_made f__law_made := by
  obtain ⟨fd, F⟩ := Z.d__law_made
  exact fact_of F Z.g__law_made (fun _ _ _ _ _ _ us hl => match us, hl with | [_], _ => rfl) (okf__law_made Z F)
theorem sc__law_touch : FnScope N__law_touch P__law_touch (defScope s__law_touch) := ⟨rfl, rfl, rfl, by decide +kernel, rfl, by decide +kernel, by decide +kernel⟩
theorem okf__law_touch (Z : Fx K mg) {fd : FuncData} (F : FunD K (PySem.Str.ofString "_law_touch") (PySem.Str.ofString "_law_touch") (defArgs s__law_touch) (defBody s__law_touch) (defScope s__law_touch) [] [] (He.fAd K ((PySem.Str.ofString "_law_touch"), none)) fd) : FnOkG P w K mg base 8 (He.fAd K ((PySem.Str.ofString "_law_touch"), none)) fd P__law_touch (spF (G K) 3 f__law_touch) := by
  refine okf_of F sc__law_touch rfl rfl fun cdv A outer s H vs E U hr => ?_
  have nd := (sc__law_touch).nd
  have u1 := hu1 hr; have u64 := hu64 hr; have u65 := hu65 hr; have u190 := hu190 hr; have gd := hr.gd
  have tk : Takes (cxOf (L2.CX P w) P w K mg base N__law_touch (PySem.Str.ofString "_law_touch") (defScope s__law_touch) (He.fAd K ((PySem.Str.ofString "_law_touch"), none)) cdv A outer s H E) (fun cls d _ H' => E cls d H') := takes_of rfl rfl rfl rfl
  have hp : PassesOwn (model P w) (A.deeper (envOfC (PySem.Str.ofString "_law_touch") (defScope s__law_touch) s.heap.objs.size (He.fAd K ((PySem.Str.ofString "_law_touch"), none)) cdv)) (envOfC (PySem.Str.ofString "_law_touch") (defScope s__law_touch) s.heap.objs.size (He.fAd K ((PySem.Str.ofString "_law_touch"), none)) cdv) (cxOf (L2.CX P w) P w K mg base N__law_touch (PySem.Str.ofString "_law_touch") (defScope s__law_touch) (He.fAd K ((PySem.Str.ofString "_law_touch"), none)) cdv A outer s H E).xe := passes_of (X := (cxOf (L2.CX P w) P w K mg base N__law_touch (PySem.Str.ofString "_law_touch") (defScope s__law_touch) (He.fAd K ((PySem.Str.ofString "_law_touch"), none)) cdv A outer s H E)) rfl
  exact (js_one (js_ret (je_or (je_cmp ((op_eqAll u64).or (op_eqO (rc_eqO Z.tab rfl (tab_EQ_Till_Town Z)) (hr.mono (by decide)))) (eqD_ok.or eqOD_ok) (je_var 1) (je_var 2) (nomark _)) (je_or (je_cmp ((op_inB u65).or (op_inO (tab_IN_Town Z) (hr.mono (by decide)))) (inD_ok.or eqOD_ok) (je_tup (ja_cons (je_var 1) (ja_cons (je_var 2) ja_nil))) (je_var 0) rfl) (pe_one (je_cmp ((op_inB u65).or (op_inO (tab_IN_Town Z) (hr.mono (by decide)))) (inD_ok.or eqOD_ok) (je_tup (ja_cons (je_var 2) (ja_cons (je_var 1) ja_nil))) (je_var 0) rfl))))))
theorem fact__law_touch (Z : Fx K mg) : FnFact P w K mg base (G K) (PySem.Str.ofString "_law_touch") 3 8 P__law_touch f__law_touch := by
  obtain ⟨fd, F⟩ := Z.d__law_touch
  exact fact_of F Z.g__law_touch (fun _ _ _ _ _ _ us hl => match us, hl with | [_, _, _], _ => rfl) (okf__law_touch Z F)
theorem sc__law_leads : FnScope N__law_leads P__law_leads (defScope s__law_leads) := ⟨rfl, rfl, rfl, by decide +kernel, rfl, by decide +kernel, by decide +kernel⟩
theorem okf__law_leads (Z : Fx K mg) {fd : FuncData} (F : FunD K (PySem.Str.ofString "_law_leads") (PySem.Str.ofString "_law_leads") (defArgs s__law_leads) (defBody s__law_leads) (defScope s__law_leads) [] [] (He.fAd K ((PySem.Str.ofString "_law_leads"), none)) fd) : FnOkG P w K mg base 9 (He.fAd K ((PySem.Str.ofString "_law_leads"), none)) fd P__law_leads (spF (G K) 4 f__law_leads) := by
  refine okf_of F sc__law_leads rfl rfl fun cdv A outer s H vs E U hr => ?_
  have nd := (sc__law_leads).nd
  have u1 := hu1 hr; have u64 := hu64 hr; have u65 := hu65 hr; have u190 := hu190 hr; have gd := hr.gd
  have tk : Takes (cxOf (L2.CX P w) P w K mg base N__law_leads (PySem.Str.ofString "_law_leads") (defScope s__law_leads) (He.fAd K ((PySem.Str.ofString "_law_leads"), none)) cdv A outer s H E) (fun cls d _ H' => E cls d H') := takes_of rfl rfl rfl rfl
  have hp : PassesOwn (model P w) (A.deeper (envOfC (PySem.Str.ofString "_law_leads") (defScope s__law_leads) s.heap.objs.size (He.fAd K ((PySem.Str.ofString "_law_leads"), none)) cdv)) (envOfC (PySem.Str.ofString "_law_leads") (defScope s__law_leads) s.heap.objs.size (He.fAd K ((PySem.Str.ofString "_law_leads"), none)) cdv) (cxOf (L2.CX P w) P w K mg base N__law_leads (PySem.Str.ofString "_law_leads") (defScope s__law_leads) (He.fAd K ((PySem.Str.ofString "_law_leads"), none)) cdv A outer s H E).xe := passes_of (X := (cxOf (L2.CX P w) P w K mg base N__law_leads (PySem.Str.ofString "_law_leads") (defScope s__law_leads) (He.fAd K ((PySem.Str.ofString "_law_leads"), none)) cdv A outer s H E)) rfl
  exact (js_cons (js_for hp rfl (ji_seq rfl (je_var 0)) (pg_name (i := 4) nd rfl (by first | exact Or.inl rfl | exact Or.inr rfl)) tg_name (js_one (js_for hp rfl (ji_seq rfl (je_var 0)) (pg_name (i := 5) nd rfl (by first | exact Or.inl rfl | exact Or.inr rfl)) tg_name (js_cons (js_set (i := 6) nd (by first | exact Or.inl rfl | exact Or.inr rfl) (je_lst (ja_cons (je_tup (ja_cons (je_var 2) (ja_cons (je_var 4) ja_nil))) (ja_cons (je_tup (ja_cons (je_var 4) (ja_cons (je_var 5) ja_nil))) (ja_cons (je_tup (ja_cons (je_var 5) (ja_cons (je_var 3) ja_nil))) ja_nil))))) (js_one (js_if (jt_cmp ((op_eqAll u64).or (op_eqO (rc_eqO Z.tab rfl (tab_EQ_Till_Town Z)) (hr.mono (by decide)))) (eqD_ok.or eqOD_ok) (je_lc (own := [((PySem.Str.ofString "_law_pair"), 7)]) (g := (gName 7)) rfl nd (ji_seq rfl (je_var 6)) (blkOk_by (own := [((PySem.Str.ofString "_law_pair"), 7)]) (N := N__law_leads) (sc := defScope s__law_leads) (by decide +kernel)) (by exact fun _ => (tv_name (by decide))) (fun _ _ _ _ _ => (pg_name (i := 7) nd rfl (by first | exact Or.inl rfl | exact Or.inr rfl))) (fun _ _ _ _ _ _ => (jts_one (jt_not (jt_tru rfl (je_callF takes0 (fact__law_touch Z) (hr.mono (by decide)) (ja_cons (je_var 1) (ja_cons (je_ix rfl u1 (je_var 7) je_int) (ja_cons (je_ix rfl u1 (je_var 7) je_int) ja_nil)))))))) (fun _ _ _ _ _ _ => (je_var 7))) (je_lst ja_nil) (nomark _)) (js_one (js_ret je_bl)) js_nil)))))) (js_one (js_ret je_bl)))
theorem fact__law_leads (Z : Fx K mg) : FnFact P w K mg base (G K) (PySem.Str.ofString "_law_leads") 4 9 P__law_leads f__law_leads := by
  obtain ⟨fd, F⟩ := Z.d__law_leads
  exact fact_of F Z.g__law_leads (fun _ _ _ _ _ _ us hl => match us, hl with | [_, _, _, _], _ => rfl) (okf__law_leads Z F)
theorem sc_Town_seat : FnScope N_Town_seat P_Town_seat (defScope s_Town_seat) := ⟨rfl, rfl, rfl, by decide +kernel, rfl, by decide +kernel, by decide +kernel⟩
theorem okf_Town_seat (Z : Fx K mg) {fd : FuncData} (F : FunD K (PySem.Str.ofString "seat") (PySem.Str.ofString "Town.seat") (defArgs s_Town_seat) (defBody s_Town_seat) (defScope s_Town_seat) [] [] (He.fAd K ((PySem.Str.ofString "Town"), some (PySem.Str.ofString "seat"))) fd) : FnOkG P w K mg base 8 (He.fAd K ((PySem.Str.ofString "Town"), some (PySem.Str.ofString "seat"))) fd P_Town_seat (spF (G K) 2 f_Town_seat) := by
  refine okf_of F sc_Town_seat rfl rfl fun cdv A outer s H vs E U hr => ?_
  have nd := (sc_Town_seat).nd
  have u1 := hu1 hr; have u64 := hu64 hr; have u65 := hu65 hr; have u190 := hu190 hr; have gd := hr.gd
  have tk : Takes (cxOf (L2.CX P w) P w K mg base N_Town_seat (PySem.Str.ofString "Town.seat") (defScope s_Town_seat) (He.fAd K ((PySem.Str.ofString "Town"), some (PySem.Str.ofString "seat"))) cdv A outer s H E) (fun cls d _ H' => E cls d H') := takes_of rfl rfl rfl rfl
  have hp : PassesOwn (model P w) (A.deeper (envOfC (PySem.Str.ofString "Town.seat") (defScope s_Town_seat) s.heap.objs.size (He.fAd K ((PySem.Str.ofString "Town"), some (PySem.Str.ofString "seat"))) cdv)) (envOfC (PySem.Str.ofString "Town.seat") (defScope s_Town_seat) s.heap.objs.size (He.fAd K ((PySem.Str.ofString "Town"), some (PySem.Str.ofString "seat"))) cdv) (cxOf (L2.CX P w) P w K mg base N_Town_seat (PySem.Str.ofString "Town.seat") (defScope s_Town_seat) (He.fAd K ((PySem.Str.ofString "Town"), some (PySem.Str.ofString "seat"))) cdv A outer s H E).xe := passes_of (X := (cxOf (L2.CX P w) P w K mg base N_Town_seat (PySem.Str.ofString "Town.seat") (defScope s_Town_seat) (He.fAd K ((PySem.Str.ofString "Town"), some (PySem.Str.ofString "seat"))) cdv A outer s H E)) rfl
  exact (js_cons (js_if (jt_cmp ((op_notInB u65).or (op_notInO (tab_IN_Town Z) (hr.mono (by decide)))) (inD_ok.or eqOD_ok) (je_var 1) (je_var 0) rfl) (js_one js_stuck) js_nil) (js_one (js_ret (je_mt PySem.F.plainAttrs_list PySem.F.slot_list_index PySem.F.type_list_index (mt_indexD u65) indexD_ok rfl (je_meth0 tk (fact_Town_names Z) (by exact Z.tab.cls C_Town (by decide)) (hr.mono (by decide)) (je_var 0)) (ja_cons (je_var 1) ja_nil)))))
theorem fact_Town_seat (Z : Fx K mg) : MtFact P w K mg base (G K) C_Town (PySem.Str.ofString "seat") 2 8 P_Town_seat f_Town_seat := by
  obtain ⟨fd, F⟩ := Z.d_Town_seat
  exact ⟨_, fd, Z.mt_Town_seat, F.bindsN fun _ _ _ _ _ _ us hl => match us, hl with | [_, _], _ => rfl, okf_Town_seat Z F⟩
theorem sc_Town_group : FnScope N_Town_group P_Town_group (defScope s_Town_group) := ⟨rfl, rfl, rfl, by decide +kernel, rfl, by decide +kernel, by decide +kernel⟩
theorem okf_Town_group (Z : Fx K mg) {fd : FuncData} (F : FunD K (PySem.Str.ofString "group") (PySem.Str.ofString "Town.group") (defArgs s_Town_group) (defBody s_Town_group) (defScope s_Town_group) [] [] (He.fAd K ((PySem.Str.ofString "Town"), some (PySem.Str.ofString "group"))) fd) : FnOkG P w K mg base 9 (He.fAd K ((PySem.Str.ofString "Town"), some (PySem.Str.ofString "group"))) fd P_Town_group (spF (G K) 2 f_Town_group) := by
  refine okf_of F sc_Town_group rfl rfl fun cdv A outer s H vs E U hr => ?_
  have nd := (sc_Town_group).nd
  have u1 := hu1 hr; have u64 := hu64 hr; have u65 := hu65 hr; have u190 := hu190 hr; have gd := hr.gd
  have tk : Takes (cxOf (L2.CX P w) P w K mg base N_Town_group (PySem.Str.ofString "Town.group") (defScope s_Town_group) (He.fAd K ((PySem.Str.ofString "Town"), some (PySem.Str.ofString "group"))) cdv A outer s H E) (fun cls d _ H' => E cls d H') := takes_of rfl rfl rfl rfl
  have hp : PassesOwn (model P w) (A.deeper (envOfC (PySem.Str.ofString "Town.group") (defScope s_Town_group) s.heap.objs.size (He.fAd K ((PySem.Str.ofString "Town"), some (PySem.Str.ofString "group"))) cdv)) (envOfC (PySem.Str.ofString "Town.group") (defScope s_Town_group) s.heap.objs.size (He.fAd K ((PySem.Str.ofString "Town"), some (PySem.Str.ofString "group"))) cdv) (cxOf (L2.CX P w) P w K mg base N_Town_group (PySem.Str.ofString "Town.group") (defScope s_Town_group) (He.fAd K ((PySem.Str.ofString "Town"), some (PySem.Str.ofString "group"))) cdv A outer s H E).xe := passes_of (X := (cxOf (L2.CX P w) P w K mg base N_Town_group (PySem.Str.ofString "Town.group") (defScope s_Town_group) (He.fAd K ((PySem.Str.ofString "Town"), some (PySem.Str.ofString "group"))) cdv A outer s H E)) rfl
  exact (js_cons (js_expr (je_meth tk (fact_Town_seat Z) (by exact Z.tab.cls C_Town (by decide)) (hr.mono (by decide)) (je_var 0) (ja_cons (je_var 1) ja_nil))) (js_cons (js_set (i := 2) nd (by first | exact Or.inl rfl | exact Or.inr rfl) (je_lst (ja_cons (je_var 1) ja_nil))) (js_cons (js_set (i := 3) nd (by first | exact Or.inl rfl | exact Or.inr rfl) je_int) (js_cons (js_while 1000000 hp (jt_cmp op_ltD ltD_ok (je_var 3) (je_callB (call_lenAll.or (call_lenO (tab_LN_Town Z) (hr.mono (by decide)))) (lenD_ok.or lenOD_ok) Z.b_len boot_len (ja_cons (je_var 2) ja_nil)) (nomark _)) (js_cons (js_for hp rfl (ji_seq rfl (je_fld Z.tab rfl (je_var 0))) (pg_name (i := 4) nd rfl (by first | exact Or.inl rfl | exact Or.inr rfl)) tg_name (js_one (js_if (jt_cmp ((op_inB u65).or (op_inO (tab_IN_Town Z) (hr.mono (by decide)))) (inD_ok.or eqOD_ok) (je_ixO tk (tab_GI_Town Z) (hr.mono (by decide)) rfl u1 (je_var 2) (je_var 3)) (je_var 4) rfl) (js_cons (js_set (i := 6) nd (by first | exact Or.inl rfl | exact Or.inr rfl) (je_if (jt_cmp ((op_eqAll u64).or (op_eqO (rc_eqO Z.tab rfl (tab_EQ_Till_Town Z)) (hr.mono (by decide)))) (eqD_ok.or eqOD_ok) (je_ix rfl u1 (je_var 4) je_int) (je_ixO tk (tab_GI_Town Z) (hr.mono (by decide)) rfl u1 (je_var 2) (je_var 3)) (nomark _)) (je_ix rfl u1 (je_var 4) je_int) (je_ix rfl u1 (je_var 4) je_int))) (js_one (js_expr (je_mut PySem.F.plainAttrs_list PySem.F.slot_list_extend PySem.F.type_list_extend mt_extend extendD_ok rfl (je_var 2) (ja_cons (je_if (jt_cmp ((op_inB u65).or (op_inO (tab_IN_Town Z) (hr.mono (by decide)))) (inD_ok.or eqOD_ok) (je_var 6) (je_var 2) rfl) (je_lst ja_nil) (je_lst (ja_cons (je_var 6) ja_nil))) ja_nil))))) js_nil))) (js_one (js_aug (i := 3) iop_add (bin_I0 fun _ _ _ => .int _) nd (by first | exact Or.inl rfl | exact Or.inr rfl) je_int)))) (js_one (js_ret (je_lc (own := [((PySem.Str.ofString "one"), 5)]) (g := (gName 5)) rfl nd (ji_seq rfl (je_meth0 tk (fact_Town_names Z) (by exact Z.tab.cls C_Town (by decide)) (hr.mono (by decide)) (je_var 0))) (blkOk_by (own := [((PySem.Str.ofString "one"), 5)]) (N := N_Town_group) (sc := defScope s_Town_group) (by decide +kernel)) (by exact fun _ => (tv_name (by decide))) (fun _ _ _ _ _ => (pg_name (i := 5) nd rfl (by first | exact Or.inl rfl | exact Or.inr rfl))) (fun _ _ _ _ _ _ => (jts_one (jt_cmp ((op_inB u65).or (op_inO (tab_IN_Town Z) (hr.mono (by decide)))) (inD_ok.or eqOD_ok) (je_var 5) (je_var 2) rfl))) (fun _ _ _ _ _ _ => (je_var 5)))))))))
theorem fact_Town_group (Z : Fx K mg) : MtFact P w K mg base (G K) C_Town (PySem.Str.ofString "group") 2 9 P_Town_group f_Town_group := by
  obtain ⟨fd, F⟩ := Z.d_Town_group
  exact ⟨_, fd, Z.mt_Town_group, F.bindsN fun _ _ _ _ _ _ us hl => match us, hl with | [_, _], _ => rfl, okf_Town_group Z F⟩
theorem sc_Town_made : FnScope N_Town_made P_Town_made (defScope s_Town_made) := ⟨rfl, rfl, rfl, by decide +kernel, rfl, by decide +kernel, by decide +kernel⟩
theorem okf_Town_made (Z : Fx K mg) {fd : FuncData} (F : FunD K (PySem.Str.ofString "made") (PySem.Str.ofString "Town.made") (defArgs s_Town_made) (defBody s_Town_made) (defScope s_Town_made) [] [] (He.fAd K ((PySem.Str.ofString "Town"), some (PySem.Str.ofString "made"))) fd) : FnOkG P w K mg base 12 (He.fAd K ((PySem.Str.ofString "Town"), some (PySem.Str.ofString "made"))) fd P_Town_made (spF (G K) 4 f_Town_made) := by
  refine okf_of F sc_Town_made rfl rfl fun cdv A outer s H vs E U hr => ?_
  have nd := (sc_Town_made).nd
  have u1 := hu1 hr; have u64 := hu64 hr; have u65 := hu65 hr; have u190 := hu190 hr; have gd := hr.gd
  have tk : Takes (cxOf (L2.CX P w) P w K mg base N_Town_made (PySem.Str.ofString "Town.made") (defScope s_Town_made) (He.fAd K ((PySem.Str.ofString "Town"), some (PySem.Str.ofString "made"))) cdv A outer s H E) (fun cls d _ H' => E cls d H') := takes_of rfl rfl rfl rfl
  have hp : PassesOwn (model P w) (A.deeper (envOfC (PySem.Str.ofString "Town.made") (defScope s_Town_made) s.heap.objs.size (He.fAd K ((PySem.Str.ofString "Town"), some (PySem.Str.ofString "made"))) cdv)) (envOfC (PySem.Str.ofString "Town.made") (defScope s_Town_made) s.heap.objs.size (He.fAd K ((PySem.Str.ofString "Town"), some (PySem.Str.ofString "made"))) cdv) (cxOf (L2.CX P w) P w K mg base N_Town_made (PySem.Str.ofString "Town.made") (defScope s_Town_made) (He.fAd K ((PySem.Str.ofString "Town"), some (PySem.Str.ofString "made"))) cdv A outer s H E).xe := passes_of (X := (cxOf (L2.CX P w) P w K mg base N_Town_made (PySem.Str.ofString "Town.made") (defScope s_Town_made) (He.fAd K ((PySem.Str.ofString "Town"), some (PySem.Str.ofString "made"))) cdv A outer s H E)) rfl
  exact (js_cons (js_asgX (pg_ei (pg_tup rfl (pgs_cons (pg_name (i := 4) nd rfl (by first | exact Or.inl rfl | exact Or.inr rfl)) (pgs_cons (pg_name (i := 5) nd rfl (by first | exact Or.inl rfl | exact Or.inr rfl)) (pgs_cons (pg_name (i := 6) nd rfl (by first | exact Or.inl rfl | exact Or.inr rfl)) (pgs_cons (pg_name (i := 7) nd rfl (by first | exact Or.inl rfl | exact Or.inr rfl)) pgs_nil))))) (pg_unl rfl (pgs_cons (pg_name (i := 4) nd rfl (by first | exact Or.inl rfl | exact Or.inr rfl)) (pgs_cons (pg_name (i := 5) nd rfl (by first | exact Or.inl rfl | exact Or.inr rfl)) (pgs_cons (pg_name (i := 6) nd rfl (by first | exact Or.inl rfl | exact Or.inr rfl)) (pgs_cons (pg_name (i := 7) nd rfl (by first | exact Or.inl rfl | exact Or.inr rfl)) pgs_nil)))))) (tgx_l (tgsx_cons (TgOk.x tg_name) (tgsx_cons (TgOk.x tg_name) (tgsx_cons (TgOk.x tg_name) (tgsx_cons (TgOk.x tg_name) tgsx_nil))))) (je_var 3)) (js_one (js_ret (je_makeW tk (w1_Town___init__ Z) (hr.mono (by decide)) (ja_cons (je_var 1) ja_nil) (jk_cons (je_var 2) (jk_cons (je_var 4) (jk_cons (je_var 5) (jk_cons (je_var 6) (jk_cons (je_var 7) jk_nil)))))))))
theorem fact_Town_made (Z : Fx K mg) : MtFact P w K mg base (G K) C_Town (PySem.Str.ofString "made") 4 12 P_Town_made f_Town_made := by
  obtain ⟨fd, F⟩ := Z.d_Town_made
  exact ⟨_, fd, Z.mt_Town_made, F.bindsN fun _ _ _ _ _ _ us hl => match us, hl with | [_, _, _, _], _ => rfl, okf_Town_made Z F⟩
theorem sc_Town_parts : FnScope N_Town_parts P_Town_parts (defScope s_Town_parts) := ⟨rfl, rfl, rfl, by decide +kernel, rfl, by decide +kernel, by decide +kernel⟩
theorem okf_Town_parts (Z : Fx K mg) {fd : FuncData} (F : FunD K (PySem.Str.ofString "parts") (PySem.Str.ofString "Town.parts") (defArgs s_Town_parts) (defBody s_Town_parts) (defScope s_Town_parts) [] [] (He.fAd K ((PySem.Str.ofString "Town"), some (PySem.Str.ofString "parts"))) fd) : FnOkG P w K mg base 1 (He.fAd K ((PySem.Str.ofString "Town"), some (PySem.Str.ofString "parts"))) fd P_Town_parts (spF (G K) 1 f_Town_parts) := by
  refine okf_of F sc_Town_parts rfl rfl fun cdv A outer s H vs E U hr => ?_
  have nd := (sc_Town_parts).nd
  have u1 := hu1 hr; have u64 := hu64 hr; have u65 := hu65 hr; have u190 := hu190 hr; have gd := hr.gd
  have tk : Takes (cxOf (L2.CX P w) P w K mg base N_Town_parts (PySem.Str.ofString "Town.parts") (defScope s_Town_parts) (He.fAd K ((PySem.Str.ofString "Town"), some (PySem.Str.ofString "parts"))) cdv A outer s H E) (fun cls d _ H' => E cls d H') := takes_of rfl rfl rfl rfl
  have hp : PassesOwn (model P w) (A.deeper (envOfC (PySem.Str.ofString "Town.parts") (defScope s_Town_parts) s.heap.objs.size (He.fAd K ((PySem.Str.ofString "Town"), some (PySem.Str.ofString "parts"))) cdv)) (envOfC (PySem.Str.ofString "Town.parts") (defScope s_Town_parts) s.heap.objs.size (He.fAd K ((PySem.Str.ofString "Town"), some (PySem.Str.ofString "parts"))) cdv) (cxOf (L2.CX P w) P w K mg base N_Town_parts (PySem.Str.ofString "Town.parts") (defScope s_Town_parts) (He.fAd K ((PySem.Str.ofString "Town"), some (PySem.Str.ofString "parts"))) cdv A outer s H E).xe := passes_of (X := (cxOf (L2.CX P w) P w K mg base N_Town_parts (PySem.Str.ofString "Town.parts") (defScope s_Town_parts) (He.fAd K ((PySem.Str.ofString "Town"), some (PySem.Str.ofString "parts"))) cdv A outer s H E)) rfl
  exact (js_one (js_ret (je_tup (ja_cons (je_fld Z.tab rfl (je_var 0)) (ja_cons (je_fld Z.tab rfl (je_var 0)) (ja_cons (je_fld Z.tab rfl (je_var 0)) (ja_cons (je_fld Z.tab rfl (je_var 0)) ja_nil)))))))
theorem fact_Town_parts (Z : Fx K mg) : MtFact P w K mg base (G K) C_Town (PySem.Str.ofString "parts") 1 1 P_Town_parts f_Town_parts := by
  obtain ⟨fd, F⟩ := Z.d_Town_parts
  exact ⟨_, fd, Z.mt_Town_parts, F.bindsN fun _ _ _ _ _ _ us hl => match us, hl with | [_], _ => rfl, okf_Town_parts Z F⟩
theorem sc_Town_with_links : FnScope N_Town_with_links P_Town_with_links (defScope s_Town_with_links) := ⟨rfl, rfl, rfl, by decide +kernel, rfl, by decide +kernel, by decide +kernel⟩
theorem okf_Town_with_links (Z : Fx K mg) {fd : FuncData} (F : FunD K (PySem.Str.ofString "with_links") (PySem.Str.ofString "Town.with_links") (defArgs s_Town_with_links) (defBody s_Town_with_links) (defScope s_Town_with_links) [] [] (He.fAd K ((PySem.Str.ofString "Town"), some (PySem.Str.ofString "with_links"))) fd) : FnOkG P w K mg base 13 (He.fAd K ((PySem.Str.ofString "Town"), some (PySem.Str.ofString "with_links"))) fd P_Town_with_links (spF (G K) 2 f_Town_with_links) := by
  refine okf_of F sc_Town_with_links rfl rfl fun cdv A outer s H vs E U hr => ?_
  have nd := (sc_Town_with_links).nd
  have u1 := hu1 hr; have u64 := hu64 hr; have u65 := hu65 hr; have u190 := hu190 hr; have gd := hr.gd
  have tk : Takes (cxOf (L2.CX P w) P w K mg base N_Town_with_links (PySem.Str.ofString "Town.with_links") (defScope s_Town_with_links) (He.fAd K ((PySem.Str.ofString "Town"), some (PySem.Str.ofString "with_links"))) cdv A outer s H E) (fun cls d _ H' => E cls d H') := takes_of rfl rfl rfl rfl
  have hp : PassesOwn (model P w) (A.deeper (envOfC (PySem.Str.ofString "Town.with_links") (defScope s_Town_with_links) s.heap.objs.size (He.fAd K ((PySem.Str.ofString "Town"), some (PySem.Str.ofString "with_links"))) cdv)) (envOfC (PySem.Str.ofString "Town.with_links") (defScope s_Town_with_links) s.heap.objs.size (He.fAd K ((PySem.Str.ofString "Town"), some (PySem.Str.ofString "with_links"))) cdv) (cxOf (L2.CX P w) P w K mg base N_Town_with_links (PySem.Str.ofString "Town.with_links") (defScope s_Town_with_links) (He.fAd K ((PySem.Str.ofString "Town"), some (PySem.Str.ofString "with_links"))) cdv A outer s H E).xe := passes_of (X := (cxOf (L2.CX P w) P w K mg base N_Town_with_links (PySem.Str.ofString "Town.with_links") (defScope s_Town_with_links) (He.fAd K ((PySem.Str.ofString "Town"), some (PySem.Str.ofString "with_links"))) cdv A outer s H E)) rfl
  exact (js_one (js_ret (je_meth tk (fact_Town_made Z) (by exact Z.tab.cls C_Town (by decide)) (hr.mono (by decide)) (je_var 0) (ja_cons (je_fld Z.tab rfl (je_var 0)) (ja_cons (je_var 1) (ja_cons (je_meth0 tk (fact_Town_parts Z) (by exact Z.tab.cls C_Town (by decide)) (hr.mono (by decide)) (je_var 0)) ja_nil))))))
theorem fact_Town_with_links (Z : Fx K mg) : MtFact P w K mg base (G K) C_Town (PySem.Str.ofString "with_links") 2 13 P_Town_with_links f_Town_with_links := by
  obtain ⟨fd, F⟩ := Z.d_Town_with_links
  exact ⟨_, fd, Z.mt_Town_with_links, F.bindsN fun _ _ _ _ _ _ us hl => match us, hl with | [_, _], _ => rfl, okf_Town_with_links Z F⟩
theorem sc_law : FnScope N_law P_law (defScope s_law) := ⟨rfl, rfl, rfl, by decide +kernel, rfl, by decide +kernel, by decide +kernel⟩
theorem okf_law (Z : Fx K mg) {fd : FuncData} (F : FunD K (PySem.Str.ofString "law") (PySem.Str.ofString "law") (defArgs s_law) (defBody s_law) (defScope s_law) [] [] (He.fAd K ((PySem.Str.ofString "law"), none)) fd) : FnOkG P w K mg base 14 (He.fAd K ((PySem.Str.ofString "law"), none)) fd P_law (spF (G K) 1 f_law) := by
  refine okf_of F sc_law rfl rfl fun cdv A outer s H vs E U hr => ?_
  have nd := (sc_law).nd
  have u1 := hu1 hr; have u64 := hu64 hr; have u65 := hu65 hr; have u190 := hu190 hr; have gd := hr.gd
  have tk : Takes (cxOf (L2.CX P w) P w K mg base N_law (PySem.Str.ofString "law") (defScope s_law) (He.fAd K ((PySem.Str.ofString "law"), none)) cdv A outer s H E) (fun cls d _ H' => E cls d H') := takes_of rfl rfl rfl rfl
  have hp : PassesOwn (model P w) (A.deeper (envOfC (PySem.Str.ofString "law") (defScope s_law) s.heap.objs.size (He.fAd K ((PySem.Str.ofString "law"), none)) cdv)) (envOfC (PySem.Str.ofString "law") (defScope s_law) s.heap.objs.size (He.fAd K ((PySem.Str.ofString "law"), none)) cdv) (cxOf (L2.CX P w) P w K mg base N_law (PySem.Str.ofString "law") (defScope s_law) (He.fAd K ((PySem.Str.ofString "law"), none)) cdv A outer s H E).xe := passes_of (X := (cxOf (L2.CX P w) P w K mg base N_law (PySem.Str.ofString "law") (defScope s_law) (He.fAd K ((PySem.Str.ofString "law"), none)) cdv A outer s H E)) rfl
  exact (js_cons (js_for hp rfl (ji_range Z.b_range (ja_cons (je_callB (call_max2 rfl) fI2_ok Z.b_max (by decide +kernel) (ja_cons je_int (ja_cons (je_callB (call_min2 rfl) fI2_ok Z.b_min (by decide +kernel) (ja_cons (je_callB (call_lenAll.or (call_lenO (tab_LN_Town Z) (hr.mono (by decide)))) (lenD_ok.or lenOD_ok) Z.b_len boot_len (ja_cons (je_var 0) ja_nil)) (ja_cons je_int ja_nil))) ja_nil))) ja_nil)) (pg_name (i := 1) nd rfl (by first | exact Or.inl rfl | exact Or.inr rfl)) tg_name (js_cons (js_set (i := 2) nd (by first | exact Or.inl rfl | exact Or.inr rfl) (je_callF tk (fact__law_pool Z) (hr.mono (by decide)) (ja_cons (je_var 0) (ja_cons (je_var 1) ja_nil)))) (js_cons (js_set (i := 3) nd (by first | exact Or.inl rfl | exact Or.inr rfl) (je_callF tk (fact__law_model Z) (hr.mono (by decide)) (ja_cons (je_var 2) (ja_cons je_int ja_nil)))) (js_cons (by first | exact (js_par2 rfl nd (jn_cons (je_callF tk (fact__law_made Z) (hr.mono (by decide)) (ja_cons (je_var 3) ja_nil)) (fun _ => (jn_cons (je_callF tk (fact__law_words_of Z) (hr.mono (by decide)) (ja_cons (je_var 3) ja_nil)) (fun _ => jn_nil))))) | exact (js_parN rfl (pg_tup rfl (pgs_cons (pg_name (i := 8) nd rfl (by first | exact Or.inl rfl | exact Or.inr rfl)) (pgs_cons (pg_name (i := 9) nd rfl (by first | exact Or.inl rfl | exact Or.inr rfl)) pgs_nil))) rfl (by decide) (jn_cons (je_callF tk (fact__law_made Z) (hr.mono (by decide)) (ja_cons (je_var 3) ja_nil)) (fun _ => (jn_cons (je_callF tk (fact__law_words_of Z) (hr.mono (by decide)) (ja_cons (je_var 3) ja_nil)) (fun _ => jn_nil)))))) (js_cons (js_for hp rfl (ji_range Z.b_range (ja_cons je_int ja_nil)) (pg_name (i := 4) nd rfl (by first | exact Or.inl rfl | exact Or.inr rfl)) tg_name (js_one (js_for hp rfl (ji_seq rfl (je_var 9)) (pg_name (i := 7) nd rfl (by first | exact Or.inl rfl | exact Or.inr rfl)) tg_name (js_cons (by first | exact (js_setLc (i := 10) (own := [((PySem.Str.ofString "_law_other"), 11)]) (g := (gName 11)) rfl nd rfl (sw_true rfl rfl rfl (by decide +kernel)) (ji_seq rfl (je_var 9)) (blkOk_by (own := [((PySem.Str.ofString "_law_other"), 11)]) (N := N_law) (sc := defScope s_law) (by decide +kernel)) (by exact fun _ => (tv_name (by decide))) (fun _ _ _ _ _ => (pg_name (i := 11) nd rfl (by first | exact Or.inl rfl | exact Or.inr rfl))) (fun _ _ _ _ _ _ => (jts_one (jt_tru rfl (je_callF takes0 (fact__law_leads Z) (hr.mono (by decide)) (ja_cons (je_var 9) (ja_cons (je_ixO takes0 (tab_GI_Town Z) (hr.mono (by decide)) rfl u1 (je_var 3) je_str) (ja_cons (je_var 7) (ja_cons (je_var 11) ja_nil)))))))) (fun _ _ _ _ _ _ => (je_var 11))) | exact (js_set (i := 10) nd (by first | exact Or.inl rfl | exact Or.inr rfl) (je_lc (own := [((PySem.Str.ofString "_law_other"), 11)]) (g := (gName 11)) rfl nd (ji_seq rfl (je_var 9)) (blkOk_by (own := [((PySem.Str.ofString "_law_other"), 11)]) (N := N_law) (sc := defScope s_law) (by decide +kernel)) (by exact fun _ => (tv_name (by decide))) (fun _ _ _ _ _ => (pg_name (i := 11) nd rfl (by first | exact Or.inl rfl | exact Or.inr rfl))) (fun _ _ _ _ _ _ => (jts_one (jt_tru rfl (je_callF takes0 (fact__law_leads Z) (hr.mono (by decide)) (ja_cons (je_var 9) (ja_cons (je_ixO takes0 (tab_GI_Town Z) (hr.mono (by decide)) rfl u1 (je_var 3) je_str) (ja_cons (je_var 7) (ja_cons (je_var 11) ja_nil)))))))) (fun _ _ _ _ _ _ => (je_var 11))))) (js_cons (js_if (jt_cmp ((op_neAll u64).or (op_neO (rc_eqO Z.tab rfl (tab_EQ_Till_Town Z)) (hr.mono (by decide)))) (neD_ok.or eqOD_ok) (je_meth tk (fact_Town_group Z) (by exact Z.tab.cls C_Town (by decide)) (hr.mono (by decide)) (je_var 8) (ja_cons (je_var 7) ja_nil)) (je_var 10) (nomark _)) (js_one (js_ret je_bl)) js_nil) (js_cons (js_if (jt_cmp ((op_neAll u64).or (op_neO (rc_eqO Z.tab rfl (tab_EQ_Till_Town Z)) (hr.mono (by decide)))) (neD_ok.or eqOD_ok) (je_lc (own := [((PySem.Str.ofString "_law_other"), 11)]) (g := (gName 11)) rfl nd (ji_seq rfl (je_var 10)) (blkOk_by (own := [((PySem.Str.ofString "_law_other"), 11)]) (N := N_law) (sc := defScope s_law) (by decide +kernel)) (by exact fun _ => (tv_name (by decide))) (fun _ _ _ _ _ => (pg_name (i := 11) nd rfl (by first | exact Or.inl rfl | exact Or.inr rfl))) (fun _ _ _ _ _ _ => (jts_one (jt_cmp ((op_neAll u64).or (op_neO (rc_eqO Z.tab rfl (tab_EQ_Till_Town Z)) (hr.mono (by decide)))) (neD_ok.or eqOD_ok) (je_meth takes0 (fact_Town_group Z) (by exact Z.tab.cls C_Town (by decide)) (hr.mono (by decide)) (je_var 8) (ja_cons (je_var 11) ja_nil)) (je_var 10) (nomark _)))) (fun _ _ _ _ _ _ => (je_var 11))) (je_lst ja_nil) (nomark _)) (js_one (js_ret je_bl)) js_nil) (js_one (js_expr (je_mutN PySem.F.plainAttrs_list PySem.F.slot_list_append PySem.F.type_list_append mt_append appendD_ok rfl (je_meth tk (fact_Town_group Z) (by exact Z.tab.cls C_Town (by decide)) (hr.mono (by decide)) (je_var 8) (ja_cons (je_var 7) ja_nil)) (fun _ => (ja_cons je_str ja_nil))))))))))) (js_cons (js_set (i := 5) nd (by first | exact Or.inl rfl | exact Or.inr rfl) (je_sl rfl (je_ixO tk (tab_GI_Town Z) (hr.mono (by decide)) rfl u1 (je_var 3) je_str) (.some je_int) .none)) (js_cons (js_set (i := 6) nd (by first | exact Or.inl rfl | exact Or.inr rfl) (je_meth tk (fact_Town_with_links Z) (by exact Z.tab.cls C_Town (by decide)) (hr.mono (by decide)) (je_var 8) (ja_cons (je_var 5) ja_nil))) (js_cons (js_for hp rfl (ji_seq rfl (je_var 9)) (pg_name (i := 7) nd rfl (by first | exact Or.inl rfl | exact Or.inr rfl)) tg_name (js_cons (by first | exact (js_setLc (i := 10) (own := [((PySem.Str.ofString "_law_other"), 11)]) (g := (gName 11)) rfl nd rfl (sw_true rfl rfl rfl (by decide +kernel)) (ji_seq rfl (je_var 9)) (blkOk_by (own := [((PySem.Str.ofString "_law_other"), 11)]) (N := N_law) (sc := defScope s_law) (by decide +kernel)) (by exact fun _ => (tv_name (by decide))) (fun _ _ _ _ _ => (pg_name (i := 11) nd rfl (by first | exact Or.inl rfl | exact Or.inr rfl))) (fun _ _ _ _ _ _ => (jts_one (jt_tru rfl (je_callF takes0 (fact__law_leads Z) (hr.mono (by decide)) (ja_cons (je_var 9) (ja_cons (je_var 5) (ja_cons (je_var 7) (ja_cons (je_var 11) ja_nil)))))))) (fun _ _ _ _ _ _ => (je_var 11))) | exact (js_set (i := 10) nd (by first | exact Or.inl rfl | exact Or.inr rfl) (je_lc (own := [((PySem.Str.ofString "_law_other"), 11)]) (g := (gName 11)) rfl nd (ji_seq rfl (je_var 9)) (blkOk_by (own := [((PySem.Str.ofString "_law_other"), 11)]) (N := N_law) (sc := defScope s_law) (by decide +kernel)) (by exact fun _ => (tv_name (by decide))) (fun _ _ _ _ _ => (pg_name (i := 11) nd rfl (by first | exact Or.inl rfl | exact Or.inr rfl))) (fun _ _ _ _ _ _ => (jts_one (jt_tru rfl (je_callF takes0 (fact__law_leads Z) (hr.mono (by decide)) (ja_cons (je_var 9) (ja_cons (je_var 5) (ja_cons (je_var 7) (ja_cons (je_var 11) ja_nil)))))))) (fun _ _ _ _ _ _ => (je_var 11))))) (js_one (js_if (jt_cmp ((op_neAll u64).or (op_neO (rc_eqO Z.tab rfl (tab_EQ_Till_Town Z)) (hr.mono (by decide)))) (neD_ok.or eqOD_ok) (je_meth tk (fact_Town_group Z) (by exact Z.tab.cls C_Town (by decide)) (hr.mono (by decide)) (je_var 6) (ja_cons (je_var 7) ja_nil)) (je_var 10) (nomark _)) (js_one (js_ret je_bl)) js_nil)))) (js_one (js_if ((jw_or (jt_cmp ((op_neAll u64).or (op_neO (rc_eqO Z.tab rfl (tab_EQ_Till_Town Z)) (hr.mono (by decide)))) (neD_ok.or eqOD_ok) (je_meth tk (fact_Town_group Z) (by exact Z.tab.cls C_Town (by decide)) (hr.mono (by decide)) (je_meth tk (fact_Town_with_links Z) (by exact Z.tab.cls C_Town (by decide)) (hr.mono (by decide)) (je_var 8) (ja_cons (je_lst ja_nil) ja_nil)) (ja_cons (je_ix rfl u1 (je_var 9) je_int) ja_nil)) (je_sl rfl (je_var 9) .none (.some je_int)) (nomark _)) (pw_or1 (jt_cmp ((op_neAll u64).or (op_neO (rc_eqO Z.tab rfl (tab_EQ_Till_Town Z)) (hr.mono (by decide)))) (neD_ok.or eqOD_ok) (je_fld Z.tab rfl (je_var 8)) (je_callTy call_tuple_of tupleD_ok Z.b_tuple (by decide +kernel) (ja_cons (je_ixO tk (tab_GI_Town Z) (hr.mono (by decide)) rfl u1 (je_var 3) je_str) ja_nil)) (nomark _))))).pt (js_one (js_ret je_bl)) js_nil)))))))))) (js_one (js_ret je_bl)))
theorem fact_law (Z : Fx K mg) : FnFact P w K mg base (G K) (PySem.Str.ofString "law") 1 14 P_law f_law := by
  obtain ⟨fd, F⟩ := Z.d_law
  exact fact_of F Z.g_law (fun _ _ _ _ _ _ us hl => match us, hl with | [_], _ => rfl) (okf_law Z F)
/-! ### the head -/
def dd_Town___len__ : He.DefD := ⟨((PySem.Str.ofString "Town"), some (PySem.Str.ofString "__len__")), (PySem.Str.ofString "__len__"), (PySem.Str.ofString "Town.__len__"), defArgs s_Town___len__, defBody s_Town___len__, defScope s_Town___len__, [], []⟩
def dd_Town___eq__ : He.DefD := ⟨((PySem.Str.ofString "Town"), some (PySem.Str.ofString "__eq__")), (PySem.Str.ofString "__eq__"), (PySem.Str.ofString "Town.__eq__"), defArgs s_Town___eq__, defBody s_Town___eq__, defScope s_Town___eq__, [], []⟩
def dd_Till___eq__ : He.DefD := ⟨((PySem.Str.ofString "Till"), some (PySem.Str.ofString "__eq__")), (PySem.Str.ofString "__eq__"), (PySem.Str.ofString "Till.__eq__"), defArgs s_Till___eq__, defBody s_Till___eq__, defScope s_Till___eq__, [], []⟩
def dd_Town___getitem__ : He.DefD := ⟨((PySem.Str.ofString "Town"), some (PySem.Str.ofString "__getitem__")), (PySem.Str.ofString "__getitem__"), (PySem.Str.ofString "Town.__getitem__"), defArgs s_Town___getitem__, defBody s_Town___getitem__, defScope s_Town___getitem__, [], []⟩
def dd__law_pool : He.DefD := ⟨((PySem.Str.ofString "_law_pool"), none), (PySem.Str.ofString "_law_pool"), (PySem.Str.ofString "_law_pool"), defArgs s__law_pool, defBody s__law_pool, defScope s__law_pool, [], []⟩
def dd__law_draw : He.DefD := ⟨((PySem.Str.ofString "_law_draw"), none), (PySem.Str.ofString "_law_draw"), (PySem.Str.ofString "_law_draw"), defArgs s__law_draw, defBody s__law_draw, defScope s__law_draw, [], []⟩
def dd__law_pick : He.DefD := ⟨((PySem.Str.ofString "_law_pick"), none), (PySem.Str.ofString "_law_pick"), (PySem.Str.ofString "_law_pick"), defArgs s__law_pick, defBody s__law_pick, defScope s__law_pick, [], []⟩
def dd__law_names : He.DefD := ⟨((PySem.Str.ofString "_law_names"), none), (PySem.Str.ofString "_law_names"), (PySem.Str.ofString "_law_names"), defArgs s__law_names, defBody s__law_names, defScope s__law_names, [], []⟩
def dd__law_model : He.DefD := ⟨((PySem.Str.ofString "_law_model"), none), (PySem.Str.ofString "_law_model"), (PySem.Str.ofString "_law_model"), defArgs s__law_model, defBody s__law_model, defScope s__law_model, [], []⟩
def dd__law_words_of : He.DefD := ⟨((PySem.Str.ofString "_law_words_of"), none), (PySem.Str.ofString "_law_words_of"), (PySem.Str.ofString "_law_words_of"), defArgs s__law_words_of, defBody s__law_words_of, defScope s__law_words_of, [], []⟩
def dd_Town___contains__ : He.DefD := ⟨((PySem.Str.ofString "Town"), some (PySem.Str.ofString "__contains__")), (PySem.Str.ofString "__contains__"), (PySem.Str.ofString "Town.__contains__"), defArgs s_Town___contains__, defBody s_Town___contains__, defScope s_Town___contains__, [], []⟩
def dd_is_name : He.DefD := ⟨((PySem.Str.ofString "is_name"), none), (PySem.Str.ofString "is_name"), (PySem.Str.ofString "is_name"), defArgs s_is_name, defBody s_is_name, defScope s_is_name, [], []⟩
def dd_is_integer : He.DefD := ⟨((PySem.Str.ofString "is_integer"), none), (PySem.Str.ofString "is_integer"), (PySem.Str.ofString "is_integer"), defArgs s_is_integer, defBody s_is_integer, defScope s_is_integer, [], []⟩
def dd_is_between : He.DefD := ⟨((PySem.Str.ofString "is_between"), none), (PySem.Str.ofString "is_between"), (PySem.Str.ofString "is_between"), defArgs s_is_between, defBody s_is_between, defScope s_is_between, [], []⟩
def dd_Till___init__ : He.DefD := ⟨((PySem.Str.ofString "Till"), some (PySem.Str.ofString "__init__")), (PySem.Str.ofString "__init__"), (PySem.Str.ofString "Till.__init__"), defArgs s_Till___init__, defBody s_Till___init__, defScope s_Till___init__, [], [((PySem.Str.ofString "heeds"), .bl true)]⟩
def dd_checked_tills : He.DefD := ⟨((PySem.Str.ofString "checked_tills"), none), (PySem.Str.ofString "checked_tills"), (PySem.Str.ofString "checked_tills"), defArgs s_checked_tills, defBody s_checked_tills, defScope s_checked_tills, [], []⟩
def dd_is_link : He.DefD := ⟨((PySem.Str.ofString "is_link"), none), (PySem.Str.ofString "is_link"), (PySem.Str.ofString "is_link"), defArgs s_is_link, defBody s_is_link, defScope s_is_link, [], []⟩
def dd_checked_links : He.DefD := ⟨((PySem.Str.ofString "checked_links"), none), (PySem.Str.ofString "checked_links"), (PySem.Str.ofString "checked_links"), defArgs s_checked_links, defBody s_checked_links, defScope s_checked_links, [], []⟩
def dd_Town_names : He.DefD := ⟨((PySem.Str.ofString "Town"), some (PySem.Str.ofString "names")), (PySem.Str.ofString "names"), (PySem.Str.ofString "Town.names"), defArgs s_Town_names, defBody s_Town_names, defScope s_Town_names, [], []⟩
def dd_has_kind : He.DefD := ⟨((PySem.Str.ofString "has_kind"), none), (PySem.Str.ofString "has_kind"), (PySem.Str.ofString "has_kind"), defArgs s_has_kind, defBody s_has_kind, defScope s_has_kind, [], []⟩
def dd_is_memory : He.DefD := ⟨((PySem.Str.ofString "is_memory"), none), (PySem.Str.ofString "is_memory"), (PySem.Str.ofString "is_memory"), defArgs s_is_memory, defBody s_is_memory, defScope s_is_memory, [], []⟩
def dd_check_parts : He.DefD := ⟨((PySem.Str.ofString "check_parts"), none), (PySem.Str.ofString "check_parts"), (PySem.Str.ofString "check_parts"), defArgs s_check_parts, defBody s_check_parts, defScope s_check_parts, [], []⟩
def dd_Town___init__ : He.DefD := ⟨((PySem.Str.ofString "Town"), some (PySem.Str.ofString "__init__")), (PySem.Str.ofString "__init__"), (PySem.Str.ofString "Town.__init__"), defArgs s_Town___init__, defBody s_Town___init__, defScope s_Town___init__, [], [((PySem.Str.ofString "links"), .adr (kwAt ((PySem.Str.ofString "Town"), some (PySem.Str.ofString "__init__")) (PySem.Str.ofString "links"))), ((PySem.Str.ofString "money"), .int 0), ((PySem.Str.ofString "memory"), .adr (kwAt ((PySem.Str.ofString "Town"), some (PySem.Str.ofString "__init__")) (PySem.Str.ofString "memory"))), ((PySem.Str.ofString "tops"), .int 0), ((PySem.Str.ofString "numbered"), .bl true)]⟩
def dd__law_made : He.DefD := ⟨((PySem.Str.ofString "_law_made"), none), (PySem.Str.ofString "_law_made"), (PySem.Str.ofString "_law_made"), defArgs s__law_made, defBody s__law_made, defScope s__law_made, [], []⟩
def dd__law_touch : He.DefD := ⟨((PySem.Str.ofString "_law_touch"), none), (PySem.Str.ofString "_law_touch"), (PySem.Str.ofString "_law_touch"), defArgs s__law_touch, defBody s__law_touch, defScope s__law_touch, [], []⟩
def dd__law_leads : He.DefD := ⟨((PySem.Str.ofString "_law_leads"), none), (PySem.Str.ofString "_law_leads"), (PySem.Str.ofString "_law_leads"), defArgs s__law_leads, defBody s__law_leads, defScope s__law_leads, [], []⟩
def dd_Town_seat : He.DefD := ⟨((PySem.Str.ofString "Town"), some (PySem.Str.ofString "seat")), (PySem.Str.ofString "seat"), (PySem.Str.ofString "Town.seat"), defArgs s_Town_seat, defBody s_Town_seat, defScope s_Town_seat, [], []⟩
def dd_Town_group : He.DefD := ⟨((PySem.Str.ofString "Town"), some (PySem.Str.ofString "group")), (PySem.Str.ofString "group"), (PySem.Str.ofString "Town.group"), defArgs s_Town_group, defBody s_Town_group, defScope s_Town_group, [], []⟩
def dd_Town_made : He.DefD := ⟨((PySem.Str.ofString "Town"), some (PySem.Str.ofString "made")), (PySem.Str.ofString "made"), (PySem.Str.ofString "Town.made"), defArgs s_Town_made, defBody s_Town_made, defScope s_Town_made, [], []⟩
def dd_Town_parts : He.DefD := ⟨((PySem.Str.ofString "Town"), some (PySem.Str.ofString "parts")), (PySem.Str.ofString "parts"), (PySem.Str.ofString "Town.parts"), defArgs s_Town_parts, defBody s_Town_parts, defScope s_Town_parts, [], []⟩
def dd_Town_with_links : He.DefD := ⟨((PySem.Str.ofString "Town"), some (PySem.Str.ofString "with_links")), (PySem.Str.ofString "with_links"), (PySem.Str.ofString "Town.with_links"), defArgs s_Town_with_links, defBody s_Town_with_links, defScope s_Town_with_links, [], []⟩
def dd_law : He.DefD := ⟨((PySem.Str.ofString "law"), none), (PySem.Str.ofString "law"), (PySem.Str.ofString "law"), defArgs s_law, defBody s_law, defScope s_law, [], []⟩
def dd_BadLink___init__ : He.DefD := ⟨((PySem.Str.ofString "BadLink"), some (PySem.Str.ofString "__init__")), (PySem.Str.ofString "__init__"), (PySem.Str.ofString "BadLink.__init__"), defArgs s_BadLink___init__, defBody s_BadLink___init__, defScope s_BadLink___init__, [], []⟩
def dd_BadPart___init__ : He.DefD := ⟨((PySem.Str.ofString "BadPart"), some (PySem.Str.ofString "__init__")), (PySem.Str.ofString "__init__"), (PySem.Str.ofString "BadPart.__init__"), defArgs s_BadPart___init__, defBody s_BadPart___init__, defScope s_BadPart___init__, [], []⟩
def dd_BadTill___init__ : He.DefD := ⟨((PySem.Str.ofString "BadTill"), some (PySem.Str.ofString "__init__")), (PySem.Str.ofString "__init__"), (PySem.Str.ofString "BadTill.__init__"), defArgs s_BadTill___init__, defBody s_BadTill___init__, defScope s_BadTill___init__, [], []⟩
def dd_TooMany___init__ : He.DefD := ⟨((PySem.Str.ofString "TooMany"), some (PySem.Str.ofString "__init__")), (PySem.Str.ofString "__init__"), (PySem.Str.ofString "TooMany.__init__"), defArgs s_TooMany___init__, defBody s_TooMany___init__, defScope s_TooMany___init__, [], []⟩
def dfs : List He.DefD := [dd_Town___len__, dd_Town___eq__, dd_Till___eq__, dd_Town___getitem__, dd__law_pool, dd__law_draw, dd__law_pick, dd__law_names, dd__law_model, dd__law_words_of, dd_Town___contains__, dd_is_name, dd_is_integer, dd_is_between, dd_Till___init__, dd_checked_tills, dd_is_link, dd_checked_links, dd_Town_names, dd_has_kind, dd_is_memory, dd_check_parts, dd_Town___init__, dd__law_made, dd__law_touch, dd__law_leads, dd_Town_seat, dd_Town_group, dd_Town_made, dd_Town_parts, dd_Town_with_links, dd_law, dd_BadLink___init__, dd_BadPart___init__, dd_BadTill___init__, dd_TooMany___init__]
def fas : List He.Fa := [.glo (PySem.Str.ofString "_law_pool"), .glo (PySem.Str.ofString "_law_draw"), .glo (PySem.Str.ofString "_law_pick"), .glo (PySem.Str.ofString "_law_names"), .glo (PySem.Str.ofString "_law_model"), .glo (PySem.Str.ofString "_law_words_of"), .glo (PySem.Str.ofString "is_name"), .glo (PySem.Str.ofString "is_integer"), .glo (PySem.Str.ofString "is_between"), .glo (PySem.Str.ofString "checked_tills"), .glo (PySem.Str.ofString "is_link"), .glo (PySem.Str.ofString "checked_links"), .glo (PySem.Str.ofString "has_kind"), .glo (PySem.Str.ofString "is_memory"), .glo (PySem.Str.ofString "check_parts"), .glo (PySem.Str.ofString "_law_made"), .glo (PySem.Str.ofString "_law_touch"), .glo (PySem.Str.ofString "_law_leads"), .glo (PySem.Str.ofString "law"), .glo (PySem.Str.ofString "BadLink"), .glo (PySem.Str.ofString "BadPart"), .glo (PySem.Str.ofString "BadTill"), .glo (PySem.Str.ofString "Till"), .glo (PySem.Str.ofString "TooMany"), .glo (PySem.Str.ofString "Town"), .free (PySem.Str.ofString "all"), .free (PySem.Str.ofString "any"), .free (PySem.Str.ofString "bool"), .free (PySem.Str.ofString "enumerate"), .free (PySem.Str.ofString "int"), .free (PySem.Str.ofString "isinstance"), .free (PySem.Str.ofString "len"), .free (PySem.Str.ofString "list"), .free (PySem.Str.ofString "max"), .free (PySem.Str.ofString "min"), .free (PySem.Str.ofString "range"), .free (PySem.Str.ofString "sorted"), .free (PySem.Str.ofString "str"), .free (PySem.Str.ofString "tuple"), .str (PySem.Str.ofString "LETTERS") (PySem.Str.ofString "abcdefghijklmnopqrstuvwxyz"), .int (PySem.Str.ofString "MOST_LETTERS") (8), .int (PySem.Str.ofString "MOST_LIMIT") (9), .int (PySem.Str.ofString "MOST_MONEY") (9), .int (PySem.Str.ofString "MOST_TILLS") (4), .int (PySem.Str.ofString "MOST_TOPS") (5), .meth (PySem.Str.ofString "Town") (PySem.Str.ofString "__len__"), .meth (PySem.Str.ofString "Town") (PySem.Str.ofString "__eq__"), .meth (PySem.Str.ofString "Till") (PySem.Str.ofString "__eq__"), .meth (PySem.Str.ofString "Town") (PySem.Str.ofString "__getitem__"), .meth (PySem.Str.ofString "Town") (PySem.Str.ofString "__contains__"), .mkr (PySem.Str.ofString "Till"), .meth (PySem.Str.ofString "Town") (PySem.Str.ofString "names"), .mkr (PySem.Str.ofString "Town"), .meth (PySem.Str.ofString "Town") (PySem.Str.ofString "seat"), .meth (PySem.Str.ofString "Town") (PySem.Str.ofString "group"), .meth (PySem.Str.ofString "Town") (PySem.Str.ofString "made"), .meth (PySem.Str.ofString "Town") (PySem.Str.ofString "parts"), .meth (PySem.Str.ofString "Town") (PySem.Str.ofString "with_links"), .glo (PySem.Str.ofString "TownError"), .free (PySem.Str.ofString "OverflowError")]
def ex0 (K : PySem.W.Frag) : Bool := tabB K (cl K) T
def ex1 (K : PySem.W.Frag) : Bool := tupA K (kwAt ((PySem.Str.ofString "Town"), some (PySem.Str.ofString "__init__")) (PySem.Str.ofString "links") K) []
def ex2 (K : PySem.W.Frag) : Bool := tupA K (kwAt ((PySem.Str.ofString "Town"), some (PySem.Str.ofString "__init__")) (PySem.Str.ofString "memory") K) [.str (PySem.Str.ofString "nothing")]
def ex3 (K : PySem.W.Frag) : Bool := xcB K (He.ga K (PySem.Str.ofString "BadLink")) [.type "ValueError", .type "Exception", .type "BaseException", .type "object"] "ValueError.__new__"
def ex4 (K : PySem.W.Frag) : Bool := (decide (PySem.W.findIn K (.ref (He.ga K (PySem.Str.ofString "BadLink"))) "__init__" = some (some (.ref (He.fAd K ((PySem.Str.ofString "BadLink"), some (PySem.Str.ofString "__init__")))))) && decide (PySem.W.typeIn K (.ref (He.fAd K ((PySem.Str.ofString "BadLink"), some (PySem.Str.ofString "__init__")))) = some (.type "function")))
def ex5 (K : PySem.W.Frag) : Bool := (decide (PySem.W.specialIn K (.ref (He.ga K (PySem.Str.ofString "TownError"))) "__getattribute__" = some (some (.builtin "type.__getattribute__"))) && (PySem.W.readsIn K (He.ga K (PySem.Str.ofString "TownError")) (.type "type") && xfc K (He.ga K (PySem.Str.ofString "TownError")) "ValueError.__init__"))
def ex6 (K : PySem.W.Frag) : Bool := xcB K (He.ga K (PySem.Str.ofString "BadPart")) [.type "ValueError", .type "Exception", .type "BaseException", .type "object"] "ValueError.__new__"
def ex7 (K : PySem.W.Frag) : Bool := (decide (PySem.W.findIn K (.ref (He.ga K (PySem.Str.ofString "BadPart"))) "__init__" = some (some (.ref (He.fAd K ((PySem.Str.ofString "BadPart"), some (PySem.Str.ofString "__init__")))))) && decide (PySem.W.typeIn K (.ref (He.fAd K ((PySem.Str.ofString "BadPart"), some (PySem.Str.ofString "__init__")))) = some (.type "function")))
def ex8 (K : PySem.W.Frag) : Bool := (decide (PySem.W.specialIn K (.ref (He.ga K (PySem.Str.ofString "TownError"))) "__getattribute__" = some (some (.builtin "type.__getattribute__"))) && (PySem.W.readsIn K (He.ga K (PySem.Str.ofString "TownError")) (.type "type") && xfc K (He.ga K (PySem.Str.ofString "TownError")) "ValueError.__init__"))
def ex9 (K : PySem.W.Frag) : Bool := xcB K (He.ga K (PySem.Str.ofString "BadTill")) [.type "ValueError", .type "Exception", .type "BaseException", .type "object"] "ValueError.__new__"
def ex10 (K : PySem.W.Frag) : Bool := (decide (PySem.W.findIn K (.ref (He.ga K (PySem.Str.ofString "BadTill"))) "__init__" = some (some (.ref (He.fAd K ((PySem.Str.ofString "BadTill"), some (PySem.Str.ofString "__init__")))))) && decide (PySem.W.typeIn K (.ref (He.fAd K ((PySem.Str.ofString "BadTill"), some (PySem.Str.ofString "__init__")))) = some (.type "function")))
def ex11 (K : PySem.W.Frag) : Bool := (decide (PySem.W.specialIn K (.ref (He.ga K (PySem.Str.ofString "TownError"))) "__getattribute__" = some (some (.builtin "type.__getattribute__"))) && (PySem.W.readsIn K (He.ga K (PySem.Str.ofString "TownError")) (.type "type") && xfc K (He.ga K (PySem.Str.ofString "TownError")) "ValueError.__init__"))
def ex12 (K : PySem.W.Frag) : Bool := xcB K (He.ga K (PySem.Str.ofString "TooMany")) [.type "OverflowError", .type "ArithmeticError", .type "Exception", .type "BaseException", .type "object"] "OverflowError.__new__"
def ex13 (K : PySem.W.Frag) : Bool := (decide (PySem.W.findIn K (.ref (He.ga K (PySem.Str.ofString "TooMany"))) "__init__" = some (some (.ref (He.fAd K ((PySem.Str.ofString "TooMany"), some (PySem.Str.ofString "__init__")))))) && decide (PySem.W.typeIn K (.ref (He.fAd K ((PySem.Str.ofString "TooMany"), some (PySem.Str.ofString "__init__")))) = some (.type "function")))
def ex14 (K : PySem.W.Frag) : Bool := xfcT K "OverflowError" "OverflowError.__init__"
def ex15 (K : PySem.W.Frag) : Bool := decide (PySem.W.findIn K (.ref (He.ga K (PySem.Str.ofString "BadLink"))) (PySem.Str.ofString "index") = some none)
def ex16 (K : PySem.W.Frag) : Bool := decide (PySem.W.findIn K (.ref (He.ga K (PySem.Str.ofString "BadPart"))) (PySem.Str.ofString "part") = some none)
def ex17 (K : PySem.W.Frag) : Bool := decide (PySem.W.findIn K (.ref (He.ga K (PySem.Str.ofString "BadTill"))) (PySem.Str.ofString "index") = some none)
def ex18 (K : PySem.W.Frag) : Bool := decide (PySem.W.findIn K (.ref (He.ga K (PySem.Str.ofString "TooMany"))) (PySem.Str.ofString "limit") = some none)
def ex19 (K : PySem.W.Frag) : Bool := spB K (He.ga K (PySem.Str.ofString "Town")) (PySem.Str.ofString "__len__") (He.fAd K ((PySem.Str.ofString "Town"), some (PySem.Str.ofString "__len__")))
def ex20 (K : PySem.W.Frag) : Bool := spB K (He.ga K (PySem.Str.ofString "Town")) (PySem.Str.ofString "__eq__") (He.fAd K ((PySem.Str.ofString "Town"), some (PySem.Str.ofString "__eq__")))
def ex21 (K : PySem.W.Frag) : Bool := nfB K (cl K) 2 (He.ga K (PySem.Str.ofString "Town"))
def ex22 (K : PySem.W.Frag) : Bool := neB K (He.ga K (PySem.Str.ofString "Town"))
def ex23 (K : PySem.W.Frag) : Bool := spB K (He.ga K (PySem.Str.ofString "Till")) (PySem.Str.ofString "__eq__") (He.fAd K ((PySem.Str.ofString "Till"), some (PySem.Str.ofString "__eq__")))
def ex24 (K : PySem.W.Frag) : Bool := nfB K (cl K) 2 (He.ga K (PySem.Str.ofString "Till"))
def ex25 (K : PySem.W.Frag) : Bool := neB K (He.ga K (PySem.Str.ofString "Till"))
def ex26 (K : PySem.W.Frag) : Bool := spB K (He.ga K (PySem.Str.ofString "Town")) (PySem.Str.ofString "__eq__") (He.fAd K ((PySem.Str.ofString "Town"), some (PySem.Str.ofString "__eq__")))
def ex27 (K : PySem.W.Frag) : Bool := nfB K (cl K) 2 (He.ga K (PySem.Str.ofString "Town"))
def ex28 (K : PySem.W.Frag) : Bool := neB K (He.ga K (PySem.Str.ofString "Town"))
def ex29 (K : PySem.W.Frag) : Bool := spB K (He.ga K (PySem.Str.ofString "Town")) (PySem.Str.ofString "__getitem__") (He.fAd K ((PySem.Str.ofString "Town"), some (PySem.Str.ofString "__getitem__")))
def ex30 (K : PySem.W.Frag) : Bool := spB K (He.ga K (PySem.Str.ofString "Town")) (PySem.Str.ofString "__contains__") (He.fAd K ((PySem.Str.ofString "Town"), some (PySem.Str.ofString "__contains__")))
def ex (K : PySem.W.Frag) : Bool := ex0 K && (ex1 K && (ex2 K && (ex3 K && (ex4 K && (ex5 K && (ex6 K && (ex7 K && (ex8 K && (ex9 K && (ex10 K && (ex11 K && (ex12 K && (ex13 K && (ex14 K && (ex15 K && (ex16 K && (ex17 K && (ex18 K && (ex19 K && (ex20 K && (ex21 K && (ex22 K && (ex23 K && (ex24 K && (ex25 K && (ex26 K && (ex27 K && (ex28 K && (ex29 K && (ex30 K))))))))))))))))))))))))))))))
abbrev R : PySem.W.OpenRow := PySem.W.OpenLaw.row PySem.Challenge.rw_cutofftills_k05_whole_groups
abbrev hk : PySem.W.Hook := hookY 6 fas dfs ex
def ob (s : PySem.W.SharedT) : He.AlD × Bool := obsY 6 fas dfs ex (HandSHeadRun.getT s)
theorem ob_eq (s : PySem.W.SharedT) : ob s = hk.obs s.abs := obsY_eq (HandSHeadRun.getT_eq s)
def loose0 : List PySem.Str := [(PySem.Str.ofString "_wall"), (PySem.Str.ofString "TownError"), (PySem.Str.ofString "BadTill"), (PySem.Str.ofString "BadLink"), (PySem.Str.ofString "BadPart"), (PySem.Str.ofString "UnknownTill"), (PySem.Str.ofString "TooMany"), (PySem.Str.ofString "LETTERS"), (PySem.Str.ofString "MOST_LETTERS"), (PySem.Str.ofString "MOST_LIMIT"), (PySem.Str.ofString "MOST_MONEY"), (PySem.Str.ofString "MOST_TOPS"), (PySem.Str.ofString "MOST_TILLS"), (PySem.Str.ofString "is_integer"), (PySem.Str.ofString "is_between"), (PySem.Str.ofString "is_name"), (PySem.Str.ofString "has_kind"), (PySem.Str.ofString "is_memory"), (PySem.Str.ofString "Till"), (PySem.Str.ofString "checked_tills"), (PySem.Str.ofString "is_link"), (PySem.Str.ofString "checked_links"), (PySem.Str.ofString "check_parts"), (PySem.Str.ofString "Town"), (PySem.Str.ofString "_law_pool"), (PySem.Str.ofString "_law_draw"), (PySem.Str.ofString "_law_pick"), (PySem.Str.ofString "_law_names"), (PySem.Str.ofString "_law_model"), (PySem.Str.ofString "_law_made")]
def loose1 : List PySem.Str := [(PySem.Str.ofString "_law_words_of"), (PySem.Str.ofString "_law_touch"), (PySem.Str.ofString "_law_leads")]
def loose : List PySem.Str := loose0 ++ loose1
set_option maxHeartbeats 0 in
theorem run (w : World) : HandSHeadRun.RunEq R (PySem.W.view R.prog [38]) hk ob 60000 loose w := by
  intro os
  kernel_rfl
theorem facts {K : PySem.W.Frag} {h : Heap} {mg : PySem.Str → Option Value} (X : K.In h) (Gn : h.Ns mainGlobals mg) (c : He.SaysD fas dfs K) (cm : ex K = true) : Fx K mg := by
  have e0 : ex K = true := cm
  obtain ⟨x0, e1⟩ := and2 e0
  obtain ⟨x1, e2⟩ := and2 e1
  obtain ⟨x2, e3⟩ := and2 e2
  obtain ⟨x3, e4⟩ := and2 e3
  obtain ⟨x4, e5⟩ := and2 e4
  obtain ⟨x5, e6⟩ := and2 e5
  obtain ⟨x6, e7⟩ := and2 e6
  obtain ⟨x7, e8⟩ := and2 e7
  obtain ⟨x8, e9⟩ := and2 e8
  obtain ⟨x9, e10⟩ := and2 e9
  obtain ⟨x10, e11⟩ := and2 e10
  obtain ⟨x11, e12⟩ := and2 e11
  obtain ⟨x12, e13⟩ := and2 e12
  obtain ⟨x13, e14⟩ := and2 e13
  obtain ⟨x14, e15⟩ := and2 e14
  obtain ⟨x15, e16⟩ := and2 e15
  obtain ⟨x16, e17⟩ := and2 e16
  obtain ⟨x17, e18⟩ := and2 e17
  obtain ⟨x18, e19⟩ := and2 e18
  obtain ⟨x19, e20⟩ := and2 e19
  obtain ⟨x20, e21⟩ := and2 e20
  obtain ⟨x21, e22⟩ := and2 e21
  obtain ⟨x22, e23⟩ := and2 e22
  obtain ⟨x23, e24⟩ := and2 e23
  obtain ⟨x24, e25⟩ := and2 e24
  obtain ⟨x25, e26⟩ := and2 e25
  obtain ⟨x26, e27⟩ := and2 e26
  obtain ⟨x27, e28⟩ := and2 e27
  obtain ⟨x28, e29⟩ := and2 e28
  obtain ⟨x29, e30⟩ := and2 e29
  have x30 := e30
  have h_g__law_pool := He.glo_ok X Gn (c.fact 0 (f := .glo (PySem.Str.ofString "_law_pool")) rfl)
  have h_g__law_draw := He.glo_ok X Gn (c.fact 1 (f := .glo (PySem.Str.ofString "_law_draw")) rfl)
  have h_g__law_pick := He.glo_ok X Gn (c.fact 2 (f := .glo (PySem.Str.ofString "_law_pick")) rfl)
  have h_g__law_names := He.glo_ok X Gn (c.fact 3 (f := .glo (PySem.Str.ofString "_law_names")) rfl)
  have h_g__law_model := He.glo_ok X Gn (c.fact 4 (f := .glo (PySem.Str.ofString "_law_model")) rfl)
  have h_g__law_words_of := He.glo_ok X Gn (c.fact 5 (f := .glo (PySem.Str.ofString "_law_words_of")) rfl)
  have h_g_is_name := He.glo_ok X Gn (c.fact 6 (f := .glo (PySem.Str.ofString "is_name")) rfl)
  have h_g_is_integer := He.glo_ok X Gn (c.fact 7 (f := .glo (PySem.Str.ofString "is_integer")) rfl)
  have h_g_is_between := He.glo_ok X Gn (c.fact 8 (f := .glo (PySem.Str.ofString "is_between")) rfl)
  have h_g_checked_tills := He.glo_ok X Gn (c.fact 9 (f := .glo (PySem.Str.ofString "checked_tills")) rfl)
  have h_g_is_link := He.glo_ok X Gn (c.fact 10 (f := .glo (PySem.Str.ofString "is_link")) rfl)
  have h_g_checked_links := He.glo_ok X Gn (c.fact 11 (f := .glo (PySem.Str.ofString "checked_links")) rfl)
  have h_g_has_kind := He.glo_ok X Gn (c.fact 12 (f := .glo (PySem.Str.ofString "has_kind")) rfl)
  have h_g_is_memory := He.glo_ok X Gn (c.fact 13 (f := .glo (PySem.Str.ofString "is_memory")) rfl)
  have h_g_check_parts := He.glo_ok X Gn (c.fact 14 (f := .glo (PySem.Str.ofString "check_parts")) rfl)
  have h_g__law_made := He.glo_ok X Gn (c.fact 15 (f := .glo (PySem.Str.ofString "_law_made")) rfl)
  have h_g__law_touch := He.glo_ok X Gn (c.fact 16 (f := .glo (PySem.Str.ofString "_law_touch")) rfl)
  have h_g__law_leads := He.glo_ok X Gn (c.fact 17 (f := .glo (PySem.Str.ofString "_law_leads")) rfl)
  have h_g_law := He.glo_ok X Gn (c.fact 18 (f := .glo (PySem.Str.ofString "law")) rfl)
  have h_gc_BadLink := He.glo_ok X Gn (c.fact 19 (f := .glo (PySem.Str.ofString "BadLink")) rfl)
  have h_gc_BadPart := He.glo_ok X Gn (c.fact 20 (f := .glo (PySem.Str.ofString "BadPart")) rfl)
  have h_gc_BadTill := He.glo_ok X Gn (c.fact 21 (f := .glo (PySem.Str.ofString "BadTill")) rfl)
  have h_gc_Till := He.glo_ok X Gn (c.fact 22 (f := .glo (PySem.Str.ofString "Till")) rfl)
  have h_gc_TooMany := He.glo_ok X Gn (c.fact 23 (f := .glo (PySem.Str.ofString "TooMany")) rfl)
  have h_gc_Town := He.glo_ok X Gn (c.fact 24 (f := .glo (PySem.Str.ofString "Town")) rfl)
  have h_b_all := He.free_ok X Gn (c.fact 25 (f := .free (PySem.Str.ofString "all")) rfl)
  have h_b_any := He.free_ok X Gn (c.fact 26 (f := .free (PySem.Str.ofString "any")) rfl)
  have h_b_bool := He.free_ok X Gn (c.fact 27 (f := .free (PySem.Str.ofString "bool")) rfl)
  have h_b_enumerate := He.free_ok X Gn (c.fact 28 (f := .free (PySem.Str.ofString "enumerate")) rfl)
  have h_b_int := He.free_ok X Gn (c.fact 29 (f := .free (PySem.Str.ofString "int")) rfl)
  have h_b_isinstance := He.free_ok X Gn (c.fact 30 (f := .free (PySem.Str.ofString "isinstance")) rfl)
  have h_b_len := He.free_ok X Gn (c.fact 31 (f := .free (PySem.Str.ofString "len")) rfl)
  have h_b_list := He.free_ok X Gn (c.fact 32 (f := .free (PySem.Str.ofString "list")) rfl)
  have h_b_max := He.free_ok X Gn (c.fact 33 (f := .free (PySem.Str.ofString "max")) rfl)
  have h_b_min := He.free_ok X Gn (c.fact 34 (f := .free (PySem.Str.ofString "min")) rfl)
  have h_b_range := He.free_ok X Gn (c.fact 35 (f := .free (PySem.Str.ofString "range")) rfl)
  have h_b_sorted := He.free_ok X Gn (c.fact 36 (f := .free (PySem.Str.ofString "sorted")) rfl)
  have h_b_str := He.free_ok X Gn (c.fact 37 (f := .free (PySem.Str.ofString "str")) rfl)
  have h_b_tuple := He.free_ok X Gn (c.fact 38 (f := .free (PySem.Str.ofString "tuple")) rfl)
  have h_c_LETTERS := He.str_ok X Gn (c.fact 39 (f := .str (PySem.Str.ofString "LETTERS") (PySem.Str.ofString "abcdefghijklmnopqrstuvwxyz")) rfl)
  have h_c_MOST_LETTERS := He.int_ok X Gn (c.fact 40 (f := .int (PySem.Str.ofString "MOST_LETTERS") (8)) rfl)
  have h_c_MOST_LIMIT := He.int_ok X Gn (c.fact 41 (f := .int (PySem.Str.ofString "MOST_LIMIT") (9)) rfl)
  have h_c_MOST_MONEY := He.int_ok X Gn (c.fact 42 (f := .int (PySem.Str.ofString "MOST_MONEY") (9)) rfl)
  have h_c_MOST_TILLS := He.int_ok X Gn (c.fact 43 (f := .int (PySem.Str.ofString "MOST_TILLS") (4)) rfl)
  have h_c_MOST_TOPS := He.int_ok X Gn (c.fact 44 (f := .int (PySem.Str.ofString "MOST_TOPS") (5)) rfl)
  have h_mt_Town___len__ := He.meth_ok (c.fact 45 (f := .meth (PySem.Str.ofString "Town") (PySem.Str.ofString "__len__")) rfl)
  have h_mt_Town___eq__ := He.meth_ok (c.fact 46 (f := .meth (PySem.Str.ofString "Town") (PySem.Str.ofString "__eq__")) rfl)
  have h_mt_Till___eq__ := He.meth_ok (c.fact 47 (f := .meth (PySem.Str.ofString "Till") (PySem.Str.ofString "__eq__")) rfl)
  have h_mt_Town___getitem__ := He.meth_ok (c.fact 48 (f := .meth (PySem.Str.ofString "Town") (PySem.Str.ofString "__getitem__")) rfl)
  have h_mt_Town___contains__ := He.meth_ok (c.fact 49 (f := .meth (PySem.Str.ofString "Town") (PySem.Str.ofString "__contains__")) rfl)
  have h_mk_Till := He.mkr_ok (c.fact 50 (f := .mkr (PySem.Str.ofString "Till")) rfl)
  have h_mt_Town_names := He.meth_ok (c.fact 51 (f := .meth (PySem.Str.ofString "Town") (PySem.Str.ofString "names")) rfl)
  have h_mk_Town := He.mkr_ok (c.fact 52 (f := .mkr (PySem.Str.ofString "Town")) rfl)
  have h_mt_Town_seat := He.meth_ok (c.fact 53 (f := .meth (PySem.Str.ofString "Town") (PySem.Str.ofString "seat")) rfl)
  have h_mt_Town_group := He.meth_ok (c.fact 54 (f := .meth (PySem.Str.ofString "Town") (PySem.Str.ofString "group")) rfl)
  have h_mt_Town_made := He.meth_ok (c.fact 55 (f := .meth (PySem.Str.ofString "Town") (PySem.Str.ofString "made")) rfl)
  have h_mt_Town_parts := He.meth_ok (c.fact 56 (f := .meth (PySem.Str.ofString "Town") (PySem.Str.ofString "parts")) rfl)
  have h_mt_Town_with_links := He.meth_ok (c.fact 57 (f := .meth (PySem.Str.ofString "Town") (PySem.Str.ofString "with_links")) rfl)
  have h_GLOTownError := He.glo_ok X Gn (c.fact 58 (f := .glo (PySem.Str.ofString "TownError")) rfl)
  have h_FREEOverflowError := He.free_ok X Gn (c.fact 59 (f := .free (PySem.Str.ofString "OverflowError")) rfl)
  have h_d_Town___len__ := c.def_ 0 (d := dd_Town___len__) rfl
  have h_d_Town___eq__ := c.def_ 1 (d := dd_Town___eq__) rfl
  have h_d_Till___eq__ := c.def_ 2 (d := dd_Till___eq__) rfl
  have h_d_Town___getitem__ := c.def_ 3 (d := dd_Town___getitem__) rfl
  have h_d__law_pool := c.def_ 4 (d := dd__law_pool) rfl
  have h_d__law_draw := c.def_ 5 (d := dd__law_draw) rfl
  have h_d__law_pick := c.def_ 6 (d := dd__law_pick) rfl
  have h_d__law_names := c.def_ 7 (d := dd__law_names) rfl
  have h_d__law_model := c.def_ 8 (d := dd__law_model) rfl
  have h_d__law_words_of := c.def_ 9 (d := dd__law_words_of) rfl
  have h_d_Town___contains__ := c.def_ 10 (d := dd_Town___contains__) rfl
  have h_d_is_name := c.def_ 11 (d := dd_is_name) rfl
  have h_d_is_integer := c.def_ 12 (d := dd_is_integer) rfl
  have h_d_is_between := c.def_ 13 (d := dd_is_between) rfl
  have h_d_Till___init__ := c.def_ 14 (d := dd_Till___init__) rfl
  have h_d_checked_tills := c.def_ 15 (d := dd_checked_tills) rfl
  have h_d_is_link := c.def_ 16 (d := dd_is_link) rfl
  have h_d_checked_links := c.def_ 17 (d := dd_checked_links) rfl
  have h_d_Town_names := c.def_ 18 (d := dd_Town_names) rfl
  have h_d_has_kind := c.def_ 19 (d := dd_has_kind) rfl
  have h_d_is_memory := c.def_ 20 (d := dd_is_memory) rfl
  have h_d_check_parts := c.def_ 21 (d := dd_check_parts) rfl
  have h_d_Town___init__ := c.def_ 22 (d := dd_Town___init__) rfl
  have h_d__law_made := c.def_ 23 (d := dd__law_made) rfl
  have h_d__law_touch := c.def_ 24 (d := dd__law_touch) rfl
  have h_d__law_leads := c.def_ 25 (d := dd__law_leads) rfl
  have h_d_Town_seat := c.def_ 26 (d := dd_Town_seat) rfl
  have h_d_Town_group := c.def_ 27 (d := dd_Town_group) rfl
  have h_d_Town_made := c.def_ 28 (d := dd_Town_made) rfl
  have h_d_Town_parts := c.def_ 29 (d := dd_Town_parts) rfl
  have h_d_Town_with_links := c.def_ 30 (d := dd_Town_with_links) rfl
  have h_d_law := c.def_ 31 (d := dd_law) rfl
  have h_d_BadLink___init__ := c.def_ 32 (d := dd_BadLink___init__) rfl
  have h_d_BadPart___init__ := c.def_ 33 (d := dd_BadPart___init__) rfl
  have h_d_BadTill___init__ := c.def_ 34 (d := dd_BadTill___init__) rfl
  have h_d_TooMany___init__ := c.def_ 35 (d := dd_TooMany___init__) rfl
  exact {
    g__law_pool := h_g__law_pool
    g__law_draw := h_g__law_draw
    g__law_pick := h_g__law_pick
    g__law_names := h_g__law_names
    g__law_model := h_g__law_model
    g__law_words_of := h_g__law_words_of
    g_is_name := h_g_is_name
    g_is_integer := h_g_is_integer
    g_is_between := h_g_is_between
    g_checked_tills := h_g_checked_tills
    g_is_link := h_g_is_link
    g_checked_links := h_g_checked_links
    g_has_kind := h_g_has_kind
    g_is_memory := h_g_is_memory
    g_check_parts := h_g_check_parts
    g__law_made := h_g__law_made
    g__law_touch := h_g__law_touch
    g__law_leads := h_g__law_leads
    g_law := h_g_law
    gc_BadLink := h_gc_BadLink
    gc_BadPart := h_gc_BadPart
    gc_BadTill := h_gc_BadTill
    gc_Till := h_gc_Till
    gc_TooMany := h_gc_TooMany
    gc_Town := h_gc_Town
    b_all := h_b_all
    b_any := h_b_any
    b_bool := h_b_bool
    b_enumerate := h_b_enumerate
    b_int := h_b_int
    b_isinstance := h_b_isinstance
    b_len := h_b_len
    b_list := h_b_list
    b_max := h_b_max
    b_min := h_b_min
    b_range := h_b_range
    b_sorted := h_b_sorted
    b_str := h_b_str
    b_tuple := h_b_tuple
    c_LETTERS := h_c_LETTERS
    c_MOST_LETTERS := h_c_MOST_LETTERS
    c_MOST_LIMIT := h_c_MOST_LIMIT
    c_MOST_MONEY := h_c_MOST_MONEY
    c_MOST_TILLS := h_c_MOST_TILLS
    c_MOST_TOPS := h_c_MOST_TOPS
    mt_Town___len__ := h_mt_Town___len__
    mt_Town___eq__ := h_mt_Town___eq__
    mt_Till___eq__ := h_mt_Till___eq__
    mt_Town___getitem__ := h_mt_Town___getitem__
    mt_Town___contains__ := h_mt_Town___contains__
    mk_Till := h_mk_Till
    mt_Town_names := h_mt_Town_names
    mk_Town := h_mk_Town
    mt_Town_seat := h_mt_Town_seat
    mt_Town_group := h_mt_Town_group
    mt_Town_made := h_mt_Town_made
    mt_Town_parts := h_mt_Town_parts
    mt_Town_with_links := h_mt_Town_with_links
    d_Town___len__ := h_d_Town___len__
    d_Town___eq__ := h_d_Town___eq__
    d_Till___eq__ := h_d_Till___eq__
    d_Town___getitem__ := h_d_Town___getitem__
    d__law_pool := h_d__law_pool
    d__law_draw := h_d__law_draw
    d__law_pick := h_d__law_pick
    d__law_names := h_d__law_names
    d__law_model := h_d__law_model
    d__law_words_of := h_d__law_words_of
    d_Town___contains__ := h_d_Town___contains__
    d_is_name := h_d_is_name
    d_is_integer := h_d_is_integer
    d_is_between := h_d_is_between
    d_Till___init__ := h_d_Till___init__
    d_checked_tills := h_d_checked_tills
    d_is_link := h_d_is_link
    d_checked_links := h_d_checked_links
    d_Town_names := h_d_Town_names
    d_has_kind := h_d_has_kind
    d_is_memory := h_d_is_memory
    d_check_parts := h_d_check_parts
    d_Town___init__ := h_d_Town___init__
    d__law_made := h_d__law_made
    d__law_touch := h_d__law_touch
    d__law_leads := h_d__law_leads
    d_Town_seat := h_d_Town_seat
    d_Town_group := h_d_Town_group
    d_Town_made := h_d_Town_made
    d_Town_parts := h_d_Town_parts
    d_Town_with_links := h_d_Town_with_links
    d_law := h_d_law
    d_BadLink___init__ := h_d_BadLink___init__
    d_BadPart___init__ := h_d_BadPart___init__
    d_BadTill___init__ := h_d_BadTill___init__
    d_TooMany___init__ := h_d_TooMany___init__
    tab := tabB_ok (G := G K) x0
    kt_Town___init___links := x1
    kt_Town___init___memory := x2
    xc_BadLink := xcB_ok x3
    xi0_BadLink := ⟨of_decide_eq_true (and2 x4).1, of_decide_eq_true (and2 x4).2⟩
    xb_BadLink := ⟨of_decide_eq_true (and2 x5).1, (and2 (and2 x5).2).1, xfc_ok (and2 (and2 x5).2).2, h_GLOTownError⟩
    xc_BadPart := xcB_ok x6
    xi0_BadPart := ⟨of_decide_eq_true (and2 x7).1, of_decide_eq_true (and2 x7).2⟩
    xb_BadPart := ⟨of_decide_eq_true (and2 x8).1, (and2 (and2 x8).2).1, xfc_ok (and2 (and2 x8).2).2, h_GLOTownError⟩
    xc_BadTill := xcB_ok x9
    xi0_BadTill := ⟨of_decide_eq_true (and2 x10).1, of_decide_eq_true (and2 x10).2⟩
    xb_BadTill := ⟨of_decide_eq_true (and2 x11).1, (and2 (and2 x11).2).1, xfc_ok (and2 (and2 x11).2).2, h_GLOTownError⟩
    xc_TooMany := xcB_ok x12
    xi0_TooMany := ⟨of_decide_eq_true (and2 x13).1, of_decide_eq_true (and2 x13).2⟩
    xb_TooMany := ⟨xfcT_ok x14, h_FREEOverflowError⟩
    xn_BadLink := of_decide_eq_true x15
    xn_BadPart := of_decide_eq_true x16
    xn_BadTill := of_decide_eq_true x17
    xn_TooMany := of_decide_eq_true x18
    sp_LN_Town_Town := x19
    sp_EQ_Town_Town := x20
    nf_EQ_Town_Town := x21
    ne_EQ_Town_Town := x22
    sp_EQ_Till_Town_Till := x23
    nf_EQ_Till_Town_Till := x24
    ne_EQ_Till_Town_Till := x25
    sp_EQ_Till_Town_Town := x26
    nf_EQ_Till_Town_Town := x27
    ne_EQ_Till_Town_Town := x28
    sp_GI_Town_Town := x29
    sp_IN_Town_Town := x30
  }
end Lw
open PySem PySem.W PySem.Calls PyProof.Rows
theorem Lw.end_ (hl : ∀ ns : List Int, ns.length ≤ 63 → Lw.f_law [.v (.scr ns)] = .ret (.val (.bl true)) []) : PySem.Challenge.rw_cutofftills_k05_whole_groups.Holds := by
  w_on; o_law
  refine HandSHeadRun.head_any (r := OpenLaw.row PySem.Challenge.rw_cutofftills_k05_whole_groups) (q := view (OpenLaw.row PySem.Challenge.rw_cutofftills_k05_whole_groups).prog [38]) (H := Lw.hk) (ob := Lw.ob) (M := 60000) (loose := Lw.loose) (d := HandSHeadRun.topDef (OpenLaw.row PySem.Challenge.rw_cutofftills_k05_whole_groups).prog 38) (kwd := []) Lw.ob_eq
    (by kernel_rfl) (fun s => by kernel_rfl) Lw.run (by kernel_rfl) (by kernel_rfl) (by kernel_rfl) (by rfl) (by first | assumption | decide +kernel) (by decide +kernel) ⟨rfl, rfl, rfl, rfl, rfl, by decide +kernel⟩ ?hw ?hc
  case hw => w_witness2
  case hc =>
    refine PyD.walk_ofW (l := PySem.Challenge.rw_cutofftills_k05_whole_groups) (n := 63) (k := 14) (x := (PySem.Str.ofString "_law_script")) rfl (by decide) (by kernel_rfl) ⟨⟨rfl, by decide, by decide⟩, rfl⟩ ?F PyD.hCX_ok
    intro w mg fa h Y Gn hmg0
    obtain ⟨K, KX, c, cm⟩ := Y
    have hmg : mg (PySem.Str.ofString "law") = some (.ref fa) := by
      have e : (HandSHeadRun.topDef (OpenLaw.row PySem.Challenge.rw_cutofftills_k05_whole_groups).prog 38).name = (PySem.Str.ofString "law") := by kernel_rfl
      rw [← e]
      exact hmg0
    have Z := Lw.facts KX Gn c cm
    obtain ⟨fd, F⟩ := Z.d_law
    have ef : He.fAd K ((PySem.Str.ofString "law"), none) = fa := by have e := Z.g_law; rw [hmg] at e; exact (Value.ref.inj (Option.some.inj e)).symm
    have b := L2.FunD.bindsA (ps := Lw.P_law) F fun _ _ _ _ _ _ us hl => match us, hl with | [_], _ => rfl
    refine ⟨K, fd, PyD.spF (Lw.G K) 1 Lw.f_law, KX, fun s v => b s [v] rfl, fun H a ns hl2 _ hS => PyD.law_sp hl H a ns hl2 hS, fun base KB GB => ?_⟩
    subst ef
    exact Lw.okf_law Z F

namespace Lw
open PySem L2 TL PyD
theorem nr {α : Type} {a b : α} (h : a = b) : a = b := h
theorem draw (p : Pl) (n : Int) (hn : 0 < n) (h3 : n < 1073741824) : f__law_draw [.o (poolD p), .v (.int n)] = .ret (.val (.int (pd p n))) [poolD (pn p n)] := by
  obtain ⟨a, b, h0, hb, hb2⟩ := p
  have e1 : mulC b 48271 = true := mulC_r (by omega) (by omega)
  have e2 : mulC ((b * 48271 + 11) % 2147483647) ((b * 48271 + 11) % 2147483647) = true := mulC_r (by omega) (by omega)
  have e3 : divC a n = true := divC_ok hn h3
  have e4 : ∀ i, divC i 16 = true := fun i => divC_ok (by decide) (by decide)
  by_cases h : 0 < a
  · simp [f__law_draw, x_mkFn, b__law_draw, poolD, pd, pn, h, hn, h3, atI, ixN, setD, e3]
  · simp [f__law_draw, x_mkFn, b__law_draw, poolD, pd, pn, h, hn, h3, atI, ixN, setD, e1, e2, e4]
theorem drawE (p : Pl) (n : Int) (hn : 0 < n) (h3 : n < 1073741824) : ∃ a q, 0 ≤ a ∧ a < n ∧ f__law_draw [.o (poolD p), .v (.int n)] = .ret (.val (.int a)) [poolD q] :=
  ⟨_, _, pd_nonneg p hn, pd_lt p hn, draw p n hn h3⟩
theorem pow18 : powD (.int 10) (.int 18) = some (.val (.int 1000000000000000000)) := by rfl
theorem lst2 {x y : D} : lstD [x, y] = some (.new (.lst [x, y])) := by rfl
theorem pool (ns : List Int) (k : Int) (hk : 0 ≤ k) (hk2 : k ≤ 100) : ∃ p, f__law_pool [.v (.scr ns), .v (.int k)] = .ret (.new (poolD p)) [] := by
  -- what is made of the size
  have key : ∀ z : Int, 0 ≤ z → ∃ p : Pl, p.a = z * (if 1000000000000000000 ≤ z then 1 else 0) ∧ p.b = (((z % 2147483629 + 104729 * (k + 1)) * 48271 % 2147483629 + 1) * ((z % 2147483629 + 104729 * (k + 1)) * 48271 % 2147483629 + 1)) % 2147483629 := fun z hz =>
    ⟨⟨_, _, by split <;> simp [hz], Int.emod_nonneg _ (by decide), by have := Int.emod_lt_of_pos (((z % 2147483629 + 104729 * (k + 1)) * 48271 % 2147483629 + 1) * ((z % 2147483629 + 104729 * (k + 1)) * 48271 % 2147483629 + 1)) (show (0 : Int) < 2147483629 by decide); omega⟩, rfl, rfl⟩
  have m1 : mulC 104729 (k + 1) = true := mulC_l (by decide) (by decide)
  have m2 : ∀ i, mulC i 48271 = true := fun i => mulC_r (by decide) (by decide)
  have m3 : ∀ i : Int, mulC (i % 2147483629 + 1) (i % 2147483629 + 1) = true := fun i => mulC_l (by omega) (by omega)
  have m4 : ∀ (i : Int) (b : Bool), mulC i (if b = true then 1 else 0) = true := fun i b => mulC_r (by split <;> decide) (by split <;> decide)
  have m5 : ∀ (i : Int) (c : Prop) [Decidable c], mulC i (if c then 1 else 0) = true := fun i c _ => mulC_r (by split <;> decide) (by split <;> decide)
  have m6 : mulC 7 0 = true := by decide
  by_cases h : k < ns.length
  · have hi : atI ns k = some (ns[k.toNat]'(by omega)) := by
      rw [atI_of hk h]; simp
    have hz : 0 ≤ (if (-1 - (ns[k.toNat]'(by omega))) > (ns[k.toNat]'(by omega)) then (-1 - (ns[k.toNat]'(by omega))) else (ns[k.toNat]'(by omega))) := by split <;> omega
    obtain ⟨p, h1, h2⟩ := key _ hz
    refine ⟨p, ?_⟩
    simp [f__law_pool, x_mkFn, b__law_pool, h, hi, m1, m2, m3, m4, m5, pow18, lst2, poolD, h1, h2, negD]
  · obtain ⟨p, h1, h2⟩ := key 7 (by decide)
    refine ⟨p, ?_⟩
    simp [f__law_pool, x_mkFn, b__law_pool, h, m1, m2, m3, m4, m5, m6, pow18, lst2, poolD, h1, h2]
end Lw

namespace Lw
open PySem L2 TL PyD
theorem pick (p : Pl) (xs : List D) (h : 0 < xs.length) (h2 : xs.length < 1073741824) : ∃ x, xs[(pd p xs.length).toNat]? = some x ∧ f__law_pick [.o (poolD p), .v (.lst xs)] = .ret (.val x) [poolD (pn p xs.length)] := by
  have h1 := pd_nonneg p (n := xs.length) (by omega)
  have h3 := pd_lt p (n := xs.length) (by omega)
  have e : atI xs (pd p xs.length) = xs[(pd p xs.length).toNat]? := atI_of h1 h3
  have l : (pd p xs.length).toNat < xs.length := by omega
  refine ⟨xs[(pd p xs.length).toNat], List.getElem?_eq_getElem l, ?_⟩
  rw [List.getElem?_eq_getElem l] at e
  simp [f__law_pick, x_mkFn, b__law_pick, draw p xs.length (by omega) (by omega), e]
theorem pickE (p : Pl) (xs : List D) (h : 0 < xs.length) (h2 : xs.length < 1073741824) : ∃ x q, x ∈ xs ∧ f__law_pick [.o (poolD p), .v (.lst xs)] = .ret (.val x) [poolD q] := by
  obtain ⟨x, h1, h3⟩ := pick p xs h h2
  exact ⟨x, _, List.mem_of_getElem? h1, h3⟩
end Lw

namespace Lw
open PySem L2 TL PyD
/-- what is wanted of a turn: it goes on, the script in its place -/
def sumS (o : SOut) : Option PyD.Slot × Nat := match o with
  | .nx (s :: t) => (s, t.length)
  | _ => (none, 0)
theorem sumS_nx {o : SOut} {sl : PyD.Slot} {n : Nat} (h : sumS o = (some sl, n)) : ∃ t, o = .nx (some sl :: t) ∧ t.length = n := by
  unfold sumS at h
  split at h
  · rename_i s t
    cases h
    exact ⟨t, rfl, rfl⟩
  · cases h
/-- the law's loop -/
theorem loopG (b : MS) (N : Nat) (ns : List Int) (turn : ∀ (k : Int) (t : Rho), 0 ≤ k → k ≤ 100 → (some (.val (.int k)) :: t).length = N → ∃ t', b (some (.val (.scr ns)) :: some (.val (.int k)) :: t) = .nx (some (.val (.scr ns)) :: t') ∧ t'.length = N) : ∀ (ds : List D), (∀ d ∈ ds, ∃ k : Int, d = .int k ∧ 0 ≤ k ∧ k ≤ 100) → ∀ t : Rho, t.length = N → 0 < N → ∃ t', t'.length = N ∧ forD (gN 1) b ds (some (.val (.scr ns)) :: t) = .nx (some (.val (.scr ns)) :: t')
  | [], _, t, ht, _ => ⟨t, ht, rfl⟩
  | d :: ds, h, t, ht, h0 => by
    obtain ⟨k, rfl, h1, h2⟩ := h _ (List.mem_cons_self ..)
    cases t with
    | nil => simp at ht; omega
    | cons s t =>
      obtain ⟨t1, e1, l1⟩ := turn k t h1 h2 (by simpa using ht)
      obtain ⟨t2, l2, e2⟩ := loopG b N ns turn ds (fun d hd => h d (List.mem_cons_of_mem _ hd)) t1 l1 h0
      refine ⟨t2, l2, ?_⟩
      rw [x_forC]
      simp only [x_gN, List.length_cons, List.set_cons_succ, List.set_cons_zero]
      rw [if_pos (by omega)]
      simp only [x_optS, e1, x_loopSn]
      exact e2
end Lw

namespace Lw
open PySem PySem.Spec PyProof.Rows L2 TL PyD
abbrev LET : Str := PySem.Str.ofString "abcdefghijklmnopqrstuvwxyz"
theorem let_len : LET.length = 26 := by decide +kernel
theorem let_list : LET.cps.toList = (List.range 26).map (· + 97) := by decide +kernel
theorem let_llen : LET.cps.toList.length = 26 := by decide +kernel
def inL (c : Nat) : Bool := decide (c ∈ LET.cps.toList)
def isNm (s : Str) : Bool := decide (1 ≤ (s.length : Int)) && (decide ((s.length : Int) ≤ 8) && s.cps.toList.all inL)
theorem blsD_map {α : Type} (p : α → Bool) : ∀ xs : List α, blsD (xs.map fun c => D.bl (p c)) = some (xs.map p)
  | [] => rfl
  | x :: xs => by simp [blsD, blsD_map p xs]
theorem isi_str (s : Str) : isiD' T [.str s, .ty "str"] = some (.val (.bl true)) := nr rfl
abbrev inX : D → D → Option Res := orF (inD false) (eqOD false (inO IN_Town))
theorem in_let (c : Nat) : inX (.str ⟨#[c]⟩) (.str LET) = some (.val (.bl (inL c))) := by
  simp [inL]
theorem is_name_str (s : Str) (h : s.length ≤ 16777216) : f_is_name [.v (.str s)] = .ret (.val (.bl (isNm s))) [] := by
  have hl : lcD [1] (gN 1) mYes (mBin inX (mVar 1) (mC (.str LET))) (signsD s) [] [some (.val (.str s)), none] = .ok ((s.cps.toList.map fun c => D.bl (inL c))) [some (.val (.str s)), none] := by
    have := lc_map (vs := [1]) (f := gN 1) (t := mYes) (me := mBin inX (mVar 1) (mC (.str LET))) (ρ := [some (.val (.str s)), none]) (ds := signsD s) (acc := []) (g := fun d => match inX d (.str LET) with | some (.val d) => d | _ => .non) ?_ ?_
    · rw [this]; simp only [signsD, List.map_map, List.nil_append]
      congr 1
      refine List.map_congr_left fun c _ => ?_
      simp only [Function.comp, in_let]
    · intro d hd
      simp only [signsD, List.mem_map] at hd
      obtain ⟨c, _, rfl⟩ := hd
      refine ⟨[some (.val (.str s)), some (.val (.str ⟨#[c]⟩))], .val (.bl (inL c)), by simp, by simp, ?_, ?_, by simp⟩
      · simp only [x_mBin, x_mVar, x_mC]
        simp only [List.getElem?_cons_succ, List.getElem?_cons_zero, x_varRv, x_bindFv, x_op2, x_resV, x_optO, in_let, x_fOut]
      · simp only [x_frzV, in_let]
    · simp [signsD]; exact h
  have hL : PySem.Str.ofString "abcdefghijklmnopqrstuvwxyz" = LET := rfl
  have hb := blsD_map inL s.cps.toList
  by_cases c1 : 1 ≤ (s.length : Int)
  · by_cases c2 : (s.length : Int) ≤ 8
    · simp [f_is_name, x_mkFn, b_is_name, isi_str, h, c1, c2, isNm, hL, hl, hb]
    · simp [f_is_name, x_mkFn, b_is_name, isi_str, h, c1, c2, isNm]
  · simp [f_is_name, x_mkFn, b_is_name, isi_str, h, c1, isNm]
theorem app_tl (x y : Str) : (x ++ y).cps.toList = x.cps.toList ++ y.cps.toList := by
  show (x.cps ++ y.cps).toList = _
  simp
theorem app_len (x y : Str) : (x ++ y).length = x.length + y.length := by
  show (x.cps ++ y.cps).size = _
  simp [Str.length]
theorem hLET : PySem.Str.ofString "abcdefghijklmnopqrstuvwxyz" = LET := rfl
/-- the names -/
def PRE : List (Str × Str) := [(Str.ofString "", Str.ofString ""), (Str.ofString "", Str.ofString "q"), (Str.ofString "ab", Str.ofString ""), (Str.ofString "abcdefg", Str.ofString ""), (Str.ofString "", Str.ofString "abcdefg")]
theorem pre_ok : ∀ x ∈ PRE, x.1.length + 1 + x.2.length ≤ 8 ∧ x.1.cps.toList.all inL = true ∧ x.2.cps.toList.all inL = true := by decide +kernel
theorem let_at (i : Int) (h : 0 ≤ i) (h2 : i < 26) : inL (i.toNat + 97) = true ∧ atI LET.cps.toList i = some (i.toNat + 97) := by
  refine ⟨?_, ?_⟩
  · unfold inL; rw [let_list]; simp; omega
  · rw [atI_of h (by rw [let_llen]; exact h2), let_list]
    simp only [List.getElem?_map]
    rw [List.getElem?_eq_getElem (by simp; omega)]
    simp
/-- a name: an end, its sign, an end -/
def nmC (y : Str × Str) (c : Nat) : Str := y.1 ++ ⟨#[c]⟩ ++ y.2
theorem nm_of (x : Str × Str) (c : Nat) (h : x ∈ PRE) (hc : inL c = true) : isNm (nmC x c) = true := by
  obtain ⟨h1, h2, h3⟩ := pre_ok x h
  unfold isNm nmC
  rw [app_tl, app_tl, app_len, app_len, show (⟨#[c]⟩ : Str).length = 1 from rfl]
  simp only [List.all_append, h2, h3, Bool.and_true, Bool.true_and]
  simp [hc]; omega
theorem ltC_pre : ∀ (p a b : List Nat), ltCps (p ++ a) (p ++ b) = ltCps a b
  | [], a, b => rfl
  | x :: p, a, b => by simp [ltCps, ltC_pre p a b]
theorem nm_lt (y : Str × Str) (c d : Nat) : ltS (nmC y c) (nmC y d) = decide (c < d) := by
  unfold ltS nmC
  rw [app_tl, app_tl, app_tl, app_tl, List.append_assoc, List.append_assoc, ltC_pre]
  simp only [List.cons_append, List.nil_append, ltCps, ltC_irr, Bool.and_false, Bool.or_false]
theorem nm_inj (y : Str × Str) (c d : Nat) (h : nmC y c = nmC y d) : c = d := by
  have h1 := nm_lt y c d
  have h2 := nm_lt y d c
  rw [h] at h1 h2
  have e : ltS (nmC y d) (nmC y d) = false := ltC_irr _
  rw [e] at h1 h2
  have h1 := (decide_eq_false_iff_not.mp h1.symm)
  have h2 := (decide_eq_false_iff_not.mp h2.symm)
  omega
/-- the sign of the i-th name -/
def sgA (a s : Int) (i : Nat) : Nat := ((a + s * (i : Nat)) % 26).toNat + 97
theorem sg_in (a s : Int) (i : Nat) : inL (sgA a s i) = true := (let_at ((a + s * (i : Nat)) % 26) (by omega) (by omega)).1
theorem sg_ne (a s : Int) (i j : Nat) (hs : s = 1 ∨ s = 3 ∨ s = 5 ∨ s = 7 ∨ s = 9 ∨ s = 11) (hi : i < 4) (hj : j < 4) (h : i ≠ j) : sgA a s i ≠ sgA a s j := by
  unfold sgA
  intro e
  have hi' : i = 0 ∨ i = 1 ∨ i = 2 ∨ i = 3 := by omega
  have hj' : j = 0 ∨ j = 1 ∨ j = 2 ∨ j = 3 := by omega
  rcases hs with rfl | rfl | rfl | rfl | rfl | rfl <;> rcases hi' with rfl | rfl | rfl | rfl <;> rcases hj' with rfl | rfl | rfl | rfl <;> first | (exact h rfl) | (simp at e; omega)
theorem names (p : Pl) (n : Int) (h1 : 1 ≤ n) (h4 : n ≤ 4) : ∃ y ∈ PRE, ∃ a s q, (s = 1 ∨ s = 3 ∨ s = 5 ∨ s = 7 ∨ s = 9 ∨ s = 11) ∧ f__law_names [.o (poolD p), .v (.int n)] = .ret (.new (.lst (((List.range n.toNat).map fun i => nmC y (sgA a s i)).map .str))) [poolD q] := by
  obtain ⟨a, ha⟩ : ∃ a, pd p 26 = a := ⟨_, rfl⟩
  obtain ⟨p1, hp1⟩ : ∃ p1, pn p 26 = p1 := ⟨_, rfl⟩
  obtain ⟨b, hb⟩ : ∃ b, pd p1 6 = b := ⟨_, rfl⟩
  obtain ⟨p2, hp2⟩ : ∃ p2, pn p1 6 = p2 := ⟨_, rfl⟩
  have d1 := draw p 26 (by decide) (by decide)
  have d2 := draw p1 6 (by decide) (by decide)
  rw [ha, hp1] at d1
  rw [hb, hp2] at d2
  obtain ⟨x, hx, pk⟩ := pick p2 (PRE.map lkD) (by decide) (by decide)
  obtain ⟨y, hy, rfl⟩ : ∃ y ∈ PRE, x = lkD y := by
    obtain ⟨y, hy, e⟩ := List.mem_map.mp (List.mem_of_getElem? hx)
    exact ⟨y, hy, e.symm⟩
  obtain ⟨q, hq⟩ : ∃ q, pn p2 (PRE.map lkD).length = q := ⟨_, rfl⟩
  rw [hq] at pk
  have pk2 : f__law_pick [.o (poolD p2), .v (.lst [.tup [.str (Str.ofString ""), .str (Str.ofString "")], .tup [.str (Str.ofString ""), .str (Str.ofString "q")], .tup [.str (Str.ofString "ab"), .str (Str.ofString "")], .tup [.str (Str.ofString "abcdefg"), .str (Str.ofString "")], .tup [.str (Str.ofString ""), .str (Str.ofString "abcdefg")]])] = .ret (.val (.tup [.str y.1, .str y.2])) [poolD q] := pk
  have b0 := pd_nonneg p1 (n := 6) (by decide)
  have b1 := pd_lt p1 (n := 6) (by decide)
  rw [hb] at b0 b1
  have l1 := pre_ok y hy
  have m1 : mulC 2 b = true := mulC_l (by decide) (by decide)
  obtain ⟨s, hs⟩ : ∃ s, 1 + 2 * b = s := ⟨_, rfl⟩
  have m2 : ∀ i, mulC s i = true := fun i => mulC_l (by omega) (by omega)
  have at0 := fun (i : Nat) => (let_at ((a + s * (i : Nat)) % 26) (by omega) (by omega)).2
  have a0 := at0 0
  have a1 := at0 1
  have a2 := at0 2
  have a3 := at0 3
  have lcc : ∀ c : Nat, (⟨#[c]⟩ : Str).length = 1 := fun _ => rfl
  have g1 : y.1.length + 1 ≤ 16777216 := by omega
  have g2 : ∀ c : Nat, (y.1 ++ ⟨#[c]⟩).length + y.2.length ≤ 16777216 := fun c => by rw [app_len, lcc]; omega
  refine ⟨y, hy, a, s, q, by omega, ?_⟩
  simp at a0 a1 a2 a3
  have cs : n = 1 ∨ n = 2 ∨ n = 3 ∨ n = 4 := by omega
  rcases cs with rfl | rfl | rfl | rfl
  · have rg : rangeD 0 1 = [.int 0] := rfl
    have rr : List.range (1 : Int).toNat = [0] := rfl
    rw [rr]
    simp [f__law_names, x_mkFn, b__law_names, hLET, d1, d2, pk2, List.replicate, m1, hs, m2, a0, a1, a2, a3, lcc, g1, g2, rg, x_lcC, let_len, nmC, sgA]
  · have rg : rangeD 0 2 = [.int 0, .int 1] := rfl
    have rr : List.range (2 : Int).toNat = [0, 1] := rfl
    rw [rr]
    simp [f__law_names, x_mkFn, b__law_names, hLET, d1, d2, pk2, List.replicate, m1, hs, m2, a0, a1, a2, a3, lcc, g1, g2, rg, x_lcC, let_len, nmC, sgA]
  · have rg : rangeD 0 3 = [.int 0, .int 1, .int 2] := rfl
    have rr : List.range (3 : Int).toNat = [0, 1, 2] := rfl
    rw [rr]
    simp [f__law_names, x_mkFn, b__law_names, hLET, d1, d2, pk2, List.replicate, m1, hs, m2, a0, a1, a2, a3, lcc, g1, g2, rg, x_lcC, let_len, nmC, sgA]
  · have rg : rangeD 0 4 = [.int 0, .int 1, .int 2, .int 3] := rfl
    have rr : List.range (4 : Int).toNat = [0, 1, 2, 3] := rfl
    rw [rr]
    simp [f__law_names, x_mkFn, b__law_names, hLET, d1, d2, pk2, List.replicate, m1, hs, m2, a0, a1, a2, a3, lcc, g1, g2, rg, x_lcC, let_len, nmC, sgA]
end Lw

namespace Lw
open PySem PySem.Spec PyProof.Rows L2 TL PyD
abbrev sN : Str := Str.ofString "name"
abbrev sL : Str := Str.ofString "limit"
abbrev sH : Str := Str.ofString "heeds"
def till (n : Str) (l : Int) (h : Bool) : D := .obj 0 [(sN, .str n), (sL, .int l), (sH, .bl h)]
theorem between (n lo hi : Int) : f_is_between [.v (.int n), .v (.int lo), .v (.int hi)] = .ret (.val (.bl (decide (lo ≤ n) && decide (n ≤ hi)))) [] := by
  have e : f_is_integer [.v (.int n)] = .ret (.val (.bl true)) [] := rfl
  by_cases h : lo ≤ n <;> simp [f_is_between, x_mkFn, b_is_between, e, h]
theorem bt (x : D) (h : f_is_integer [.v x] = .ret (.val (.bl false)) []) (lo hi : Int) : f_is_between [.v x, .v (.int lo), .v (.int hi)] = .ret (.val (.bl false)) [] := by simp [f_is_between, x_mkFn, b_is_between, h]
theorem isi_bl (b : Bool) : isiD' T [.bl b, .ty "bool"] = some (.val (.bl true)) := nr rfl
theorem isNm_len {s : Str} (h : isNm s = true) : s.length ≤ 8 := by
  unfold isNm at h; simp at h; omega
theorem nm_t {s : Str} (h : isNm s = true) : f_is_name [.v (.str s)] = .ret (.val (.bl true)) [] := by
  have := isNm_len h
  rw [is_name_str s (by omega), h]
theorem lim_t {i : Int} (h : 0 ≤ i) (h2 : i ≤ 9) : f_is_between [.v (.int i), .v (.int 0), .v (.int 9)] = .ret (.val (.bl true)) [] := by
  rw [between]; simp [h, h2]
theorem nm_so {s : Str} (h : isNm s = true) : PyData.strOk s = true := by
  unfold isNm at h
  simp only [Bool.and_eq_true] at h
  refine strOk_of fun c hc => ?_
  have := List.all_eq_true.mp h.2.2 c hc
  unfold inL at this
  rw [let_list] at this
  simp at this
  omega
theorem init_ok (s : Str) (i : Int) (b : Bool) (h : isNm s = true) (h1 : 0 ≤ i) (h2 : i ≤ 9) : f_Till___init__ [.o (.obj 0 []), .v (.str s), .v (.int i), .v (.bl b)] = .ret (.val .non) [till s i b] := by
  simp [f_Till___init__, x_mkFn, b_Till___init__, nm_t h, lim_t h1 h2, isi_bl, Tn, Tf0, till]
theorem isi_till (n : Str) (l : Int) (h : Bool) : isiD' T [till n l h, .cls C_Till] = some (.val (.bl true)) := nr rfl
/-! checked_tills -/
structure Tl where
  n : Str
  l : Int
  h : Bool
def Tl.d (t : Tl) : D := till t.n t.l t.h
/-- is a text among texts? -/
theorem inStrs (x : Str) (hx : PyData.strOk x = true) (ys : List Str) (hy : ∀ y ∈ ys, PyData.strOk y = true) : inD false (.str x) (.lst (ys.map .str)) = some (.val (.bl (decide (x ∈ ys)))) := by
  have tp : toPys (ys.map .str) = some (ys.map .str) := by
    induction ys with
    | nil => simp
    | cons y ys ih => simp [ih (fun z hz => hy z (List.mem_cons_of_mem _ hz))]
  have cl : PyData.canLayAll0 (ys.map .str) = true := by
    clear tp
    induction ys with
    | nil => simp
    | cons y ys ih => simp [hy y (List.mem_cons_self ..), ih (fun z hz => hy z (List.mem_cons_of_mem _ hz))]
  have dp : PyData.depthAll (ys.map .str) = 0 := by
    clear tp cl hy
    induction ys with
    | nil => simp
    | cons y ys ih => simp [ih]
  have an : ((ys.map PyData.str).any fun z => PyData.eqv z (.str x)) = decide (x ∈ ys) := by
    clear tp cl dp hy
    induction ys with
    | nil => simp
    | cons y ys ih =>
      simp only [List.map_cons, List.any_cons, ih, x_evSS, List.mem_cons, Bool.decide_or]
      congr 1
      exact decide_eq_decide.mpr eq_comm
  simp [tp, cl, dp, hx]
  simpa using an
theorem ct_step {x0 x2 x3 : Option PyD.Slot} (kn : List Str) (i : Nat) (t : Tl) (hk : ∀ y ∈ kn, PyData.strOk y = true) (ht : PyData.strOk t.n = true) (hn : t.n ∉ kn) (hl : kn.length < 100) :
    b_checked_tills_L1 [x0, some (.own none (.lst (kn.map .str))), some (.val (.int i)), some (.val t.d)] = .nx [x0, some (.own none (.lst ((kn ++ [t.n]).map .str))), some (.val (.int i)), some (.val t.d)] := by
  have i1 := isi_till t.n t.l t.h
  have i2 := inStrs t.n ht kn hk
  have e : (decide (t.n ∈ kn)) = false := by simp [hn]
  rw [e] at i2
  have l1 : kn.length < 16777216 := by omega
  simp only [Tl.d, till] at i1 ⊢
  simp [-x_inD, b_checked_tills_L1, i1, i2, Tn, Tf0, l1]
theorem ct_dup {x0 x2 x3 : Option PyD.Slot} (kn : List Str) (i : Nat) (t : Tl) (hk : ∀ y ∈ kn, PyData.strOk y = true) (ht : PyData.strOk t.n = true) (hn : t.n ∈ kn) :
    ∃ ρ, b_checked_tills_L1 [x0, some (.own none (.lst (kn.map .str))), some (.val (.int i)), some (.val t.d)] = .exc ⟨.own C_BadTill, [(Str.ofString "index", .int i)]⟩ (x0 :: ρ) := by
  have i1 := isi_till t.n t.l t.h
  have i2 := inStrs t.n ht kn hk
  have e : (decide (t.n ∈ kn)) = true := by simp [hn]
  rw [e] at i2
  simp only [Tl.d, till] at i1 ⊢
  exact ⟨_, by simp [-x_inD, b_checked_tills_L1, i1, i2, Tn, Tf0]; rfl⟩
theorem ct_odd {x0 : Option PyD.Slot} (kn : List Str) (i : Nat) (d : D) (hd : isiD' T [d, .cls C_Till] = some (.val (.bl false))) :
    ∃ ρ, b_checked_tills_L1 [x0, some (.own none (.lst (kn.map .str))), some (.val (.int i)), some (.val d)] = .exc ⟨.own C_BadTill, [(Str.ofString "index", .int i)]⟩ (x0 :: ρ) := by
  exact ⟨_, by simp [b_checked_tills_L1, hd]; rfl⟩
abbrev gIT : Tg := gT 2 (gsCons (gN 2) (gsCons (gN 3) gsNil))
theorem gIT_ok (i d : D) (a b c e : Option PyD.Slot) : gIT (.tup [i, d]) [a, b, c, e] = some [a, b, some (.val i), some (.val d)] := nr rfl
/-- the loop over good tills, then the rest -/
theorem ct_loop {x0 : Option PyD.Slot} (rest : List D) : ∀ (ts : List Tl) (kn : List Str) (i : Nat) (x2 x3 : Option PyD.Slot), (∀ y ∈ kn, PyData.strOk y = true) → (∀ t ∈ ts, PyData.strOk t.n = true) → (kn ++ ts.map (·.n)).Nodup → kn.length + ts.length < 100 →
    ∃ y2 y3, forD gIT b_checked_tills_L1 (enumFromD i (ts.map Tl.d ++ rest)) [x0, some (.own none (.lst (kn.map .str))), x2, x3] =
      forD gIT b_checked_tills_L1 (enumFromD (i + ts.length) rest) [x0, some (.own none (.lst ((kn ++ ts.map (·.n)).map .str))), y2, y3]
  | [], kn, i, x2, x3, _, _, _, _ => ⟨x2, x3, by simp⟩
  | t :: ts, kn, i, x2, x3, hk, ht, hn, hl => by
    have hn1 : t.n ∉ kn := by
      rw [List.nodup_append] at hn
      intro z
      exact hn.2.2 t.n z t.n (by simp) rfl
    have st := ct_step (x0 := x0) (x2 := x2) (x3 := x3) kn i t hk (ht t (List.mem_cons_self ..)) hn1 (by simp only [List.length_cons] at hl; omega)
    obtain ⟨y2, y3, e⟩ := ct_loop (x0 := x0) rest ts (kn ++ [t.n]) (i + 1) (some (.val (.int i))) (some (.val t.d)) (fun y hy => by
      rcases List.mem_append.mp hy with z | z
      · exact hk y z
      · rw [List.mem_singleton.mp z]; exact ht t (List.mem_cons_self ..)) (fun t' h' => ht t' (List.mem_cons_of_mem _ h')) (by simpa [List.append_assoc] using hn) (by simp only [List.length_append, List.length_cons, List.length_nil] at hl ⊢; omega)
    refine ⟨y2, y3, ?_⟩
    rw [List.map_cons, List.cons_append, x_enumC, x_forC]
    rw [gIT_ok, x_optS, st]
    simp only [x_loopSn]
    rw [e]
    simp only [List.length_cons, List.map_cons, List.append_assoc, List.cons_append, List.nil_append]
    rw [show i + 1 + ts.length = i + (ts.length + 1) by omega]
theorem isi_seqL (xs : List D) : isiD' T [.lst xs, .tup [.ty "list", .ty "tuple"]] = some (.val (.bl true)) := nr rfl
theorem isi_seqT (xs : List D) : isiD' T [.tup xs, .tup [.ty "list", .ty "tuple"]] = some (.val (.bl true)) := nr rfl
/-- tills that are right -/
theorem ct_ok (ts : List Tl) (h0 : ts ≠ []) (h4 : ts.length ≤ 4) (ht : ∀ t ∈ ts, PyData.strOk t.n = true) (hn : (ts.map (·.n)).Nodup) : f_checked_tills [.v (.lst (ts.map Tl.d))] = .ret (.val (.tup (ts.map Tl.d))) [] ∧ f_checked_tills [.v (.tup (ts.map Tl.d))] = .ret (.val (.tup (ts.map Tl.d))) [] := by
  have hp : 0 < ts.length := by cases ts with | nil => exact absurd rfl h0 | cons _ _ => simp
  have hz : ¬ ((ts.length : Int) = 0) := by omega
  have hz' : ¬ (ts = []) := h0
  have h5 : ¬ (4 < (ts.length : Int)) := by omega
  constructor
  · obtain ⟨y2, y3, e⟩ := ct_loop (x0 := some (.val (.lst (ts.map Tl.d)))) [] ts [] 0 none none (by simp) ht (by simpa using hn) (by simp; omega)
    simp only [List.append_nil, x_enumN, x_forN, List.map_nil, List.nil_append] at e
    simp [-x_gT, f_checked_tills, x_mkFn, b_checked_tills, isi_seqL, List.replicate, hz, hz', h5, e]
  · obtain ⟨y2, y3, e⟩ := ct_loop (x0 := some (.val (.tup (ts.map Tl.d)))) [] ts [] 0 none none (by simp) ht (by simpa using hn) (by simp; omega)
    simp only [List.append_nil, x_enumN, x_forN, List.map_nil, List.nil_append] at e
    simp [-x_gT, f_checked_tills, x_mkFn, b_checked_tills, isi_seqT, List.replicate, hz, hz', h5, e]
end Lw

namespace Lw
open PySem PySem.Spec PyProof.Rows L2 TL PyD
theorem ltC_iff : ∀ a b : List Nat, (a < b) ↔ ltCps a b = true
  | [], [] => by simp [ltCps]
  | [], _ :: _ => by simp [ltCps]
  | _ :: _, [] => by simp [ltCps]
  | x :: a, y :: b => by
    rw [List.cons_lt_cons_iff, ltC_iff a b]
    simp [ltCps]
theorem isi_tupT (xs : List D) : isiD' T [.tup xs, .ty "tuple"] = some (.val (.bl true)) := nr rfl
theorem isi_strT (s : Str) : isiD' T [.str s, .ty "str"] = some (.val (.bl true)) := nr rfl
/-- two texts -/
theorem il_pair (a b : Str) (ns : List Str) (ha : PyData.strOk a = true) (hb : PyData.strOk b = true) (hn : ∀ y ∈ ns, PyData.strOk y = true) : f_is_link [.v (.tup [.str a, .str b]), .v (.lst (ns.map .str))] = .ret (.val (.bl (decide (a ∈ ns) && (decide (b ∈ ns) && ltS a b)))) [] := by
  have i1 := inStrs a ha ns hn
  have i2 := inStrs b hb ns hn
  have l : decide (a.cps.toList < b.cps.toList) = ltS a b := by
    unfold ltS
    by_cases h : ltCps a.cps.toList b.cps.toList = true
    · rw [h, decide_eq_true ((ltC_iff _ _).mpr h)]
    · rw [decide_eq_false (fun z => h ((ltC_iff _ _).mp z))]
      cases q : ltCps a.cps.toList b.cps.toList with
      | true => exact absurd q h
      | false => rfl
  have l2 : decide (a.cps < b.cps) = ltS a b := by simpa using l
  by_cases q1 : a ∈ ns <;> by_cases q2 : b ∈ ns <;> simp [-x_inD, q1, q2] at i1 i2 <;> simp [-x_inD, f_is_link, x_mkFn, b_is_link, isi_tupT, isi_strT, List.replicate, x_lcC, atI, ixN, i1, i2, q1, q2, l2]
/-! checked_links -/
def txt (p : Str × Str) : Str := Txt.join (Str.ofString " ") [p.1, p.2]
theorem cut_take (xs : List D) (i : Nat) : PyD.cutD xs none (some (i : Int)) = xs.take i := by
  unfold PyD.cutD
  rw [HT.sIx_nat, HT.sIx_none]
  simp
theorem x_slT {xs : List D} {lo hi : Option Int} : slD (.tup xs) lo hi = some (.val (.tup (PyD.cutD xs lo hi))) := rfl
theorem lkD_inj {p q : Str × Str} : lkD p = lkD q ↔ p = q := by
  obtain ⟨a, b⟩ := p
  obtain ⟨c, d⟩ := q
  simp [lkD]
theorem inPairs (p : Str × Str) (h1 : PyData.strOk p.1 = true) (h2 : PyData.strOk p.2 = true) (qs : List (Str × Str)) (hq : ∀ q ∈ qs, PyData.strOk q.1 = true ∧ PyData.strOk q.2 = true) : anyB (toPy (lkD p)) (toPys (qs.map lkD)) = some (decide (p ∈ qs)) := by
  refine anyB_of (by simp [lkD, h1, h2]) (okds_iff.mpr fun x hx => ?_) (fun y hy => ?_) ?_
  · obtain ⟨q, h, rfl⟩ := List.mem_map.mp hx
    simp [lkD, hq q h]
  · obtain ⟨q, h, rfl⟩ := List.mem_map.mp hy
    simp [lkD, smk, smks]
  · simp only [decide_eq_true_eq, List.mem_map, lkD_inj, exists_eq_right]
abbrev gIL : Tg := gT 2 (gsCons (gN 3) (gsCons (gN 4) gsNil))
theorem gIL_ok (i d : D) (a b c e f g : Option PyD.Slot) : gIL (.tup [i, d]) [a, b, c, e, f, g] = some [a, b, c, some (.val i), some (.val d), g] := nr rfl
/-- links that are right -/
structure LkOk (ls : List (Str × Str)) (ns : List Str) : Prop where
  so : ∀ y ∈ ns, PyData.strOk y = true
  ln : ∀ y ∈ ns, y.length ≤ 8
  m1 : ∀ p ∈ ls, p.1 ∈ ns
  m2 : ∀ p ∈ ls, p.2 ∈ ns
  lt : ∀ p ∈ ls, ltS p.1 p.2 = true
  nd : (ls.map txt).Nodup
  le : ls.length < 60
theorem LkOk.nd2 {ls : List (Str × Str)} {ns : List Str} (h : LkOk ls ns) : ls.Nodup := by
  exact (List.pairwise_map.mp h.nd).imp fun q e => q (congrArg txt e)
theorem LkOk.il {ls : List (Str × Str)} {ns : List Str} (h : LkOk ls ns) {p : Str × Str} (hp : p ∈ ls) : f_is_link [.v (lkD p), .v (.lst (ns.map .str))] = .ret (.val (.bl true)) [] := by
  have := il_pair p.1 p.2 ns (h.so _ (h.m1 p hp)) (h.so _ (h.m2 p hp)) h.so
  simpa [lkD, h.m1 p hp, h.m2 p hp, h.lt p hp] using this
theorem LkOk.sop {ls : List (Str × Str)} {ns : List Str} (h : LkOk ls ns) {p : Str × Str} (hp : p ∈ ls) : PyData.strOk p.1 = true ∧ PyData.strOk p.2 = true := ⟨h.so _ (h.m1 p hp), h.so _ (h.m2 p hp)⟩
theorem cl_step {ls : List (Str × Str)} {ns : List Str} (h : LkOk ls ns) (X : D) (hX : X = .lst (ls.map lkD) ∨ X = .tup (ls.map lkD)) (i : Nat) (p : Str × Str) (hp : p ∈ ls) (hi : p ∉ ls.take i) (x2 x5 : Option PyD.Slot) : b_checked_links_L1 [some (.val X), some (.val (.lst (ns.map .str))), x2, some (.val (.int (i : Nat))), some (.val (lkD p)), x5] = .nx [some (.val X), some (.val (.lst (ns.map .str))), x2, some (.val (.int (i : Nat))), some (.val (lkD p)), x5] := by
  have il := h.il hp
  have s := h.sop hp
  have ip := inPairs p s.1 s.2 (ls.take i) (fun q hq => h.sop (List.mem_of_mem_take hq))
  rw [List.map_take] at ip
  simp only [hi, decide_false] at ip
  rcases hX with rfl | rfl <;> simp [b_checked_links_L1, il, cut_take, ip, x_slT]
theorem cl_loop {ls : List (Str × Str)} {ns : List Str} (h : LkOk ls ns) (X : D) (hX : X = .lst (ls.map lkD) ∨ X = .tup (ls.map lkD)) : ∀ (rest pre : List (Str × Str)) (x2 x3 x4 x5 : Option PyD.Slot), ls = pre ++ rest → ∃ y3 y4, forD gIL b_checked_links_L1 (enumFromD pre.length (rest.map lkD)) [some (.val X), some (.val (.lst (ns.map .str))), x2, x3, x4, x5] = .nx [some (.val X), some (.val (.lst (ns.map .str))), x2, y3, y4, x5]
  | [], pre, x2, x3, x4, x5, e => ⟨x3, x4, by simp⟩
  | p :: rest, pre, x2, x3, x4, x5, e => by
    have hp : p ∈ ls := by rw [e]; simp
    have hn : p ∉ ls.take pre.length := by
      rw [e, List.take_left']
      · have := h.nd2
        rw [e, List.nodup_append] at this
        exact fun z => this.2.2 p z p (List.mem_cons_self ..) rfl
      · rfl
    obtain ⟨y3, y4, q⟩ := cl_loop h X hX rest (pre ++ [p]) x2 (some (.val (.int (pre.length : Nat)))) (some (.val (lkD p))) x5 (by rw [e]; simp)
    refine ⟨y3, y4, ?_⟩
    rw [List.map_cons, x_enumC, x_forC, gIL_ok, x_optS, cl_step h X hX pre.length p hp hn]
    simp only [x_loopSn]
    simpa using q
theorem nd_inr {ls : List (Str × Str)} (h : (ls.map txt).Nodup) : (ls.map fun p => (Sum.inr (txt p) : Key)).Nodup := List.pairwise_map.mpr ((List.pairwise_map.mp h).imp fun q e => q (Sum.inr.inj e))
theorem sp_len : (Str.ofString " ").length = 1 := by decide +kernel
theorem strs_map (ss : List Str) : strsD (ss.map .str) = some ss := by
  induction ss with
  | nil => rfl
  | cons s ss ih => simp [ih]
/-- the links, in the order sl of their texts -/
theorem cl_ok {ls sl : List (Str × Str)} {ns : List Str} (h : LkOk ls ns) (pm : sl.Perm ls) (so : sl.Pairwise fun p q => ltS (txt p) (txt q) = true) (X : D) (hX : X = .lst (ls.map lkD) ∨ X = .tup (ls.map lkD)) : f_checked_links [.v X, .v (.lst (ns.map .str))] = .ret (.val (.tup (sl.map lkD))) [] := by
  obtain ⟨y3, y4, e⟩ := cl_loop h X hX ls [] none none none none rfl
  simp only [List.length_nil] at e
  have tl : ∀ p ∈ ls, p.1.length + p.2.length + 2 ≤ 16777216 := fun p hp => by
    have := h.ln _ (h.m1 p hp)
    have := h.ln _ (h.m2 p hp)
    omega
  have dc := dc_map (vs := [4]) (f := gN 4) (t := mYes) (mk := mMtT "str" joinD (mC (.str (PySem.Str.ofString " "))) (mCons (mVar 4) mNil)) (mv := mVar 4) (kf := fun d => match d with | .tup [.str a, .str b] => .inr (txt (a, b)) | _ => .inl 0) (vf := fun d => d) (ρ := [some (.val X), some (.val (.lst (ns.map .str))), none, y3, none, none]) (ds := ls.map lkD) (acc := []) (fun d hd => by
    obtain ⟨p, hp, rfl⟩ := List.mem_map.mp hd
    have := tl p hp
    refine ⟨[some (.val X), some (.val (.lst (ns.map .str))), none, y3, some (.val (lkD p)), none], .val (.str (txt p)), .val (lkD p), by simp, by simp, ?_, by simp [lkD], by simp, by simp, by simp⟩
    simp [lkD, txt, sp_len, this]) (by
    have : (ls.map lkD).map (fun d => match d with | .tup [.str a, .str b] => (Sum.inr (txt (a, b)) : Key) | _ => .inl 0) = ls.map fun p => (Sum.inr (txt p) : Key) := by
      rw [List.map_map]; rfl
    simp only [List.map_nil, List.nil_append]
    rw [this]
    exact nd_inr h.nd) (by simp; have := h.le; omega)
  have kv : (ls.map lkD).map (fun d => ((match d with | .tup [.str a, .str b] => (Sum.inr (txt (a, b)) : Key) | _ => .inl 0), d)) = ls.map fun p => ((Sum.inr (txt p) : Key), lkD p) := by
    rw [List.map_map]; rfl
  rw [kv, List.nil_append] at dc
  have kd : keysD (ls.map fun p => ((Sum.inr (txt p) : Key), lkD p)) = (ls.map txt).map .str := by
    unfold keysD
    rw [List.map_map, List.map_map]; rfl
  have lc1 := lc_map (vs := [5]) (f := gN 5) (t := mYes) (me := mCB strD (mCons (mVar 5) mNil)) (g := fun d => d) (ρ := [some (.val X), some (.val (.lst (ns.map .str))), none, y3, none, none]) (ds := (ls.map txt).map .str) (acc := []) (fun d hd => by
    obtain ⟨s, hs, rfl⟩ := List.mem_map.mp hd
    exact ⟨[some (.val X), some (.val (.lst (ns.map .str))), none, y3, none, some (.val (.str s))], .val (.str s), by simp, by simp, by simp, rfl, by simp⟩) (by simp; have := h.le; omega)
  rw [List.map_id', List.nil_append] at lc1
  have st : sortS (ls.map txt) = sl.map txt := sortS_of (pm.map txt) (List.pairwise_map.mpr so)
  have lc2 := lc_map (vs := [5]) (f := gN 5) (t := mYes) (me := mIxO GI_Town (mVar 2) (mVar 5)) (g := fun d => match d with | .str s => (valK (ls.map fun p => ((Sum.inr (txt p) : Key), lkD p)) (.inr s)).getD .non | _ => .non) (ρ := [some (.val X), some (.val (.lst (ns.map .str))), some (.own none (.dct (ls.map fun p => ((Sum.inr (txt p) : Key), lkD p)))), y3, none, none]) (ds := (sl.map txt).map .str) (acc := []) (fun d hd => by
    obtain ⟨s, hs, rfl⟩ := List.mem_map.mp hd
    obtain ⟨p, hp, rfl⟩ := List.mem_map.mp hs
    have hv : valK (ls.map fun p => ((Sum.inr (txt p) : Key), lkD p)) (.inr (txt p)) = some (lkD p) := valK_of (by
      rw [List.map_map]
      have : ((fun kv : Key × D => kv.1) ∘ fun p : Str × Str => ((Sum.inr (txt p) : Key), lkD p)) = fun p => Sum.inr (txt p) := rfl
      rw [this]
      exact nd_inr h.nd) (List.mem_map.mpr ⟨p, pm.mem_iff.mp hp, rfl⟩)
    exact ⟨[some (.val X), some (.val (.lst (ns.map .str))), some (.own none (.dct (ls.map fun p => ((Sum.inr (txt p) : Key), lkD p)))), y3, none, some (.val (.str (txt p)))], .val (lkD p), by simp, by simp, by simp [hv], by simp [hv], by simp⟩) (by
      have := pm.length_eq
      have := h.le
      simp; omega)
  have mp : ((sl.map txt).map D.str).map (fun d => match d with | .str s => (valK (ls.map fun p => ((Sum.inr (txt p) : Key), lkD p)) (.inr s)).getD .non | _ => .non) = sl.map lkD := by
    rw [List.map_map, List.map_map]
    refine List.map_congr_left fun p hp => ?_
    have hv : valK (ls.map fun p => ((Sum.inr (txt p) : Key), lkD p)) (.inr (txt p)) = some (lkD p) := valK_of (by
      rw [List.map_map]
      have : ((fun kv : Key × D => kv.1) ∘ fun p : Str × Str => ((Sum.inr (txt p) : Key), lkD p)) = fun p => Sum.inr (txt p) := rfl
      rw [this]
      exact nd_inr h.nd) (List.mem_map.mpr ⟨p, pm.mem_iff.mp hp, rfl⟩)
    simp [hv]
  rw [mp, List.nil_append] at lc2
  have l64 : ls.length < 64 := by have := h.le; omega
  have sm := strs_map (ls.map txt)
  rw [List.map_map] at sm lc1 kd lc2
  rcases hX with rfl | rfl <;> simp [-x_gT, f_checked_links, x_mkFn, b_checked_links, isi_seqL, isi_seqT, List.replicate, e, dc, kd, lc1, sm, st, l64, lc2]
end Lw

namespace Lw
open PySem PySem.Spec PyProof.Rows L2 TL PyD
theorem town_names_v (ts : List Tl) (fs : List (Str × D)) (hl : ts.length ≤ 100) (hf : fs.lookup (Str.ofString "row") = some (.tup (ts.map Tl.d))) : f_Town_names [.v (.obj 1 fs)] = .ret (.new (.lst ((ts.map (·.n)).map .str))) [] := by
  have lc := lc_map (vs := [1]) (f := gN 1) (t := mYes) (me := mUn (fldD T (PySem.Str.ofString "name")) (mVar 1)) (ρ := [some (.val (.obj 1 fs)), none]) (ds := ts.map Tl.d) (acc := []) (g := fun d => match d with | .obj _ ((_, x) :: _) => x | _ => .non) ?_ ?_
  · have e : (ts.map Tl.d).map (fun d => match d with | .obj _ ((_, x) :: _) => x | _ => D.non) = (ts.map (·.n)).map D.str := by
      rw [List.map_map, List.map_map]
      rfl
    rw [e] at lc
    simp [f_Town_names, x_mkFn, b_Town_names, List.replicate, Tn, Tf1, hf] at lc ⊢
    rw [lc]
    simp
  · intro d hd
    obtain ⟨t, _, rfl⟩ := List.mem_map.mp hd
    refine ⟨[some (.val (.obj 1 fs)), some (.val t.d)], .val (.str t.n), by simp, by simp, ?_, rfl, by simp⟩
    simp [Tl.d, till, Tn, Tf0]
  · simp; omega
theorem town_names_o (ts : List Tl) (fs : List (Str × D)) (hl : ts.length ≤ 100) (hf : fs.lookup (Str.ofString "row") = some (.tup (ts.map Tl.d))) : f_Town_names [.o (.obj 1 fs)] = .ret (.new (.lst ((ts.map (·.n)).map .str))) [.obj 1 fs] := by
  have lc := lc_map (vs := [1]) (f := gN 1) (t := mYes) (me := mUn (fldD T (PySem.Str.ofString "name")) (mVar 1)) (ρ := [some (.own (some 0) (.obj 1 fs)), none]) (ds := ts.map Tl.d) (acc := []) (g := fun d => match d with | .obj _ ((_, x) :: _) => x | _ => .non) ?_ ?_
  · have e : (ts.map Tl.d).map (fun d => match d with | .obj _ ((_, x) :: _) => x | _ => D.non) = (ts.map (·.n)).map D.str := by
      rw [List.map_map, List.map_map]
      rfl
    rw [e] at lc
    simp [f_Town_names, x_mkFn, b_Town_names, List.replicate, Tn, Tf1, hf] at lc ⊢
    rw [lc]
    simp
  · intro d hd
    obtain ⟨t, _, rfl⟩ := List.mem_map.mp hd
    refine ⟨[some (.own (some 0) (.obj 1 fs)), some (.val t.d)], .val (.str t.n), by simp, by simp, ?_, rfl, by simp⟩
    simp [Tl.d, till, Tn, Tf0]
  · simp; omega
/-! check_parts -/
theorem hasK (k : Str) (x : D) (kind : Str) (n : Int) : f_has_kind [.v (.tup [.str k, x]), .v (.str kind), .v (.int n)] = .ret (.val (.bl (decide (2 = n) && decide (k = kind)))) [] := by
  by_cases h : 2 = n
  · subst h; simp [f_has_kind, x_mkFn, b_has_kind, isi_tupT, isi_strT, atI, ixN]
  · simp [f_has_kind, x_mkFn, b_has_kind, isi_tupT, isi_strT, h]
theorem hasK1 (k : Str) (kind : Str) (n : Int) : f_has_kind [.v (.tup [.str k]), .v (.str kind), .v (.int n)] = .ret (.val (.bl (decide (1 = n) && decide (k = kind)))) [] := by
  by_cases h : 1 = n
  · subst h; simp [f_has_kind, x_mkFn, b_has_kind, isi_tupT, isi_strT, atI, ixN]
  · simp [f_has_kind, x_mkFn, b_has_kind, isi_tupT, isi_strT, h]
/-- what a card remembers -/
inductive Mem where
  | no | ti (n : Int) | su (n : Int)
def Mem.d : Mem → D
  | .no => .tup [.str (Str.ofString "nothing")]
  | .ti n => .tup [.str (Str.ofString "times"), .int n]
  | .su n => .tup [.str (Str.ofString "sum"), .int n]
def Mem.ok : Mem → Prop
  | .no => True
  | .ti n => 0 ≤ n ∧ n ≤ 9
  | .su n => 0 ≤ n ∧ n ≤ 9
theorem mem_ok (m : Mem) (h : m.ok) : f_is_memory [.v m.d] = .ret (.val (.bl true)) [] := by
  cases m with
  | no => simp [Mem.d, f_is_memory, x_mkFn, b_is_memory, hasK1]
  | ti n => simp [Mem.d, f_is_memory, x_mkFn, b_is_memory, hasK, between, atI, ixN, h.1, h.2]
  | su n => simp [Mem.d, f_is_memory, x_mkFn, b_is_memory, hasK, between, atI, ixN, h.1, h.2]
theorem cp_ok (a c : Int) (m : Mem) (d : Bool) (ha : 0 ≤ a ∧ a ≤ 9) (hm : m.ok) (hc : 0 ≤ c ∧ c ≤ 5) : f_check_parts [.v (.int a), .v m.d, .v (.int c), .v (.bl d)] = .ret (.val .non) [] := by
  simp [f_check_parts, x_mkFn, b_check_parts, between, mem_ok m hm, isi_bl, ha, hc]
/-! a town made -/
structure Twn where
  ts : List Tl
  ls : List (Str × Str)
  money : Int
  mem : Mem
  tops : Int
  num : Bool
def Twn.ns (t : Twn) : List Str := t.ts.map (·.n)
def Twn.d (t : Twn) : D := .obj 1 [(Str.ofString "row", .tup (t.ts.map Tl.d)), (Str.ofString "links", .tup (t.ls.map lkD)), (Str.ofString "money", .int t.money), (Str.ofString "memory", t.mem.d), (Str.ofString "tops", .int t.tops), (Str.ofString "numbered", .bl t.num)]
structure Twn.Ok (t : Twn) : Prop where
  ne : t.ts ≠ []
  l4 : t.ts.length ≤ 4
  nm : ∀ s ∈ t.ns, isNm s = true
  nd : t.ns.Nodup
  lim : ∀ x ∈ t.ts, 0 ≤ x.l ∧ x.l ≤ 9
  lk : LkOk t.ls t.ns
  so : t.ls.Pairwise fun p q => ltS (txt p) (txt q) = true
  mo : 0 ≤ t.money ∧ t.money ≤ 9
  me : t.mem.ok
  to : 0 ≤ t.tops ∧ t.tops ≤ 5
@[simp] theorem fld_row (t : Twn) : fldD T (Str.ofString "row") t.d = some (.val (.tup (t.ts.map Tl.d))) := by simp [Twn.d, Tn, Tf1]
@[simp] theorem fld_links (t : Twn) : fldD T (Str.ofString "links") t.d = some (.val (.tup (t.ls.map lkD))) := by simp [Twn.d, Tn, Tf1]
@[simp] theorem fld_money (t : Twn) : fldD T (Str.ofString "money") t.d = some (.val (.int t.money)) := by simp [Twn.d, Tn, Tf1]
@[simp] theorem fld_memory (t : Twn) : fldD T (Str.ofString "memory") t.d = some (.val t.mem.d) := by simp [Twn.d, Tn, Tf1]
@[simp] theorem fld_tops (t : Twn) : fldD T (Str.ofString "tops") t.d = some (.val (.int t.tops)) := by simp [Twn.d, Tn, Tf1]
@[simp] theorem fld_num (t : Twn) : fldD T (Str.ofString "numbered") t.d = some (.val (.bl t.num)) := by simp [Twn.d, Tn, Tf1]
@[simp] theorem fld_name (x : Tl) : fldD T (Str.ofString "name") x.d = some (.val (.str x.n)) := by simp [Tl.d, till, Tn, Tf0]
@[simp] theorem fld_limit (x : Tl) : fldD T (Str.ofString "limit") x.d = some (.val (.int x.l)) := by simp [Tl.d, till, Tn, Tf0]
@[simp] theorem fld_heeds (x : Tl) : fldD T (Str.ofString "heeds") x.d = some (.val (.bl x.h)) := by simp [Tl.d, till, Tn, Tf0]
theorem isO_town (t : Twn) (m : String) (h : m ≠ "row" ∧ m ≠ "links" ∧ m ≠ "money" ∧ m ≠ "memory" ∧ m ≠ "tops" ∧ m ≠ "numbered") : isO 1 (Str.ofString m) (some t.d) = true := by simp [Twn.d, h]
@[simp] theorem isO_names (t : Twn) : isO 1 (Str.ofString "names") (some t.d) = true := isO_town t _ (by decide)
@[simp] theorem isO_seat (t : Twn) : isO 1 (Str.ofString "seat") (some t.d) = true := isO_town t _ (by decide)
@[simp] theorem isO_group (t : Twn) : isO 1 (Str.ofString "group") (some t.d) = true := isO_town t _ (by decide)
@[simp] theorem isO_parts (t : Twn) : isO 1 (Str.ofString "parts") (some t.d) = true := isO_town t _ (by decide)
@[simp] theorem isO_made (t : Twn) : isO 1 (Str.ofString "made") (some t.d) = true := isO_town t _ (by decide)
@[simp] theorem strip_t (t : Twn) : strip t.d = t.d := by simp [Twn.d]
@[simp] theorem strip_x (x : Tl) : strip x.d = x.d := by simp [Tl.d, till]
@[simp] theorem notO_t (t : Twn) : notO t.d = true := rfl
@[simp] theorem notO_x (x : Tl) : notO x.d = true := rfl
theorem Twn.Ok.so1 {t : Twn} (h : t.Ok) : ∀ x ∈ t.ts, PyData.strOk x.n = true := fun x hx => nm_so (h.nm _ (List.mem_map_of_mem hx))
theorem Twn.names {t : Twn} (h : t.Ok) : f_Town_names [.v t.d] = .ret (.new (.lst (t.ns.map .str))) [] := by
  have := h.l4
  exact town_names_v t.ts _ (by omega) (by simp)
/-- the links may be handed in in another order -/
theorem town_in {t : Twn} (h : t.Ok) (X : D) (hX : X = .lst (t.ts.map Tl.d) ∨ X = .tup (t.ts.map Tl.d)) (ks : List (Str × Str)) (pm : t.ls.Perm ks) (Y : D) (hY : Y = .lst (ks.map lkD) ∨ Y = .tup (ks.map lkD)) : f_Town___init__ [.o (.obj 1 []), .v X, .v Y, .v (.int t.money), .v t.mem.d, .v (.int t.tops), .v (.bl t.num)] = .ret (.val .non) [t.d] := by
  have l4 := h.l4
  have ct := ct_ok t.ts h.ne h.l4 h.so1 h.nd
  have c1 : f_checked_tills [.v X] = .ret (.val (.tup (t.ts.map Tl.d))) [] := by rcases hX with rfl | rfl; exact ct.1; exact ct.2
  have lk : LkOk ks t.ns := ⟨h.lk.so, h.lk.ln, fun p hp => h.lk.m1 p (pm.mem_iff.mpr hp), fun p hp => h.lk.m2 p (pm.mem_iff.mpr hp), fun p hp => h.lk.lt p (pm.mem_iff.mpr hp), ((pm.map txt).nodup_iff).mp h.lk.nd, by have := h.lk.le; rw [pm.length_eq] at this; exact this⟩
  have c2 := cl_ok lk pm h.so Y hY
  have c3 := cp_ok t.money t.tops t.mem t.num h.mo h.me h.to
  have tn := town_names_o t.ts [(Str.ofString "row", .tup (t.ts.map Tl.d))] (by omega) (by simp)
  simp only [List.map_map, Twn.ns] at tn c2
  simp [f_Town___init__, x_mkFn, b_Town___init__, c1, Tn, Tf1, tn, c2, c3, Twn.d]
theorem till_in {x : Tl} (hn : isNm x.n = true) (hl : 0 ≤ x.l ∧ x.l ≤ 9) : f_Till___init__ [.o (.obj 0 []), .v (.str x.n), .v (.int x.l), .v (.bl x.h)] = .ret (.val .non) [x.d] := init_ok x.n x.l x.h hn hl.1 hl.2
end Lw

namespace Lw
open PySem PySem.Spec PyProof.Rows L2 TL PyD
/-! pairs of names in their order -/
def allP : List Str → List (Str × Str)
  | [] => []
  | k :: r => r.map (fun x => (k, x)) ++ allP r
theorem ltC_app : ∀ (a b x y : List Nat), a.length = b.length → ltCps a b = true → ltCps (a ++ x) (b ++ y) = true
  | [], [], _, _, _, h => by cases h
  | [], _ :: _, _, _, h, _ => by cases h
  | _ :: _, [], _, _, h, _ => by cases h
  | p :: a, q :: b, x, y, hl, h => by
    simp only [ltCps, Bool.or_eq_true, decide_eq_true_eq, Bool.and_eq_true, beq_iff_eq, List.cons_append] at h ⊢
    rcases h with h | ⟨e, h⟩
    · exact .inl h
    · exact .inr ⟨e, ltC_app a b x y (by simpa using hl) h⟩
theorem tl_sp : tl (Str.ofString " ") = [32] := by decide +kernel
theorem txt_tl (p : Str × Str) : (txt p).cps.toList = p.1.cps.toList ++ (32 :: p.2.cps.toList) := by
  have : tl (Txt.join (Str.ofString " ") [p.1, p.2]) = tl p.1 ++ (32 :: tl p.2) := by
    rw [join_eq, tl_join, tl_sp]
    simp [joinL]
  exact this
theorem txt_l1 {a b c d : Str} (hl : a.length = c.length) (h : ltS a c = true) : ltS (txt (a, b)) (txt (c, d)) = true := by
  unfold ltS
  rw [txt_tl, txt_tl]
  exact ltC_app _ _ _ _ (by simpa [Str.length] using hl) h
theorem txt_l2 {a b d : Str} (h : ltS b d = true) : ltS (txt (a, b)) (txt (a, d)) = true := by
  unfold ltS
  rw [txt_tl, txt_tl, ltC_pre]
  unfold ltS at h
  simpa [ltCps] using h
theorem allP_mem : ∀ {ks : List Str} {p : Str × Str}, p ∈ allP ks → p.1 ∈ ks ∧ p.2 ∈ ks
  | [], p, h => by cases h
  | k :: r, p, h => by
    simp only [allP, List.mem_append, List.mem_map] at h
    rcases h with ⟨x, hx, rfl⟩ | h
    · simp [hx]
    · have := allP_mem h
      simp [this]
theorem allP_lt : ∀ {ks : List Str}, (ks.Pairwise fun a b => ltS a b = true) → ∀ p ∈ allP ks, ltS p.1 p.2 = true
  | [], _, p, h => by cases h
  | k :: r, hs, p, h => by
    obtain ⟨h1, h2⟩ := List.pairwise_cons.mp hs
    simp only [allP, List.mem_append, List.mem_map] at h
    rcases h with ⟨x, hx, rfl⟩ | h
    · exact h1 x hx
    · exact allP_lt h2 p h
theorem allP_pw : ∀ {ks : List Str} {n : Nat}, (∀ k ∈ ks, k.length = n) → (ks.Pairwise fun a b => ltS a b = true) → (allP ks).Pairwise fun p q => ltS (txt p) (txt q) = true
  | [], _, _, _ => .nil
  | k :: r, n, hl, hs => by
    obtain ⟨h1, h2⟩ := List.pairwise_cons.mp hs
    simp only [allP]
    refine List.pairwise_append.mpr ⟨List.pairwise_map.mpr (h2.imp fun q => txt_l2 q), allP_pw (n := n) (fun x hx => hl x (List.mem_cons_of_mem _ hx)) h2, fun p hp q hq => ?_⟩
    obtain ⟨x, hx, rfl⟩ := List.mem_map.mp hp
    have := allP_mem hq
    obtain ⟨c, d⟩ := q
    exact txt_l1 (by rw [hl k (List.mem_cons_self ..), hl c (List.mem_cons_of_mem _ this.1)]) (h1 c this.1)
theorem allP_len : ∀ ks : List Str, ks.length ≤ 4 → (allP ks).length ≤ 6
  | [], _ => by simp [allP]
  | [_], _ => by simp [allP]
  | [_, _], _ => by simp [allP]
  | [_, _, _], _ => by simp [allP]
  | [_, _, _, _], _ => by simp [allP]
  | _ :: _ :: _ :: _ :: _ :: _, h => by simp at h
theorem rangeD_succ (i : Int) (k : Nat) : rangeD i (k + 1) = .int i :: rangeD (i + 1) k := by
  unfold rangeD
  rw [List.range_succ_eq_map]
  simp only [List.map_cons, List.map_map, List.cons.injEq]
  refine ⟨by simp, List.map_congr_left fun j _ => ?_⟩
  simp only [Function.comp, D.int.injEq]
  omega
theorem cut_drop (xs : List D) (i : Nat) : PyD.cutD xs (some (i : Int)) none = xs.drop i := by
  unfold PyD.cutD
  rw [HT.sIx_nat, HT.sIx_none]
  rcases Nat.le_total i xs.length with h | h
  · rw [Nat.min_eq_left h, List.take_of_length_le]
    simp
  · rw [Nat.min_eq_right h]
    simp [h]
section
variable (x1 x2 x3 x7 x8 x9 : Option PyD.Slot)
theorem md_in (ks : List Str) (i : Nat) (k : Str) (hk : ks[i]? = some k) : ∀ (xs : List Str) (ps : List (Str × Str)) (p : Pl) (x10 : Option PyD.Slot), ps.length + xs.length ≤ 1000 → ∃ qs q y10, qs.Sublist (xs.map fun x => (k, x)) ∧
    forD (gN 10) b__law_model_L1 (xs.map .str) [some (.own (some 0) (poolD p)), x1, x2, x3, some (.own none (.lst (ks.map .str))), some (.own none (.lst (ps.map lkD))), some (.val (.int (i : Nat))), x7, x8, x9, x10] =
      .nx [some (.own (some 0) (poolD q)), x1, x2, x3, some (.own none (.lst (ks.map .str))), some (.own none (.lst ((ps ++ qs).map lkD))), some (.val (.int (i : Nat))), x7, x8, x9, y10]
  | [], ps, p, x10, _ => ⟨[], p, x10, .slnil, by simp⟩
  | x :: xs, ps, p, x10, hl => by
    obtain ⟨a, q, a0, a1, e⟩ := drawE p 3 (by decide) (by decide)
    have hi : i < ks.length := by
      have := List.getElem?_eq_some_iff.mp hk
      exact this.1
    have at_ : atI (ks.map D.str) (i : Nat) = some (.str k) := by
      rw [atI_of (by omega) (by simp; omega)]
      simp [hk]
    simp only [List.length_cons] at hl
    have l1 : ps.length < 16777216 := by omega
    by_cases h : a = 0
    · obtain ⟨qs, q2, y10, sb, e2⟩ := md_in ks i k hk xs (ps ++ [(k, x)]) q (some (.val (.str x))) (by simp; omega)
      refine ⟨(k, x) :: qs, q2, y10, by simpa using sb.cons₂ (k, x), ?_⟩
      have st : b__law_model_L1 [some (.own (some 0) (poolD p)), x1, x2, x3, some (.own none (.lst (ks.map .str))), some (.own none (.lst (ps.map lkD))), some (.val (.int (i : Nat))), x7, x8, x9, some (.val (.str x))] = .nx [some (.own (some 0) (poolD q)), x1, x2, x3, some (.own none (.lst (ks.map .str))), some (.own none (.lst ((ps ++ [(k, x)]).map lkD))), some (.val (.int (i : Nat))), x7, x8, x9, some (.val (.str x))] := by
        simp [b__law_model_L1, e, h, at_, l1, lkD]
      rw [List.map_cons, x_forC]
      simp only [x_gN, List.length_cons, List.length_nil, List.set_cons_succ, List.set_cons_zero]
      rw [if_pos (by decide)]
      simp only [x_optS, st, x_loopSn, e2]
      simp
    · obtain ⟨qs, q2, y10, sb, e2⟩ := md_in ks i k hk xs ps q (some (.val (.str x))) (by omega)
      refine ⟨qs, q2, y10, sb.cons _, ?_⟩
      have st : b__law_model_L1 [some (.own (some 0) (poolD p)), x1, x2, x3, some (.own none (.lst (ks.map .str))), some (.own none (.lst (ps.map lkD))), some (.val (.int (i : Nat))), x7, x8, x9, some (.val (.str x))] = .nx [some (.own (some 0) (poolD q)), x1, x2, x3, some (.own none (.lst (ks.map .str))), some (.own none (.lst (ps.map lkD))), some (.val (.int (i : Nat))), x7, x8, x9, some (.val (.str x))] := by
        simp [b__law_model_L1, e, h]
      rw [List.map_cons, x_forC]
      simp only [x_gN, List.length_cons, List.length_nil, List.set_cons_succ, List.set_cons_zero]
      rw [if_pos (by decide)]
      simp only [x_optS, st, x_loopSn, e2]
theorem md_out (ks : List Str) (hks : ks.length ≤ 4) : ∀ (n : Nat) (i : Nat) (ps : List (Str × Str)) (p : Pl) (x6 x10 : Option PyD.Slot), i + n = ks.length → ps.length + 10 * n ≤ 900 → ∃ qs q y6 y10, qs.Sublist (allP (ks.drop i)) ∧
    forD (gN 6) b__law_model_L2 (rangeD (i : Nat) n) [some (.own (some 0) (poolD p)), x1, x2, x3, some (.own none (.lst (ks.map .str))), some (.own none (.lst (ps.map lkD))), x6, x7, x8, x9, x10] =
      .nx [some (.own (some 0) (poolD q)), x1, x2, x3, some (.own none (.lst (ks.map .str))), some (.own none (.lst ((ps ++ qs).map lkD))), y6, x7, x8, x9, y10]
  | 0, i, ps, p, x6, x10, _, _ => ⟨[], p, x6, x10, List.nil_sublist _, by simp [rangeD]⟩
  | n + 1, i, ps, p, x6, x10, hn, hl => by
    have hi : i < ks.length := by omega
    have hk : ks[i]? = some ks[i] := List.getElem?_eq_getElem hi
    obtain ⟨qs, q, y10, sb, e⟩ := md_in x1 x2 x3 x7 x8 x9 ks i ks[i] hk (ks.drop (i + 1)) ps p x10 (by simp; omega)
    have l1 := sb.length_le
    simp only [List.length_map, List.length_drop] at l1
    obtain ⟨qs2, q2, y6, y10', sb2, e2⟩ := md_out ks hks n (i + 1) (ps ++ qs) q (some (.val (.int (i : Nat)))) y10 (by omega) (by simp; omega)
    refine ⟨qs ++ qs2, q2, y6, y10', ?_, ?_⟩
    · rw [List.drop_eq_getElem_cons hi]
      simp only [allP]
      exact sb.append sb2
    · rw [rangeD_succ, x_forC]
      have cu : PyD.cutD (ks.map D.str) (some ((i : Int) + 1)) none = (ks.drop (i + 1)).map D.str := by
        have := cut_drop (ks.map D.str) (i + 1)
        rw [List.map_drop]
        simpa using this
      simp only [x_gN, List.length_cons, List.length_nil, List.set_cons_succ, List.set_cons_zero]
      rw [if_pos (by decide)]
      simp only [x_optS]
      have eb : b__law_model_L2 [some (.own (some 0) (poolD p)), x1, x2, x3, some (.own none (.lst (ks.map .str))), some (.own none (.lst (ps.map lkD))), some (.val (.int (i : Nat))), x7, x8, x9, x10] = .nx [some (.own (some 0) (poolD q)), x1, x2, x3, some (.own none (.lst (ks.map .str))), some (.own none (.lst ((ps ++ qs).map lkD))), some (.val (.int (i : Nat))), x7, x8, x9, y10] := by
        rw [← e]
        simp [b__law_model_L2, cu, -List.map_drop]
      rw [eb]
      simp only [x_loopSn]
      have : ((i : Int) + 1) = ((i + 1 : Nat) : Int) := by omega
      rw [this, e2]
      simp
end
end Lw

namespace Lw
open PySem PySem.Spec PyProof.Rows L2 TL PyD
def Tl.m (t : Tl) : D := .tup [.str t.n, .int t.l, .bl t.h]
def Twn.m (t : Twn) : D := .dct [(.inr (Str.ofString "tills"), .lst (t.ts.map Tl.m)), (.inr (Str.ofString "links"), .lst (t.ls.map lkD)), (.inr (Str.ofString "money"), .int t.money), (.inr (Str.ofString "memory"), t.mem.d), (.inr (Str.ofString "tops"), .int t.tops), (.inr (Str.ofString "numbered"), .bl t.num)]
def Mem.le3 : Mem → Prop
  | .no => True
  | .ti n => n ≤ 2
  | .su n => n ≤ 3
/-- what is known of a drawn town -/
structure Twn.Dr (t : Twn) (m : Nat) : Prop where
  ok : t.Ok
  lm : t.ts.length ≤ m
  l3 : ∀ x ∈ t.ts, x.l ≤ 3
  mo : t.money ≤ 4
  to : t.tops ≤ 3
  me : t.mem.le3
  pat : ∃ y ∈ PRE, ∀ s ∈ t.ns, ∃ c, s = nmC y c ∧ inL c = true
  gr : t.ls.Sublist (allP (sortS t.ns))
theorem tills_of : ∀ {ns : List Str} {ys : List D}, Al (fun d y => ∃ x l h, d = D.str x ∧ y = D.tup [.str x, .int l, .bl h] ∧ 0 ≤ l ∧ l ≤ 3) (ns.map D.str) ys → ∃ ts : List Tl, ys = ts.map Tl.m ∧ ts.map (·.n) = ns ∧ ∀ t ∈ ts, 0 ≤ t.l ∧ t.l ≤ 3
  | [], _, h => by
    cases h
    exact ⟨[], rfl, rfl, by simp⟩
  | n :: ns, _, h => by
    cases h with
    | cons h t =>
      obtain ⟨x, l, b, e1, e2, e3, e4⟩ := h
      obtain ⟨ts, e5, e6, e7⟩ := tills_of t
      cases e1
      refine ⟨⟨n, l, b⟩ :: ts, by rw [e2, e5]; rfl, by rw [← e6]; rfl, fun u hu => ?_⟩
      rcases List.mem_cons.mp hu with rfl | hu
      · exact ⟨e3, e4⟩
      · exact e7 u hu
theorem nmC_len (y : Str × Str) (c : Nat) : (nmC y c).length = y.1.length + 1 + y.2.length := by
  unfold nmC; rw [app_len, app_len]; rfl
theorem names_nd (y : Str × Str) (a s : Int) (hs : s = 1 ∨ s = 3 ∨ s = 5 ∨ s = 7 ∨ s = 9 ∨ s = 11) (n : Nat) (hn : n ≤ 4) : ((List.range n).map fun i => nmC y (sgA a s i)).Nodup := by
  have f : ∀ i j, i < 4 → j < 4 → i ≠ j → nmC y (sgA a s i) ≠ nmC y (sgA a s j) := fun i j hi hj h e => sg_ne a s i j hs hi hj h (nm_inj y _ _ e)
  refine List.pairwise_map.mpr ?_
  have : (List.range n).Pairwise fun i j => i < j ∧ j < n := by
    have := List.pairwise_lt_range (n := n)
    exact (List.Pairwise.imp_of_mem (fun {a b} ha hb q => ⟨q, List.mem_range.mp hb⟩) this)
  exact this.imp fun {i j} q => f i j (by omega) (by omega) (by omega)
theorem mr1 {p p1 p2 p3 p4 p5 p6 p7 p8 p9 p10 : Pl} {m a t3 t4 mo to nu : Int} {ns : List Str} {ts : List Tl} {qs : List (Str × Str)} {me : Mem} {y6 y10 : Option PyD.Slot}
    (n64 : ns.length < 64)
    (e1 : f__law_draw [.o (poolD p), .v (.int m)] = .ret (.val (.int a)) [poolD p1])
    (e2 : f__law_names [.o (poolD p1), .v (.int (1 + a))] = .ret (.new (.lst (ns.map .str))) [poolD p2])
    (lc : lcD [10] (gN 10) mYes (mCS tupD (mCons (mVar 10) (mCons (mCall 2 [true, false] f__law_draw (mCons (mVar 0) (mCons (mC (.int 4)) mNil))) (mCons (mBin gtD (mCall 2 [true, false] f__law_draw (mCons (mVar 0) (mCons (mC (.int 4)) mNil))) (mC (.int 0))) mNil)))) (ns.map .str) [] [some (.own (some 0) (poolD p2)), some (.val (.int m)), some (.val (.lst (ns.map .str))), none, none, none, none, none, none, none, none] = .ok (ts.map Tl.m) [some (.own (some 0) (poolD p3)), some (.val (.int m)), some (.val (.lst (ns.map .str))), none, none, none, none, none, none, none, none])
    (lc1 : lcD [10] (gN 10) mYes (mCB strD (mCons (mVar 10) mNil)) (ns.map .str) [] [some (.own (some 0) (poolD p3)), some (.val (.int m)), some (.val (.lst (ns.map .str))), some (.own none (.lst (ts.map Tl.m))), none, none, none, none, none, none, none] = .ok (ns.map .str) [some (.own (some 0) (poolD p3)), some (.val (.int m)), some (.val (.lst (ns.map .str))), some (.own none (.lst (ts.map Tl.m))), none, none, none, none, none, none, none])
    (sm : strsD (ns.map .str) = some ns) :
    b__law_model [some (.own (some 0) (poolD p)), some (.val (.int m)), none, none, none, none, none, none, none, none, none] = b__law_model_t4 [some (.own (some 0) (poolD p3)), some (.val (.int m)), some (.val (.lst (ns.map .str))), some (.own none (.lst (ts.map Tl.m))), some (.own none (.lst ((sortS ns).map .str))), some (.own none (.lst [])), none, none, none, none, none] := by
  simp -implicitDefEqProofs [b__law_model, b__law_model_t1, b__law_model_t2, b__law_model_t3, e1, e2, lc, lc1, sm, n64]
theorem mr2 {p p1 p2 p3 p4 p5 p6 p7 p8 p9 p10 : Pl} {m a t3 t4 mo to nu : Int} {ns : List Str} {ts : List Tl} {qs : List (Str × Str)} {me : Mem} {y6 y10 : Option PyD.Slot}
    (ki : ((sortS ns).length : Int) < 4611686018427387904)
    (kj : -4611686018427387904 ≤ ((sortS ns).length : Int))
    (e8 : forD (gN 6) b__law_model_L2 (rangeD (0 : Nat) (sortS ns).length) [some (.own (some 0) (poolD p3)), some (.val (.int m)), some (.val (.lst (ns.map .str))), some (.own none (.lst (ts.map Tl.m))), some (.own none (.lst ((sortS ns).map .str))), some (.own none (.lst (([] : List (Str × Str)).map lkD))), none, none, none, none, none] = .nx [some (.own (some 0) (poolD p4)), some (.val (.int m)), some (.val (.lst (ns.map .str))), some (.own none (.lst (ts.map Tl.m))), some (.own none (.lst ((sortS ns).map .str))), some (.own none (.lst (([] ++ qs).map lkD))), y6, none, none, none, y10]) :
    b__law_model_t4 [some (.own (some 0) (poolD p3)), some (.val (.int m)), some (.val (.lst (ns.map .str))), some (.own none (.lst (ts.map Tl.m))), some (.own none (.lst ((sortS ns).map .str))), some (.own none (.lst [])), none, none, none, none, none] = b__law_model_t5 [some (.own (some 0) (poolD p4)), some (.val (.int m)), some (.val (.lst (ns.map .str))), some (.own none (.lst (ts.map Tl.m))), some (.own none (.lst ((sortS ns).map .str))), some (.own none (.lst (qs.map lkD))), y6, none, none, none, y10] := by
  simp at e8
  simp -implicitDefEqProofs [b__law_model_t4, ki, kj, e8]
theorem mr3 {p p1 p2 p3 p4 p5 p6 p7 p8 p9 p10 : Pl} {m a t3 t4 mo to nu : Int} {ns : List Str} {ts : List Tl} {qs : List (Str × Str)} {me : Mem} {y6 y10 : Option PyD.Slot}
    (e9 : f__law_draw [.o (poolD p4), .v (.int 3)] = .ret (.val (.int t3)) [poolD p5])
    (e10 : f__law_draw [.o (poolD p5), .v (.int 4)] = .ret (.val (.int t4)) [poolD p6])
    (e11 : f__law_pick [.o (poolD p6), .v (.lst [.tup [.str (Str.ofString "nothing")], .tup [.str (Str.ofString "nothing")], .tup [.str (Str.ofString "times"), .int t3], .tup [.str (Str.ofString "sum"), .int t4]])] = .ret (.val me.d) [poolD p7]) :
    b__law_model_t5 [some (.own (some 0) (poolD p4)), some (.val (.int m)), some (.val (.lst (ns.map .str))), some (.own none (.lst (ts.map Tl.m))), some (.own none (.lst ((sortS ns).map .str))), some (.own none (.lst (qs.map lkD))), y6, none, none, none, y10] = b__law_model_t7 [some (.own (some 0) (poolD p7)), some (.val (.int m)), some (.val (.lst (ns.map .str))), some (.own none (.lst (ts.map Tl.m))), some (.own none (.lst ((sortS ns).map .str))), some (.own none (.lst (qs.map lkD))), y6, some (.val (.lst [.tup [.str (Str.ofString "nothing")], .tup [.str (Str.ofString "nothing")], .tup [.str (Str.ofString "times"), .int t3], .tup [.str (Str.ofString "sum"), .int t4]])), some (.val me.d), none, y10] := by
  simp -implicitDefEqProofs [b__law_model_t5, b__law_model_t6, e9, e10, e11]
theorem mr4 {p p1 p2 p3 p4 p5 p6 p7 p8 p9 p10 : Pl} {m a t3 t4 mo to nu : Int} {ns : List Str} {ts : List Tl} {qs : List (Str × Str)} {me : Mem} {y6 y10 : Option PyD.Slot}
    (e12 : f__law_draw [.o (poolD p7), .v (.int 5)] = .ret (.val (.int mo)) [poolD p8])
    (e13 : f__law_draw [.o (poolD p8), .v (.int 4)] = .ret (.val (.int to)) [poolD p9])
    (e14 : f__law_draw [.o (poolD p9), .v (.int 2)] = .ret (.val (.int nu)) [poolD p10]) :
    ∃ ρ, b__law_model_t7 [some (.own (some 0) (poolD p7)), some (.val (.int m)), some (.val (.lst (ns.map .str))), some (.own none (.lst (ts.map Tl.m))), some (.own none (.lst ((sortS ns).map .str))), some (.own none (.lst (qs.map lkD))), y6, some (.val (.lst [.tup [.str (Str.ofString "nothing")], .tup [.str (Str.ofString "nothing")], .tup [.str (Str.ofString "times"), .int t3], .tup [.str (Str.ofString "sum"), .int t4]])), some (.val me.d), none, y10] = .ret (.new (Twn.m ⟨ts, qs, mo, me, to, decide (nu = 0)⟩)) (some (.own (some 0) (poolD p10)) :: ρ) := ⟨_, by
  simp -implicitDefEqProofs [b__law_model_t7, b__law_model_t8, e12, e13, e14, Twn.m, setD, putKD]; rfl⟩
theorem model_run {p p1 p2 p3 p4 p5 p6 p7 p8 p9 p10 : Pl} {m a t3 t4 mo to nu : Int} {ns : List Str} {ts : List Tl} {qs : List (Str × Str)} {me : Mem} {y6 y10 : Option PyD.Slot}
    (n64 : ns.length < 64) (ki : ((sortS ns).length : Int) < 4611686018427387904) (kj : -4611686018427387904 ≤ ((sortS ns).length : Int))
    (e1 : f__law_draw [.o (poolD p), .v (.int m)] = .ret (.val (.int a)) [poolD p1])
    (e2 : f__law_names [.o (poolD p1), .v (.int (1 + a))] = .ret (.new (.lst (ns.map .str))) [poolD p2])
    (lc : lcD [10] (gN 10) mYes (mCS tupD (mCons (mVar 10) (mCons (mCall 2 [true, false] f__law_draw (mCons (mVar 0) (mCons (mC (.int 4)) mNil))) (mCons (mBin gtD (mCall 2 [true, false] f__law_draw (mCons (mVar 0) (mCons (mC (.int 4)) mNil))) (mC (.int 0))) mNil)))) (ns.map .str) [] [some (.own (some 0) (poolD p2)), some (.val (.int m)), some (.val (.lst (ns.map .str))), none, none, none, none, none, none, none, none] = .ok (ts.map Tl.m) [some (.own (some 0) (poolD p3)), some (.val (.int m)), some (.val (.lst (ns.map .str))), none, none, none, none, none, none, none, none])
    (lc1 : lcD [10] (gN 10) mYes (mCB strD (mCons (mVar 10) mNil)) (ns.map .str) [] [some (.own (some 0) (poolD p3)), some (.val (.int m)), some (.val (.lst (ns.map .str))), some (.own none (.lst (ts.map Tl.m))), none, none, none, none, none, none, none] = .ok (ns.map .str) [some (.own (some 0) (poolD p3)), some (.val (.int m)), some (.val (.lst (ns.map .str))), some (.own none (.lst (ts.map Tl.m))), none, none, none, none, none, none, none])
    (sm : strsD (ns.map .str) = some ns)
    (e8 : forD (gN 6) b__law_model_L2 (rangeD (0 : Nat) (sortS ns).length) [some (.own (some 0) (poolD p3)), some (.val (.int m)), some (.val (.lst (ns.map .str))), some (.own none (.lst (ts.map Tl.m))), some (.own none (.lst ((sortS ns).map .str))), some (.own none (.lst (([] : List (Str × Str)).map lkD))), none, none, none, none, none] = .nx [some (.own (some 0) (poolD p4)), some (.val (.int m)), some (.val (.lst (ns.map .str))), some (.own none (.lst (ts.map Tl.m))), some (.own none (.lst ((sortS ns).map .str))), some (.own none (.lst (([] ++ qs).map lkD))), y6, none, none, none, y10])
    (e9 : f__law_draw [.o (poolD p4), .v (.int 3)] = .ret (.val (.int t3)) [poolD p5])
    (e10 : f__law_draw [.o (poolD p5), .v (.int 4)] = .ret (.val (.int t4)) [poolD p6])
    (e11 : f__law_pick [.o (poolD p6), .v (.lst [.tup [.str (Str.ofString "nothing")], .tup [.str (Str.ofString "nothing")], .tup [.str (Str.ofString "times"), .int t3], .tup [.str (Str.ofString "sum"), .int t4]])] = .ret (.val me.d) [poolD p7])
    (e12 : f__law_draw [.o (poolD p7), .v (.int 5)] = .ret (.val (.int mo)) [poolD p8])
    (e13 : f__law_draw [.o (poolD p8), .v (.int 4)] = .ret (.val (.int to)) [poolD p9])
    (e14 : f__law_draw [.o (poolD p9), .v (.int 2)] = .ret (.val (.int nu)) [poolD p10]) :
    f__law_model [.o (poolD p), .v (.int m)] = .ret (.new (Twn.m ⟨ts, qs, mo, me, to, decide (nu = 0)⟩)) [poolD p10] := by
  have s1 := mr1 (p := p) (p1 := p1) (p2 := p2) (p3 := p3) (p4 := p4) (p5 := p5) (p6 := p6) (p7 := p7) (p8 := p8) (p9 := p9) (p10 := p10) (m := m) (a := a) (t3 := t3) (t4 := t4) (mo := mo) (to := to) (nu := nu) (ns := ns) (ts := ts) (qs := qs) (me := me) (y6 := y6) (y10 := y10) n64 e1 e2 lc lc1 sm
  have s2 := mr2 (p := p) (p1 := p1) (p2 := p2) (p3 := p3) (p4 := p4) (p5 := p5) (p6 := p6) (p7 := p7) (p8 := p8) (p9 := p9) (p10 := p10) (m := m) (a := a) (t3 := t3) (t4 := t4) (mo := mo) (to := to) (nu := nu) (ns := ns) (ts := ts) (qs := qs) (me := me) (y6 := y6) (y10 := y10) ki kj e8
  have s3 := mr3 (p := p) (p1 := p1) (p2 := p2) (p3 := p3) (p4 := p4) (p5 := p5) (p6 := p6) (p7 := p7) (p8 := p8) (p9 := p9) (p10 := p10) (m := m) (a := a) (t3 := t3) (t4 := t4) (mo := mo) (to := to) (nu := nu) (ns := ns) (ts := ts) (qs := qs) (me := me) (y6 := y6) (y10 := y10) e9 e10 e11
  obtain ⟨ρ, s4⟩ := mr4 (p := p) (p1 := p1) (p2 := p2) (p3 := p3) (p4 := p4) (p5 := p5) (p6 := p6) (p7 := p7) (p8 := p8) (p9 := p9) (p10 := p10) (m := m) (a := a) (t3 := t3) (t4 := t4) (mo := mo) (to := to) (nu := nu) (ns := ns) (ts := ts) (qs := qs) (me := me) (y6 := y6) (y10 := y10) e12 e13 e14
  simp only [f__law_model, x_mkFn, x_slO, x_slV, x_slN, List.replicate, List.cons_append, List.nil_append]
  rw [s1, s2, s3, s4]
  simp
theorem model (p : Pl) (m : Int) (h1 : 1 ≤ m) (h4 : m ≤ 4) : ∃ t : Twn, t.Dr m.toNat ∧ ∃ q, f__law_model [.o (poolD p), .v (.int m)] = .ret (.new t.m) [poolD q] := by
  obtain ⟨a, p1, a0, a1, e1⟩ := drawE p m (by omega) (by omega)
  obtain ⟨y, hy, o, s, p2, hs, e2⟩ := names p1 (1 + a) (by omega) (by omega)
  have nd := names_nd y o s hs (1 + a).toNat (by omega)
  have pat : ∀ x ∈ ((List.range (1 + a).toNat).map fun i => nmC y (sgA o s i)), ∃ c, x = nmC y c ∧ inL c = true := fun x hx => by
    obtain ⟨i, _, rfl⟩ := List.mem_map.mp hx
    exact ⟨_, rfl, sg_in o s i⟩
  have ln : ((List.range (1 + a).toNat).map fun i => nmC y (sgA o s i)).length = (1 + a).toNat := by simp
  generalize ((List.range (1 + a).toNat).map fun i => nmC y (sgA o s i)) = ns at e2 nd pat ln
  obtain ⟨ys, p3, lc, al⟩ := lc_rel (vs := [10]) (f := gN 10) (t := mYes) (me := mCS tupD (mCons (mVar 10) (mCons (mCall 2 [true, false] f__law_draw (mCons (mVar 0) (mCons (mC (.int 4)) mNil))) (mCons (mBin gtD (mCall 2 [true, false] f__law_draw (mCons (mVar 0) (mCons (mC (.int 4)) mNil))) (mC (.int 0))) mNil)))) (fun q : Pl => [some (.own (some 0) (poolD q)), some (.val (.int m)), some (.val (.lst (ns.map .str))), none, none, none, none, none, none, none, none]) (fun d y => ∃ x l h, d = .str x ∧ y = .tup [.str x, .int l, .bl h] ∧ 0 ≤ l ∧ l ≤ 3) (ns.map .str) [] p2 (fun d hd q => by
    obtain ⟨x, _, rfl⟩ := List.mem_map.mp hd
    obtain ⟨b, q1, b0, b1, f1⟩ := drawE q 4 (by decide) (by decide)
    obtain ⟨c, q2, c0, c1, f2⟩ := drawE q1 4 (by decide) (by decide)
    refine ⟨[some (.own (some 0) (poolD q)), some (.val (.int m)), some (.val (.lst (ns.map .str))), none, none, none, none, none, none, none, some (.val (.str x))], _, .val (.tup [.str x, .int b, .bl (decide (0 < c))]), [some (.own (some 0) (poolD q2)), some (.val (.int m)), some (.val (.lst (ns.map .str))), none, none, none, none, none, none, none, some (.val (.str x))], .tup [.str x, .int b, .bl (decide (0 < c))], [some (.own (some 0) (poolD q2)), some (.val (.int m)), some (.val (.lst (ns.map .str))), none, none, none, none, none, none, none, some (.val (.str x))], q2, by simp, by simp; rfl, by simp [f1, f2], by simp, by simp, x, b, _, rfl, rfl, b0, by omega⟩) (by simp; omega)
  obtain ⟨ts, rfl, e6, e7⟩ := tills_of al
  have lc1 := lc_map (vs := [10]) (f := gN 10) (t := mYes) (me := mCB strD (mCons (mVar 10) mNil)) (g := fun d => d) (ρ := [some (.own (some 0) (poolD p3)), some (.val (.int m)), some (.val (.lst (ns.map .str))), some (.own none (.lst (ts.map Tl.m))), none, none, none, none, none, none, none]) (ds := ns.map .str) (acc := []) (fun d hd => by
    obtain ⟨x, hs, rfl⟩ := List.mem_map.mp hd
    exact ⟨[some (.own (some 0) (poolD p3)), some (.val (.int m)), some (.val (.lst (ns.map .str))), some (.own none (.lst (ts.map Tl.m))), none, none, none, none, none, none, some (.val (.str x))], .val (.str x), by simp, by simp, by simp, rfl, by simp⟩) (by simp; omega)
  rw [List.map_id', List.nil_append] at lc1
  have sm := strs_map ns
  have pm := sortS_perm ns
  have kl : (sortS ns).length = ns.length := pm.length_eq
  have kpw : (sortS ns).Pairwise fun a b => ltS a b = true := by
    have w := sortS_pw ns
    have nk : (sortS ns).Nodup := pm.nodup_iff.mpr nd
    exact (w.and nk).imp fun {a b} q => by
      rcases ltC_tri a.cps.toList b.cps.toList with z | z | z
      · exact z
      · exact absurd (str_cps z) q.2
      · have z : ltS b a = true := z
        rw [show ltS b a = false from q.1] at z; cases z
  obtain ⟨qs, p4, y6, y10, sb, e8⟩ := md_out (some (.val (.int m))) (some (.val (.lst (ns.map .str)))) (some (.own none (.lst (ts.map Tl.m)))) none none none (sortS ns) (by omega) (sortS ns).length 0 [] p3 none none (by simp) (by simp; omega)
  rw [List.drop_zero] at sb
  obtain ⟨t3, p5, t30, t31, e9⟩ := drawE p4 3 (by decide) (by decide)
  obtain ⟨t4, p6, t40, t41, e10⟩ := drawE p5 4 (by decide) (by decide)
  obtain ⟨z, p7, hz, e11⟩ := pickE p6 [.tup [.str (Str.ofString "nothing")], .tup [.str (Str.ofString "nothing")], .tup [.str (Str.ofString "times"), .int t3], .tup [.str (Str.ofString "sum"), .int t4]] (by simp) (by simp)
  obtain ⟨mo, p8, mo0, mo1, e12⟩ := drawE p7 5 (by decide) (by decide)
  obtain ⟨to, p9, to0, to1, e13⟩ := drawE p8 4 (by decide) (by decide)
  obtain ⟨nu, p10, nu0, nu1, e14⟩ := drawE p9 2 (by decide) (by decide)
  obtain ⟨me, hme, hm2, rfl⟩ : ∃ me : Mem, me.ok ∧ me.le3 ∧ z = me.d := by
    simp only [List.mem_cons, List.not_mem_nil, or_false] at hz
    rcases hz with rfl | rfl | rfl | rfl
    · exact ⟨.no, trivial, trivial, rfl⟩
    · exact ⟨.no, trivial, trivial, rfl⟩
    · exact ⟨.ti t3, ⟨t30, by omega⟩, by show t3 ≤ 2; omega, rfl⟩
    · exact ⟨.su t4, ⟨t40, by omega⟩, by show t4 ≤ 3; omega, rfl⟩
  have hnm : ∀ x ∈ ns, isNm x = true := fun x hx => by
    obtain ⟨c, rfl, hc⟩ := pat x hx
    exact nm_of y c hy hc
  have hlen : ∀ x ∈ ns, x.length = y.1.length + 1 + y.2.length := fun x hx => by
    obtain ⟨c, rfl, hc⟩ := pat x hx
    exact nmC_len y c
  have pw := allP_pw (ks := sortS ns) (n := y.1.length + 1 + y.2.length) (fun k hk => hlen k (pm.mem_iff.mp hk)) kpw
  have ql := sb.length_le
  have al6 := allP_len (sortS ns) (by omega)
  refine ⟨⟨ts, qs, mo, me, to, decide (nu = 0)⟩, ⟨⟨?_, ?_, ?_, ?_, ?_, ⟨?_, ?_, ?_, ?_, ?_, ?_, ?_⟩, ?_, ?_, hme, ?_⟩, ?_, ?_, ?_, ?_, hm2, ?_, ?_⟩, p10, ?_⟩
  · intro e
    simp only at e
    rw [e] at e6
    rw [← e6] at ln
    simp at ln
    omega
  · have : ts.length = ns.length := by rw [← e6]; simp
    simp only; omega
  · show ∀ s ∈ ts.map (·.n), _
    rw [e6]; exact hnm
  · show (ts.map (·.n)).Nodup
    rw [e6]; exact nd
  · intro x hx
    have := e7 x hx
    exact ⟨this.1, by omega⟩
  · show ∀ y ∈ ts.map (·.n), _
    rw [e6]; exact fun x hx => nm_so (hnm x hx)
  · show ∀ y ∈ ts.map (·.n), _
    rw [e6]; exact fun x hx => isNm_len (hnm x hx)
  · show ∀ p ∈ qs, p.1 ∈ ts.map (·.n)
    rw [e6]; exact fun p hp => pm.mem_iff.mp (allP_mem (sb.mem hp)).1
  · show ∀ p ∈ qs, p.2 ∈ ts.map (·.n)
    rw [e6]; exact fun p hp => pm.mem_iff.mp (allP_mem (sb.mem hp)).2
  · exact fun p hp => allP_lt kpw p (sb.mem hp)
  · exact List.pairwise_map.mpr ((pw.sublist sb).imp fun {a b} q e => by
      rw [e] at q
      have z : ltS (txt b) (txt b) = false := ltC_irr _
      rw [z] at q; cases q)
  · show qs.length < 60
    omega
  · exact pw.sublist sb
  · exact ⟨mo0, by simp only; omega⟩
  · exact ⟨to0, by simp only; omega⟩
  · have : ts.length = ns.length := by rw [← e6]; simp
    simp only; omega
  · exact fun x hx => (e7 x hx).2
  · simp only; omega
  · simp only; omega
  · refine ⟨y, hy, ?_⟩
    show ∀ s ∈ ts.map (·.n), _
    rw [e6]; exact pat
  · show qs.Sublist (allP (sortS (ts.map (·.n))))
    rw [e6]; exact sb
  · exact model_run (by omega) (by omega) (by omega) e1 e2 lc lc1 sm e8 e9 e10 e11 e12 e13 e14
end Lw

namespace Lw
open PySem PySem.Spec PyProof.Rows L2 TL PyD
theorem words_of {t : Twn} (h : t.Ok) : f__law_words_of [.v t.m] = .ret (.new (.lst (t.ns.map .str))) [] := by
  have l4 := h.l4
  have lc := lc_map (vs := [1]) (f := gN 1) (t := mYes) (me := mBin ixD (mVar 1) (mC (.int 0))) (ρ := [some (.val t.m), none]) (ds := t.ts.map Tl.m) (acc := []) (g := fun d => match d with | .tup (x :: _) => x | _ => .non) (fun d hd => by
    obtain ⟨x, _, rfl⟩ := List.mem_map.mp hd
    exact ⟨[some (.val t.m), some (.val x.m)], .val (.str x.n), by simp, by simp, by simp [Tl.m, atI, ixN], by simp [Tl.m], by simp⟩) (by simp; omega)
  have e : (t.ts.map Tl.m).map (fun d => match d with | .tup (x :: _) => x | _ => D.non) = t.ns.map D.str := by
    unfold Twn.ns
    rw [List.map_map, List.map_map]
    rfl
  rw [e, List.nil_append] at lc
  simp only [Twn.m] at lc
  simp -implicitDefEqProofs [f__law_words_of, x_mkFn, b__law_words_of, List.replicate, Twn.m, x_valKC, lc]
theorem made {t : Twn} (h : t.Ok) : f__law_made [.v t.m] = .ret (.new t.d) [] := by
  have l4 := h.l4
  have lc := lc_map (vs := [6, 7, 8]) (f := gT 3 (gsCons (gN 6) (gsCons (gN 7) (gsCons (gN 8) gsNil)))) (t := mYes) (me := mMakeW C_Till 2 1 4 [0, 1, 2] [] [false, false, false] f_Till___init__ (mCons (mVar 6) (mCons (mVar 7) mNil)) (mCons (mVar 8) mNil)) (ρ := [some (.val t.m), none, none, none, none, none, none, none, none]) (ds := t.ts.map Tl.m) (acc := []) (g := fun d => match d with | .tup [.str n, .int l, .bl h] => till n l h | _ => .non) (fun d hd => by
    obtain ⟨x, hx, rfl⟩ := List.mem_map.mp hd
    have ti := till_in (h.nm _ (List.mem_map_of_mem hx)) (h.lim x hx)
    exact ⟨[some (.val t.m), none, none, none, none, none, some (.val (.str x.n)), some (.val (.int x.l)), some (.val (.bl x.h))], .new x.d, by simp [Tl.m], by simp, by simp [ti], by simp [Tl.m, Tl.d, till], by simp⟩) (by simp; omega)
  have e : (t.ts.map Tl.m).map (fun d => match d with | .tup [.str n, .int l, .bl h] => till n l h | _ => D.non) = t.ts.map Tl.d := by
    rw [List.map_map]
    rfl
  rw [e, List.nil_append] at lc
  have ti := town_in h (.lst (t.ts.map Tl.d)) (.inl rfl) t.ls (.refl _) (.lst (t.ls.map lkD)) (.inl rfl)
  simp only [Twn.m] at lc
  simp -implicitDefEqProofs [f__law_made, x_mkFn, b__law_made, List.replicate, Twn.m, x_valKC, lc, ti]
end Lw

namespace Lw
open PySem PySem.Spec PyProof.Rows L2 TL PyD
/-! name in town -/
def inT (ns : List Str) : D → Bool
  | .str s => decide (s ∈ ns)
  | _ => false
theorem any_eq (s : Str) : ∀ ns : List Str, (ns.map fun n => decide (n = s)).any id = decide (s ∈ ns)
  | [] => rfl
  | n :: ns => by
    simp only [List.map_cons, List.any_cons, any_eq s ns, id, List.mem_cons, Bool.decide_or]
    congr 1
    exact decide_eq_decide.mpr eq_comm
/-- a value that is looked at: no class or def -/
def seen : D → Bool
  | .non => true
  | .bl _ => true
  | .int _ => true
  | .str _ => true
  | .lst _ => true
  | .tup _ => true
  | .dct _ => true
  | _ => false
theorem contains {t : Twn} (h : t.Ok) (x : D) (hx : seen x = true) : f_Town___contains__ [.v t.d, .v x] = .ret (.val (.bl (inT t.ns x))) [] := by
  have l4 := h.l4
  by_cases hs : ∃ s, x = .str s
  · obtain ⟨s, rfl⟩ := hs
    have lc := lc_map (vs := [2]) (f := gN 2) (t := mYes) (me := mBin (orF eqD (eqOD false (eqO T EQ_Till_Town))) (mUn (fldD T (PySem.Str.ofString "name")) (mVar 2)) (mVar 1)) (ρ := [some (.val t.d), some (.val (.str s)), none]) (ds := t.ts.map Tl.d) (acc := []) (g := fun d => match d with | .obj _ ((_, .str x) :: _) => .bl (decide (x = s)) | _ => .non) (fun d hd => by
      obtain ⟨x, _, rfl⟩ := List.mem_map.mp hd
      exact ⟨[some (.val t.d), some (.val (.str s)), some (.val x.d)], .val (.bl (decide (x.n = s))), by simp, by simp, by simp, by simp [Tl.d, till], by simp⟩) (by simp; omega)
    have e : (t.ts.map Tl.d).map (fun d => match d with | .obj _ ((_, .str x) :: _) => D.bl (decide (x = s)) | _ => D.non) = (t.ns.map fun n => D.bl (decide (n = s))) := by
      unfold Twn.ns
      rw [List.map_map, List.map_map]
      rfl
    rw [e, List.nil_append] at lc
    have bm := blsD_map (fun n => decide (n = s)) t.ns
    have an := any_eq s t.ns
    simp -implicitDefEqProofs [f_Town___contains__, x_mkFn, b_Town___contains__, List.replicate, isi_strT, lc, bm, inT]
    simpa using an
  · have e : isiD' T [x, .ty "str"] = some (.val (.bl false)) := by
      cases x <;> first | rfl | (simp [seen] at hx; done) | exact absurd ⟨_, rfl⟩ hs
    have e2 : inT t.ns x = false := by
      cases x <;> first | rfl | exact absurd ⟨_, rfl⟩ hs
    simp [f_Town___contains__, x_mkFn, b_Town___contains__, List.replicate, e, e2]
theorem in_town {t : Twn} (h : t.Ok) (x : D) (hx : seen x = true) : (orF (inD false) (eqOD false (inO IN_Town))) x t.d = some (.val (.bl (inT t.ns x))) := by
  have c := contains h x hx
  have n1 : notO x = true := by cases x <;> first | rfl | (simp [seen] at hx; done)
  have i1 : inD false x t.d = none := by cases x <;> first | rfl | (simp [seen] at hx; done)
  have i2 : inO IN_Town x t.d = some (inT t.ns x) := by
    have : inO IN_Town x t.d = fnB (IN_Town 1) fun f => blV (callV f [t.d, x]) := by
      unfold Twn.d; exact x_inO
    rw [this]
    simp [callV, c]
  simp -implicitDefEqProofs [-x_inD, i1, i2, n1]
end Lw

namespace Lw
open PySem PySem.Spec PyProof.Rows L2 TL PyD
/-! groups, by plain functions -/
section
variable {α : Type} [DecidableEq α]
def othL (x : α) (l : α × α) : α := if l.1 = x then l.2 else l.1
def addL (x : α) (F : List α) (l : α × α) : List α := if x = l.1 ∨ x = l.2 then (if othL x l ∈ F then F else F ++ [othL x l]) else F
def bfsR (ls : List (α × α)) : Nat → Nat → List α → Option (List α)
  | 0, _, _ => none
  | n + 1, i, F => match F[i]? with
    | some x => bfsR ls n (i + 1) (ls.foldl (addL x) F)
    | none => some F
def grpF (ls : List (α × α)) (a : α) : List α := (bfsR ls 6 0 [a]).getD []
def allQ : List α → List (α × α)
  | [] => []
  | k :: r => r.map (fun x => (k, x)) ++ allQ r
def subs : List α → List (List α)
  | [] => [[]]
  | x :: xs => (subs xs).map (x :: ·) ++ subs xs
def touch (ls : List (α × α)) (a b : α) : Bool := decide (a = b) || (decide ((a, b) ∈ ls) || decide ((b, a) ∈ ls))
def leads (ns : List α) (ls : List (α × α)) (a b : α) : Bool := ns.any fun c => ns.any fun d => touch ls a c && (touch ls c d && touch ls d b)
theorem subs_mem : ∀ {xs ys : List α}, ys.Sublist xs → ys ∈ subs xs
  | [], ys, h => by rw [List.sublist_nil.mp h]; simp [subs]
  | x :: xs, ys, h => by
    cases h with
    | cons _ h => simp [subs, subs_mem h]
    | cons_cons _ h => simp [subs, subs_mem h]
end
section
variable {α β : Type} [DecidableEq α] [DecidableEq β] (f : α → β) (hf : ∀ a b, f a = f b → a = b)
abbrev f2 (f : α → β) (l : α × α) : β × β := (f l.1, f l.2)
include hf
theorem oth_nat (x : α) (l : α × α) : othL (f x) (f2 f l) = f (othL x l) := by
  unfold othL
  by_cases h : l.1 = x
  · simp [h]
  · have : f l.1 ≠ f x := fun e => h (hf _ _ e)
    simp [h, this]
theorem mem_nat (x : α) (F : List α) : f x ∈ F.map f ↔ x ∈ F := by
  simp only [List.mem_map]
  exact ⟨fun ⟨y, h, e⟩ => hf _ _ e ▸ h, fun h => ⟨x, h, rfl⟩⟩
theorem add_nat (x : α) (F : List α) (l : α × α) : addL (f x) (F.map f) (f2 f l) = (addL x F l).map f := by
  unfold addL
  rw [oth_nat f hf]
  have e : (f x = (f2 f l).1 ∨ f x = (f2 f l).2) ↔ (x = l.1 ∨ x = l.2) := or_congr ⟨hf _ _, congrArg f⟩ ⟨hf _ _, congrArg f⟩
  by_cases h : x = l.1 ∨ x = l.2
  · rw [if_pos (e.mpr h), if_pos h]
    by_cases g : othL x l ∈ F
    · rw [if_pos ((mem_nat f hf _ _).mpr g), if_pos g]
    · rw [if_neg (fun z => g ((mem_nat f hf _ _).mp z)), if_neg g]; simp
  · rw [if_neg (fun z => h (e.mp z)), if_neg h]
theorem fold_nat (x : α) : ∀ (ls : List (α × α)) (F : List α), (ls.map (f2 f)).foldl (addL (f x)) (F.map f) = (ls.foldl (addL x) F).map f
  | [], F => rfl
  | l :: ls, F => by
    simp only [List.map_cons, List.foldl_cons]
    rw [add_nat f hf, fold_nat x ls]
theorem bfs_nat (ls : List (α × α)) : ∀ (n i : Nat) (F : List α), bfsR (ls.map (f2 f)) n i (F.map f) = (bfsR ls n i F).map (List.map f)
  | 0, _, _ => rfl
  | n + 1, i, F => by
    simp only [bfsR, List.getElem?_map]
    cases F[i]? with
    | none => rfl
    | some x => simp only [Option.map_some]; rw [fold_nat f hf, bfs_nat ls n]
theorem touch_nat (ls : List (α × α)) (a b : α) : touch (ls.map (f2 f)) (f a) (f b) = touch ls a b := by
  have h2 : ∀ p q : α × α, f2 f p = f2 f q → p = q := fun p q e => by
    obtain ⟨p1, p2⟩ := p
    obtain ⟨q1, q2⟩ := q
    simp only [f2, Prod.mk.injEq] at e
    rw [hf _ _ e.1, hf _ _ e.2]
  have m : ∀ p : α × α, (f p.1, f p.2) ∈ ls.map (f2 f) ↔ p ∈ ls := fun p => ⟨fun h => by
    obtain ⟨q, hq, e⟩ := List.mem_map.mp h
    exact h2 _ _ e ▸ hq, fun h => List.mem_map.mpr ⟨p, h, rfl⟩⟩
  unfold touch
  rw [decide_eq_decide.mpr (⟨hf a b, congrArg f⟩ : f a = f b ↔ a = b), decide_eq_decide.mpr (m (a, b)), decide_eq_decide.mpr (m (b, a))]
theorem leads_nat (ns : List α) (ls : List (α × α)) (a b : α) : leads (ns.map f) (ls.map (f2 f)) (f a) (f b) = leads ns ls a b := by
  unfold leads
  simp only [List.any_map, Function.comp_def, touch_nat f hf]
omit hf [DecidableEq α] [DecidableEq β] in
theorem allQ_nat : ∀ ks : List α, allQ (ks.map f) = (allQ ks).map (f2 f)
  | [] => rfl
  | k :: r => by
    simp only [List.map_cons, allQ, List.map_append, List.map_map, allQ_nat r]
    rfl
end
theorem allP_Q : ∀ ks : List Str, allP ks = allQ ks
  | [] => rfl
  | k :: r => by simp only [allP, allQ, allP_Q r]
/-- what holds of all links among so many -/
def finOk (m : Nat) : Bool := (subs (allQ (List.finRange m))).all fun li => (List.finRange m).all fun a => (bfsR li 6 0 [a]).isSome && (List.finRange m).all fun b => (decide (b ∈ grpF li a) == leads (List.finRange m) li a b) && ((!decide (b ∈ grpF li a)) || (List.finRange m).all fun c => decide (c ∈ grpF li b) == decide (c ∈ grpF li a))
theorem fin1 : finOk 1 = true := by decide +kernel
theorem fin2 : finOk 2 = true := by decide +kernel
theorem fin3 : finOk 3 = true := by decide +kernel
theorem fin4 : finOk 4 = true := by decide +kernel
theorem fin0 : finOk 0 = true := by decide +kernel
theorem finA {m : Nat} (h : m ≤ 4) : finOk m = true := by
  have : m = 0 ∨ m = 1 ∨ m = 2 ∨ m = 3 ∨ m = 4 := by omega
  rcases this with rfl | rfl | rfl | rfl | rfl
  · exact fin0
  · exact fin1
  · exact fin2
  · exact fin3
  · exact fin4
structure ToF (ns : List Str) (ls : List (Str × Str)) where
  m : Nat
  h4 : m ≤ 4
  f : Fin m → Str
  hf : ∀ a b, f a = f b → a = b
  pm : ((List.finRange m).map f).Perm ns
  li : List (Fin m × Fin m)
  sb : li.Sublist (allQ (List.finRange m))
  e : ls = li.map (f2 f)
theorem toF {ns : List Str} (nd : ns.Nodup) (l4 : ns.length ≤ 4) {ls : List (Str × Str)} (hs : ls.Sublist (allP (sortS ns))) : Nonempty (ToF ns ls) := by
  have pm := sortS_perm ns
  have nk : (sortS ns).Nodup := pm.nodup_iff.mpr nd
  have kl := pm.length_eq
  generalize sortS ns = ks at *
  have hm : (List.finRange ks.length).map (fun i => ks[i]) = ks := by
    refine List.ext_getElem (by simp) fun i h1 h2 => ?_
    simp
  rw [allP_Q] at hs
  have hs2 : ls.Sublist ((allQ (List.finRange ks.length)).map (f2 fun i => ks[i])) := by
    rw [← allQ_nat, hm]; exact hs
  obtain ⟨li, h1, h2⟩ := List.sublist_map_iff.mp hs2
  exact ⟨⟨ks.length, by omega, fun i => ks[i], fun a b e => by
    have := (List.getElem_inj nk).mp e
    exact Fin.ext this, by rw [hm]; exact pm, li, h1, h2⟩⟩
theorem ToF.at {ns : List Str} {ls : List (Str × Str)} (T : ToF ns ls) {a : Str} (h : a ∈ ns) : ∃ i, T.f i = a := by
  obtain ⟨i, _, e⟩ := List.mem_map.mp (T.pm.mem_iff.mpr h)
  exact ⟨i, e⟩
theorem ToF.fin {ns : List Str} {ls : List (Str × Str)} (T : ToF ns ls) (a : Fin T.m) : (bfsR T.li 6 0 [a]).isSome = true ∧ ∀ b, decide (b ∈ grpF T.li a) = leads (List.finRange T.m) T.li a b ∧ (b ∈ grpF T.li a → ∀ c, (c ∈ grpF T.li b) ↔ (c ∈ grpF T.li a)) := by
  have := finA T.h4
  unfold finOk at this
  have := List.all_eq_true.mp this T.li (subs_mem T.sb)
  have := List.all_eq_true.mp this a (List.mem_finRange a)
  obtain ⟨h1, h2⟩ := Bool.and_eq_true_iff.mp this
  refine ⟨h1, fun b => ?_⟩
  obtain ⟨g1, g2⟩ := Bool.and_eq_true_iff.mp (List.all_eq_true.mp h2 b (List.mem_finRange b))
  refine ⟨beq_iff_eq.mp g1, fun hb c => ?_⟩
  have g3 : ((List.finRange T.m).all fun c => decide (c ∈ grpF T.li b) == decide (c ∈ grpF T.li a)) = true := by simpa [hb] using g2
  exact decide_eq_decide.mp (beq_iff_eq.mp (List.all_eq_true.mp g3 c (List.mem_finRange c)))
theorem ToF.grp {ns : List Str} {ls : List (Str × Str)} (T : ToF ns ls) (a : Fin T.m) : bfsR ls 6 0 [T.f a] = some (grpF ls (T.f a)) ∧ grpF ls (T.f a) = (grpF T.li a).map T.f := by
  have n := bfs_nat T.f T.hf T.li 6 0 [a]
  rw [← T.e] at n
  have h := (T.fin a).1
  unfold grpF
  cases e : bfsR T.li 6 0 [a] with
  | none => rw [e] at h; cases h
  | some G => rw [e] at n; simp only [List.map_cons, List.map_nil, Option.map_some] at n; rw [n]; exact ⟨rfl, rfl⟩
theorem grp_some {ns : List Str} (nd : ns.Nodup) (l4 : ns.length ≤ 4) {ls : List (Str × Str)} (hs : ls.Sublist (allP (sortS ns))) {a : Str} (ha : a ∈ ns) : bfsR ls 6 0 [a] = some (grpF ls a) := by
  obtain ⟨T⟩ := toF nd l4 hs
  obtain ⟨i, rfl⟩ := T.at ha
  exact (T.grp i).1
theorem grp_sub {ns : List Str} (nd : ns.Nodup) (l4 : ns.length ≤ 4) {ls : List (Str × Str)} (hs : ls.Sublist (allP (sortS ns))) {a b : Str} (ha : a ∈ ns) (hb : b ∈ grpF ls a) : b ∈ ns := by
  obtain ⟨T⟩ := toF nd l4 hs
  obtain ⟨i, rfl⟩ := T.at ha
  rw [(T.grp i).2] at hb
  obtain ⟨j, _, rfl⟩ := List.mem_map.mp hb
  exact T.pm.mem_iff.mp (List.mem_map_of_mem (List.mem_finRange j))
theorem grp_same {ns : List Str} (nd : ns.Nodup) (l4 : ns.length ≤ 4) {ls : List (Str × Str)} (hs : ls.Sublist (allP (sortS ns))) {a b : Str} (ha : a ∈ ns) (hb : b ∈ grpF ls a) (c : Str) : c ∈ grpF ls b ↔ c ∈ grpF ls a := by
  have hb' := grp_sub nd l4 hs ha hb
  obtain ⟨T⟩ := toF nd l4 hs
  obtain ⟨i, rfl⟩ := T.at ha
  obtain ⟨j, rfl⟩ := T.at hb'
  rw [(T.grp i).2] at hb ⊢
  rw [(T.grp j).2]
  have hj := (mem_nat T.f T.hf j _).mp hb
  constructor
  · intro hc
    obtain ⟨k, hk, rfl⟩ := List.mem_map.mp hc
    exact (mem_nat T.f T.hf k _).mpr ((((T.fin i).2 j).2 hj k).mp hk)
  · intro hc
    obtain ⟨k, hk, rfl⟩ := List.mem_map.mp hc
    exact (mem_nat T.f T.hf k _).mpr ((((T.fin i).2 j).2 hj k).mpr hk)
theorem grp_leads {ns : List Str} (nd : ns.Nodup) (l4 : ns.length ≤ 4) {ls : List (Str × Str)} (hs : ls.Sublist (allP (sortS ns))) {a b : Str} (ha : a ∈ ns) (hb : b ∈ ns) : decide (b ∈ grpF ls a) = leads ns ls a b := by
  obtain ⟨T⟩ := toF nd l4 hs
  obtain ⟨i, rfl⟩ := T.at ha
  obtain ⟨j, rfl⟩ := T.at hb
  have e1 : decide (T.f j ∈ grpF ls (T.f i)) = decide (j ∈ grpF T.li i) := by
    rw [(T.grp i).2]
    exact decide_eq_decide.mpr (mem_nat T.f T.hf j _)
  have e2 := leads_nat T.f T.hf (List.finRange T.m) T.li i j
  rw [← T.e] at e2
  have e3 : leads ((List.finRange T.m).map T.f) ls (T.f i) (T.f j) = leads ns ls (T.f i) (T.f j) := by
    unfold leads
    rw [T.pm.any_eq]
    congr 1
    funext c
    exact T.pm.any_eq
  rw [e1, ((T.fin i).2 j).1, ← e2, e3]
end Lw

namespace Lw
open PySem PySem.Spec PyProof.Rows L2 TL PyD
/-! seat -/
theorem idx_strs (a : Str) : ∀ ns : List Str, a ∈ ns → idxD (.str a) (ns.map .str) = some (ns.idxOf a)
  | [], h => by cases h
  | n :: ns, h => by
    simp only [List.map_cons, idxD, x_evSS]
    by_cases e : n = a
    · subst e; simp
    · have : a ∈ ns := by
        rcases List.mem_cons.mp h with z | z
        · exact absurd z.symm e
        · exact z
      rw [List.idxOf_cons]
      have : (n == a) = false := by simpa using e
      simp [e, this, idx_strs a ns (by assumption)]
theorem pys_strs : ∀ ns : List Str, toPys (ns.map .str) = some (ns.map .str)
  | [] => by simp
  | n :: ns => by simp [pys_strs ns]
theorem index_ok (a : Str) (ns : List Str) (h : a ∈ ns) (so : ∀ n ∈ ns, PyData.strOk n = true) : indexD (.lst (ns.map .str)) [.str a] = some (.val (.int (ns.idxOf a : Nat))) := by
  have e := idx_strs a ns h
  have p := pys_strs ns
  have ok : okd 60 (.lst (ns.map .str)) = true := by
    rw [x_okL, okds_iff]
    intro x hx
    obtain ⟨n, hn, rfl⟩ := List.mem_map.mp hx
    simp [so n hn]
  obtain ⟨q, h1, h2⟩ := okd_shaped ok
  simp only [x_tpL, p, Option.map_some, Option.some.injEq] at h1
  subst h1
  simp only [indexD, p, x_tpS, h2]
  simp [so a h, e]
theorem in_townN {t : Twn} (h : t.Ok) (x : D) (hx : seen x = true) : (orF (inD true) (eqOD true (inO IN_Town))) x t.d = some (.val (.bl (!inT t.ns x))) := by
  have c := contains h x hx
  have n1 : notO x = true := by cases x <;> first | rfl | (simp [seen] at hx; done)
  have i1 : inD true x t.d = none := by cases x <;> first | rfl | (simp [seen] at hx; done)
  have i2 : inO IN_Town x t.d = some (inT t.ns x) := by
    have : inO IN_Town x t.d = fnB (IN_Town 1) fun f => blV (callV f [t.d, x]) := by
      unfold Twn.d; exact x_inO
    rw [this]
    simp [callV, c]
  simp -implicitDefEqProofs [-x_inD, i1, i2, n1]
theorem seat_ok {t : Twn} (h : t.Ok) {a : Str} (ha : a ∈ t.ns) : f_Town_seat [.v t.d, .v (.str a)] = .ret (.val (.int (t.ns.idxOf a : Nat))) [] := by
  have it := in_townN h (.str a) rfl
  have e : inT t.ns (.str a) = true := by simp [inT, ha]
  rw [e] at it
  have tn := Twn.names h
  have ix := index_ok a t.ns ha (fun n hn => nm_so (h.nm n hn))
  simp -implicitDefEqProofs [-x_orF, f_Town_seat, x_mkFn, b_Town_seat, it, tn, ix]
/-! group -/
theorem inS2 (x a b : Str) (hx : PyData.strOk x = true) (ha : PyData.strOk a = true) (hb : PyData.strOk b = true) : anyB (toPy (.str x)) (toPys [.str a, .str b]) = some (decide (x = a ∨ x = b)) := by
  refine anyB_of (by simp [hx]) (by simp [ha, hb]) (by simp [smk]) ?_
  simp
theorem inSs (x : Str) (ns : List Str) (hx : PyData.strOk x = true) (hn : ∀ n ∈ ns, PyData.strOk n = true) : anyB (some (.str x)) (toPys (ns.map .str)) = some (decide (x ∈ ns)) := by
  rw [← x_tpS]
  refine anyB_of (by simp [hx]) (okds_iff.mpr fun d hd => ?_) (fun d hd => ?_) ?_
  · obtain ⟨n, h, rfl⟩ := List.mem_map.mp hd
    simp [hn n h]
  · obtain ⟨n, h, rfl⟩ := List.mem_map.mp hd
    simp [smk]
  · simp
theorem at_str {F : List Str} {i : Nat} {x : Str} (h : F[i]? = some x) : atI (F.map D.str) (i : Nat) = some (.str x) := by
  have hi : i < F.length := (List.getElem?_eq_some_iff.mp h).1
  rw [atI_of (by omega) (by simp; omega)]
  simp [h]
section
variable (d0 d1 : D) (x4 x5 x6 : Option PyD.Slot)
theorem g_step (F : List Str) (i : Nat) (x : Str) (hx : F[i]? = some x) (l : Str × Str) (so : ∀ n ∈ F, PyData.strOk n = true) (s1 : PyData.strOk l.1 = true) (s2 : PyData.strOk l.2 = true) (hl : F.length < 1000) : ∃ y6, b_Town_group_L1 [some (.val d0), some (.val d1), some (.own none (.lst (F.map .str))), some (.val (.int (i : Nat))), some (.val (lkD l)), x5, x6] = .nx [some (.val d0), some (.val d1), some (.own none (.lst ((addL x F l).map .str))), some (.val (.int (i : Nat))), some (.val (lkD l)), x5, y6] := by
  obtain ⟨a, b⟩ := l
  have sx : PyData.strOk x = true := so x (List.mem_of_getElem? hx)
  have at_ := at_str hx
  simp only at s1 s2
  have l1 : F.length ≤ 16777216 := by omega
  have l2 : F.length ≤ 16777215 := by omega
  have e0 : atI [D.str a, D.str b] 0 = some (.str a) := rfl
  have e1 : atI [D.str a, D.str b] 1 = some (.str b) := rfl
  by_cases h : x = a ∨ x = b
  · have i3 : PyData.strOk (othL x (a, b)) = true := by unfold othL; split; exact s2; exact s1
    have i2 := inSs (othL x (a, b)) F i3 so
    refine ⟨some (.val (.str (othL x (a, b)))), ?_⟩
    by_cases g : othL x (a, b) ∈ F
    · simp only [g, decide_true] at i2
      unfold addL
      rw [if_pos h, if_pos g]
      by_cases q : a = x
      · have o : othL x (a, b) = b := by simp [othL, q]
        rw [o] at i2 g ⊢
        subst q
        simp -implicitDefEqProofs [b_Town_group_L1, lkD, at_, e0, e1, sx, s1, s2, i2, l1]
      · have o : othL x (a, b) = a := by simp [othL, q]
        rw [o] at i2 g ⊢
        have q2 : x = b := h.resolve_left fun z => q z.symm
        subst q2
        have q3 : ¬ x = a := fun z => q z.symm
        simp -implicitDefEqProofs [b_Town_group_L1, lkD, at_, e0, e1, sx, s1, s2, q, q3, i2, l1]
    · simp only [g, decide_false] at i2
      unfold addL
      rw [if_pos h, if_neg g]
      by_cases q : a = x
      · have o : othL x (a, b) = b := by simp [othL, q]
        rw [o] at i2 g ⊢
        subst q
        simp -implicitDefEqProofs [b_Town_group_L1, lkD, at_, e0, e1, sx, s1, s2, i2, l1, l2]
      · have o : othL x (a, b) = a := by simp [othL, q]
        rw [o] at i2 g ⊢
        have q2 : x = b := h.resolve_left fun z => q z.symm
        subst q2
        have q3 : ¬ x = a := fun z => q z.symm
        simp -implicitDefEqProofs [b_Town_group_L1, lkD, at_, e0, e1, sx, s1, s2, q, q3, i2, l1, l2]
  · refine ⟨x6, ?_⟩
    have h1 : ¬ x = a := fun z => h (.inl z)
    have h2 : ¬ x = b := fun z => h (.inr z)
    have h3 : ¬ a = x := fun z => h1 z.symm
    have h4 : ¬ b = x := fun z => h2 z.symm
    unfold addL
    rw [if_neg h]
    simp -implicitDefEqProofs [b_Town_group_L1, lkD, at_, sx, s1, s2, h1, h2, h3, h4]
theorem g_for (i : Nat) (x : Str) : ∀ (ls : List (Str × Str)) (F : List Str) (x4 x6 : Option PyD.Slot), F[i]? = some x → (∀ n ∈ F, PyData.strOk n = true) → (∀ l ∈ ls, PyData.strOk l.1 = true ∧ PyData.strOk l.2 = true) → F.length + ls.length < 1000 → ∃ y4 y6, forD (gN 4) b_Town_group_L1 (ls.map lkD) [some (.val d0), some (.val d1), some (.own none (.lst (F.map .str))), some (.val (.int (i : Nat))), x4, x5, x6] = .nx [some (.val d0), some (.val d1), some (.own none (.lst ((ls.foldl (addL x) F).map .str))), some (.val (.int (i : Nat))), y4, x5, y6]
  | [], F, x4, x6, _, _, _, _ => ⟨x4, x6, rfl⟩
  | l :: ls, F, x4, x6, hx, so, sl, hl => by
    simp only [List.length_cons] at hl
    have s12 := sl l (List.mem_cons_self ..)
    obtain ⟨z6, st⟩ := g_step d0 d1 x5 x6 F i x hx l so s12.1 s12.2 (by omega)
    have pre : ∃ r, addL x F l = F ++ r ∧ r.length ≤ 1 ∧ ∀ n ∈ r, PyData.strOk n = true := by
      unfold addL
      split
      · split
        · exact ⟨[], by simp, by simp, by simp⟩
        · refine ⟨[othL x l], rfl, by simp, fun n hn => ?_⟩
          rw [List.mem_singleton.mp hn]
          unfold othL; split; exact s12.2; exact s12.1
      · exact ⟨[], by simp, by simp, by simp⟩
    obtain ⟨r, er, hr, sr⟩ := pre
    have hi : i < F.length := (List.getElem?_eq_some_iff.mp hx).1
    obtain ⟨y4, y6, e⟩ := g_for i x ls (addL x F l) (some (.val (lkD l))) z6 (by rw [er, List.getElem?_append_left hi]; exact hx) (by
      rw [er]
      intro n hn
      rcases List.mem_append.mp hn with z | z
      · exact so n z
      · exact sr n z) (fun q hq => sl q (List.mem_cons_of_mem _ hq)) (by rw [er, List.length_append]; omega)
    refine ⟨y4, y6, ?_⟩
    rw [List.map_cons, x_forC]
    simp only [x_gN, List.length_cons, List.length_nil, List.set_cons_succ, List.set_cons_zero]
    rw [if_pos (by decide)]
    simp only [x_optS, st, x_loopSn, List.foldl_cons, e]
end
theorem foldA_sub (x : Str) : ∀ (ls : List (Str × Str)) (F : List Str) (P : Str → Prop), (∀ n ∈ F, P n) → (∀ l ∈ ls, P l.1 ∧ P l.2) → ∀ n ∈ ls.foldl (addL x) F, P n
  | [], F, P, h, _ => h
  | l :: ls, F, P, h, hl => by
    rw [List.foldl_cons]
    refine foldA_sub x ls _ P (fun n hn => ?_) (fun q hq => hl q (List.mem_cons_of_mem _ hq))
    have := hl l (List.mem_cons_self ..)
    unfold addL at hn
    split at hn
    · split at hn
      · exact h n hn
      · rcases List.mem_append.mp hn with z | z
        · exact h n z
        · rw [List.mem_singleton.mp z]
          unfold othL; split; exact this.2; exact this.1
    · exact h n hn
theorem foldA_len (x : Str) : ∀ (ls : List (Str × Str)) (F : List Str), (ls.foldl (addL x) F).length ≤ F.length + ls.length
  | [], F => by simp
  | l :: ls, F => by
    rw [List.foldl_cons]
    have := foldA_len x ls (addL x F l)
    have h2 : (addL x F l).length ≤ F.length + 1 := by
      unfold addL; split
      · split <;> simp
      · omega
    simp only [List.length_cons]; omega
theorem g_while {t : Twn} (h : t.Ok) (d1 : D) : ∀ (n i : Nat) (F G : List Str) (N : Nat) (x4 x5 x6 : Option PyD.Slot), bfsR t.ls n i F = some G → n ≤ N → (∀ y ∈ F, PyData.strOk y = true) → F.length + 60 * n < 900 → ∃ y4 y6, ∃ j : Nat, whileD (mBinB ltD (mVar 3) (mCB (orC lenD (lenOD LN_Town)) (mCons (mVar 2) mNil))) b_Town_group_W2 N [some (.val t.d), some (.val d1), some (.own none (.lst (F.map .str))), some (.val (.int (i : Nat))), x4, x5, x6] = .nx [some (.val t.d), some (.val d1), some (.own none (.lst (G.map .str))), some (.val (.int (j : Nat))), y4, x5, y6]
  | 0, i, F, G, N, x4, x5, x6, e, _, _, _ => by cases e
  | n + 1, i, F, G, N, x4, x5, x6, e, hN, so, hl => by
    have hN0 : 0 < N := by omega
    rw [x_while hN0]
    simp only [bfsR] at e
    have sl : ∀ l ∈ t.ls, PyData.strOk l.1 = true ∧ PyData.strOk l.2 = true := fun l hl => h.lk.sop hl
    have le := h.lk.le
    cases hx : F[i]? with
    | none =>
      rw [hx] at e
      cases e
      have hi : ¬ (i < F.length) := by
        have := List.getElem?_eq_none_iff.mp hx; omega
      exact ⟨x4, x6, i, by simp [hi]⟩
    | some x =>
      rw [hx] at e
      have hi : i < F.length := (List.getElem?_eq_some_iff.mp hx).1
      obtain ⟨y4, y6, f⟩ := g_for t.d d1 x5 i x t.ls F x4 x6 hx so sl (by omega)
      have fl := foldA_len x t.ls F
      obtain ⟨z4, z6, j, w⟩ := g_while h d1 n (i + 1) _ G (N - 1) y4 x5 y6 e (by omega) (foldA_sub x t.ls F _ so sl) (by omega)
      refine ⟨z4, z6, j, ?_⟩
      have bd : b_Town_group_W2 [some (.val t.d), some (.val d1), some (.own none (.lst (F.map .str))), some (.val (.int (i : Nat))), x4, x5, x6] = .nx [some (.val t.d), some (.val d1), some (.own none (.lst ((t.ls.foldl (addL x) F).map .str))), some (.val (.int ((i + 1 : Nat) : Int))), y4, x5, y6] := by
        simp -implicitDefEqProofs [b_Town_group_W2, f, fII]
      simp -implicitDefEqProofs [hi, bd]
      rw [show ((i : Int) + 1) = ((i + 1 : Nat) : Int) from by omega]
      exact w
/-- the group of a till -/
def Twn.grp (t : Twn) (a : Str) : List Str := t.ns.filter fun b => decide (b ∈ grpF t.ls a)
def Twn.Gr (t : Twn) : Prop := t.ls.Sublist (allP (sortS t.ns))
theorem Twn.Ok.l4' {t : Twn} (h : t.Ok) : t.ns.length ≤ 4 := by unfold Twn.ns; simpa using h.l4
theorem group_ok {t : Twn} (h : t.Ok) (hg : t.Gr) {a : Str} (ha : a ∈ t.ns) : f_Town_group [.v t.d, .v (.str a)] = .ret (.new (.lst ((t.grp a).map .str))) [] := by
  have l4 := h.l4'
  have so : ∀ n ∈ t.ns, PyData.strOk n = true := fun n hn => nm_so (h.nm n hn)
  have bs := grp_some h.nd l4 hg ha
  obtain ⟨y4, y6, j, w⟩ := g_while h (.str a) 6 0 [a] (grpF t.ls a) 1000000 none none none bs (by decide) (by simp [so a ha]) (by simp)
  have se := seat_ok h ha
  have tn := Twn.names h
  have sg : ∀ n ∈ grpF t.ls a, PyData.strOk n = true := fun n hn => so n (grp_sub h.nd l4 hg ha hn)
  have lc := lc_filter (vs := [5]) (f := gN 5) (t := mBinB (orF (inD false) (eqOD false (inO IN_Town))) (mVar 5) (mVar 2)) (me := mVar 5) (p := fun d => match d with | .str n => decide (n ∈ grpF t.ls a) | _ => false) (g := fun d => d) (ρ := [some (.val t.d), some (.val (.str a)), some (.own none (.lst ((grpF t.ls a).map .str))), some (.val (.int (j : Nat))), y4, none, y6]) (ds := t.ns.map .str) (acc := []) (fun d hd => by
    obtain ⟨n, hn, rfl⟩ := List.mem_map.mp hd
    have i2 := inSs n (grpF t.ls a) (so n hn) sg
    refine ⟨[some (.val t.d), some (.val (.str a)), some (.own none (.lst ((grpF t.ls a).map .str))), some (.val (.int (j : Nat))), y4, some (.val (.str n)), y6], by simp, ?_, by simp, fun _ => ⟨.val (.str n), by simp, rfl⟩⟩
    simp -implicitDefEqProofs [i2]) (by simp; omega)
  have e : ((t.ns.map D.str).filter fun d => match d with | .str n => decide (n ∈ grpF t.ls a) | _ => false).map (fun d => d) = (t.grp a).map D.str := by
    rw [List.map_id', List.filter_map]; rfl
  rw [e, List.nil_append] at lc
  have w' : whileD (mBinB ltD (mVar 3) (mCB (orC lenD (lenOD LN_Town)) (mCons (mVar 2) mNil))) b_Town_group_W2 1000000 [some (.val t.d), some (.val (.str a)), some (.own none (.lst [.str a])), some (.val (.int 0)), none, none, none] = .nx [some (.val t.d), some (.val (.str a)), some (.own none (.lst ((grpF t.ls a).map .str))), some (.val (.int (j : Nat))), y4, none, y6] := w
  simp -implicitDefEqProofs [f_Town_group, x_mkFn, b_Town_group, List.replicate, se, w', tn, lc]
end Lw

namespace Lw
open PySem PySem.Spec PyProof.Rows L2 TL PyD
/-! towns made of towns -/
theorem LkOk.sub {ls ks : List (Str × Str)} {ns : List Str} (h : LkOk ls ns) (s : ks.Sublist ls) : LkOk ks ns :=
  ⟨h.so, h.ln, fun p hp => h.m1 p (s.mem hp), fun p hp => h.m2 p (s.mem hp), fun p hp => h.lt p (s.mem hp), (s.map txt).nodup h.nd, Nat.lt_of_le_of_lt s.length_le h.le⟩
theorem Twn.Ok.sub {t : Twn} (h : t.Ok) {ks : List (Str × Str)} (s : ks.Sublist t.ls) : Twn.Ok { t with ls := ks } :=
  ⟨h.ne, h.l4, h.nm, h.nd, h.lim, h.lk.sub s, h.so.sublist s, h.mo, h.me, h.to⟩
theorem parts_ok (t : Twn) : f_Town_parts [.v t.d] = .ret (.val (.tup [.int t.money, t.mem.d, .int t.tops, .bl t.num])) [] := by
  simp -implicitDefEqProofs [f_Town_parts, x_mkFn, b_Town_parts]
theorem made_ok {t : Twn} (h : t.Ok) (s : D) (X : D) (hX : X = .lst (t.ts.map Tl.d) ∨ X = .tup (t.ts.map Tl.d)) (ks : List (Str × Str)) (pm : t.ls.Perm ks) (Y : D) (hY : Y = .lst (ks.map lkD) ∨ Y = .tup (ks.map lkD)) : f_Town_made [.v s, .v X, .v Y, .v (.tup [.int t.money, t.mem.d, .int t.tops, .bl t.num])] = .ret (.new t.d) [] := by
  have ti := town_in h X hX ks pm Y hY
  simp -implicitDefEqProofs [f_Town_made, x_mkFn, b_Town_made, List.replicate, ti]
theorem with_links_ok {t : Twn} {ls : List (Str × Str)} (h : Twn.Ok { t with ls := ls }) (ks : List (Str × Str)) (pm : ls.Perm ks) (Y : D) (hY : Y = .lst (ks.map lkD) ∨ Y = .tup (ks.map lkD)) : f_Town_with_links [.v t.d, .v Y] = .ret (.new (Twn.d { t with ls := ls })) [] := by
  have m := made_ok h t.d (.tup (t.ts.map Tl.d)) (.inr rfl) ks pm Y hY
  have p := parts_ok t
  simp -implicitDefEqProofs [f_Town_with_links, x_mkFn, b_Town_with_links, p, m]
end Lw

namespace Lw
open PySem PySem.Spec PyProof.Rows L2 TL PyD
theorem inP (a b : Str) (ha : PyData.strOk a = true) (hb : PyData.strOk b = true) (ls : List (Str × Str)) (hl : ∀ q ∈ ls, PyData.strOk q.1 = true ∧ PyData.strOk q.2 = true) : anyB (some (.tuple [.str a, .str b])) (toPys (ls.map lkD)) = some (decide ((a, b) ∈ ls)) := by
  have := inPairs (a, b) ha hb ls hl
  simpa [lkD] using this
theorem touch_ok (ls : List (Str × Str)) (hl : ∀ q ∈ ls, PyData.strOk q.1 = true ∧ PyData.strOk q.2 = true) (a b : Str) (ha : PyData.strOk a = true) (hb : PyData.strOk b = true) : f__law_touch [.v (.lst (ls.map lkD)), .v (.str a), .v (.str b)] = .ret (.val (.bl (touch ls a b))) [] := by
  have i1 := inP a b ha hb ls hl
  have i2 := inP b a hb ha ls hl
  by_cases h1 : a = b
  · subst h1
    simp -implicitDefEqProofs [f__law_touch, x_mkFn, b__law_touch, touch]
  · by_cases h2 : (a, b) ∈ ls
    · simp -implicitDefEqProofs [f__law_touch, x_mkFn, b__law_touch, touch, h1, i1, h2]
    · simp -implicitDefEqProofs [f__law_touch, x_mkFn, b__law_touch, touch, h1, i1, i2, h2]
section
variable (ns : List Str) (ls : List (Str × Str)) (a b : Str) (hn : ∀ n ∈ ns, PyData.strOk n = true) (hl : ∀ q ∈ ls, PyData.strOk q.1 = true ∧ PyData.strOk q.2 = true) (ha : PyData.strOk a = true) (hb : PyData.strOk b = true)
abbrev lrho (c d : D) (x6 x7 : Option PyD.Slot) : Rho := [some (.val (.lst (ns.map .str))), some (.val (.lst (ls.map lkD))), some (.val (.str a)), some (.val (.str b)), some (.val c), some (.val d), x6, x7]
def rows3 (c d : Str) : List D := [.tup [.str a, .str c], .tup [.str c, .str d], .tup [.str d, .str b]]
include hl ha hb
theorem ld_body (c d : Str) (hc : PyData.strOk c = true) (hd : PyData.strOk d = true) (x6 x7 : Option PyD.Slot) : b__law_leads_L1 (lrho ns ls a b (.str c) (.str d) x6 x7) = if touch ls a c && (touch ls c d && touch ls d b) then .ret (.val (.bl true)) (lrho ns ls a b (.str c) (.str d) (some (.val (.lst (rows3 a b c d)))) none) else .nx (lrho ns ls a b (.str c) (.str d) (some (.val (.lst (rows3 a b c d)))) none) := by
  have t1 := touch_ok ls hl a c ha hc
  have t2 := touch_ok ls hl c d hc hd
  have t3 := touch_ok ls hl d b hd hb
  have e0 : ∀ x y : D, atI [x, y] 0 = some x := fun _ _ => rfl
  have e1 : ∀ x y : D, atI [x, y] 1 = some y := fun _ _ => rfl
  unfold rows3 lrho
  cases h1 : touch ls a c <;> cases h2 : touch ls c d <;> cases h3 : touch ls d b <;> simp -implicitDefEqProofs [b__law_leads_L1, x_lcC, e0, e1, t1, t2, t3, h1, h2, h3, eqD, orF, eqF, eqD0, ha, hb, hc, hd]
theorem ld_in (c : Str) (hc : PyData.strOk c = true) : ∀ (xs : List Str), (∀ n ∈ xs, PyData.strOk n = true) → ∀ (x5 x6 x7 : Option PyD.Slot), ((xs.any fun d => touch ls a c && (touch ls c d && touch ls d b)) = true → ∃ ρ', forD (gN 5) b__law_leads_L1 (xs.map .str) [some (.val (.lst (ns.map .str))), some (.val (.lst (ls.map lkD))), some (.val (.str a)), some (.val (.str b)), some (.val (.str c)), x5, x6, x7] = .ret (.val (.bl true)) ρ') ∧ ((xs.any fun d => touch ls a c && (touch ls c d && touch ls d b)) = false → ∃ y5 y6 y7, forD (gN 5) b__law_leads_L1 (xs.map .str) [some (.val (.lst (ns.map .str))), some (.val (.lst (ls.map lkD))), some (.val (.str a)), some (.val (.str b)), some (.val (.str c)), x5, x6, x7] = .nx [some (.val (.lst (ns.map .str))), some (.val (.lst (ls.map lkD))), some (.val (.str a)), some (.val (.str b)), some (.val (.str c)), y5, y6, y7])
  | [], _, x5, x6, x7 => ⟨fun h => by simp at h, fun _ => ⟨x5, x6, x7, rfl⟩⟩
  | d :: xs, hx, x5, x6, x7 => by
    have hd := hx d (List.mem_cons_self ..)
    obtain ⟨i1, i2⟩ := ld_in c hc xs (fun n h => hx n (List.mem_cons_of_mem _ h)) (some (.val (.str d))) (some (.val (.lst (rows3 a b c d)))) none
    have bd := ld_body ns ls a b hl ha hb c d hc hd x6 x7
    unfold lrho at bd
    have f : forD (gN 5) b__law_leads_L1 ((d :: xs).map .str) [some (.val (.lst (ns.map .str))), some (.val (.lst (ls.map lkD))), some (.val (.str a)), some (.val (.str b)), some (.val (.str c)), x5, x6, x7] = loopS (b__law_leads_L1 [some (.val (.lst (ns.map .str))), some (.val (.lst (ls.map lkD))), some (.val (.str a)), some (.val (.str b)), some (.val (.str c)), some (.val (.str d)), x6, x7]) (forD (gN 5) b__law_leads_L1 (xs.map .str)) := by
      rw [List.map_cons, x_forC]
      simp only [x_gN, List.length_cons, List.length_nil, List.set_cons_succ, List.set_cons_zero]
      rw [if_pos (by decide)]
      simp only [x_optS]
    rw [f, bd]
    simp only [List.any_cons]
    cases h : (touch ls a c && (touch ls c d && touch ls d b)) with
    | true =>
      simp only [Bool.true_or, if_true, x_loopSr]
      exact ⟨fun _ => ⟨_, rfl⟩, fun h => by cases h⟩
    | false =>
      simp only [Bool.false_or, Bool.false_eq_true, if_false, x_loopSn]
      exact ⟨i1, i2⟩
include hn
theorem ld_out : ∀ (xs : List Str), (∀ n ∈ xs, PyData.strOk n = true) → ∀ (x4 x5 x6 x7 : Option PyD.Slot), ((xs.any fun c => ns.any fun d => touch ls a c && (touch ls c d && touch ls d b)) = true → ∃ ρ', forD (gN 4) b__law_leads_L2 (xs.map .str) [some (.val (.lst (ns.map .str))), some (.val (.lst (ls.map lkD))), some (.val (.str a)), some (.val (.str b)), x4, x5, x6, x7] = .ret (.val (.bl true)) ρ') ∧ ((xs.any fun c => ns.any fun d => touch ls a c && (touch ls c d && touch ls d b)) = false → ∃ ρ', forD (gN 4) b__law_leads_L2 (xs.map .str) [some (.val (.lst (ns.map .str))), some (.val (.lst (ls.map lkD))), some (.val (.str a)), some (.val (.str b)), x4, x5, x6, x7] = .nx ρ')
  | [], _, x4, x5, x6, x7 => ⟨fun h => by simp at h, fun _ => ⟨_, rfl⟩⟩
  | c :: xs, hx, x4, x5, x6, x7 => by
    have hc := hx c (List.mem_cons_self ..)
    obtain ⟨j1, j2⟩ := ld_in ns ls a b hl ha hb c hc ns hn x5 x6 x7
    have f : forD (gN 4) b__law_leads_L2 ((c :: xs).map .str) [some (.val (.lst (ns.map .str))), some (.val (.lst (ls.map lkD))), some (.val (.str a)), some (.val (.str b)), x4, x5, x6, x7] = loopS (forD (gN 5) b__law_leads_L1 (ns.map .str) [some (.val (.lst (ns.map .str))), some (.val (.lst (ls.map lkD))), some (.val (.str a)), some (.val (.str b)), some (.val (.str c)), x5, x6, x7]) (forD (gN 4) b__law_leads_L2 (xs.map .str)) := by
      rw [List.map_cons, x_forC]
      simp only [x_gN, List.length_cons, List.length_nil, List.set_cons_succ, List.set_cons_zero]
      rw [if_pos (by decide)]
      simp only [x_optS]
      congr 1
    rw [f]
    simp only [List.any_cons]
    cases h : (ns.any fun d => touch ls a c && (touch ls c d && touch ls d b)) with
    | true =>
      obtain ⟨ρ', e⟩ := j1 h
      rw [e]
      simp only [Bool.true_or, x_loopSr]
      exact ⟨fun _ => ⟨_, rfl⟩, fun h => by cases h⟩
    | false =>
      obtain ⟨y5, y6, y7, e⟩ := j2 h
      rw [e]
      simp only [Bool.false_or, x_loopSn]
      exact ld_out xs (fun n h => hx n (List.mem_cons_of_mem _ h)) _ y5 y6 y7
theorem leads_ok : f__law_leads [.v (.lst (ns.map .str)), .v (.lst (ls.map lkD)), .v (.str a), .v (.str b)] = .ret (.val (.bl (leads ns ls a b))) [] := by
  obtain ⟨j1, j2⟩ := ld_out ns ls a b hn hl ha hb ns hn none none none none
  unfold leads
  cases h : (ns.any fun c => ns.any fun d => touch ls a c && (touch ls c d && touch ls d b)) with
  | true =>
    obtain ⟨ρ', e⟩ := j1 h
    simp -implicitDefEqProofs [f__law_leads, x_mkFn, b__law_leads, List.replicate, e]
  | false =>
    obtain ⟨ρ', e⟩ := j2 h
    simp -implicitDefEqProofs [f__law_leads, x_mkFn, b__law_leads, List.replicate, e]
end
end Lw

namespace Lw
open PySem PySem.Spec PyProof.Rows L2 TL PyD
theorem grp_eq {t : Twn} (h : t.Ok) (hg : t.Gr) {a : Str} (ha : a ∈ t.ns) : t.ns.filter (leads t.ns t.ls a) = t.grp a := by
  unfold Twn.grp
  refine List.filter_congr fun b hb => ?_
  rw [grp_leads h.nd h.l4' hg ha hb]
theorem grp_eq2 {t : Twn} (h : t.Ok) (hg : t.Gr) {a b : Str} (ha : a ∈ t.ns) (hb : b ∈ t.grp a) : t.grp b = t.grp a := by
  unfold Twn.grp at hb ⊢
  have hb := (List.mem_filter.mp hb).2
  refine List.filter_congr fun c hc => ?_
  exact decide_eq_decide.mpr (grp_same h.nd h.l4' hg ha (by simpa using hb) c)
theorem grp_okd {t : Twn} (h : t.Ok) (a : Str) : okd 60 (.lst ((t.grp a).map .str)) = true := by
  rw [x_okL, okds_iff]
  intro x hx
  obtain ⟨n, hn, rfl⟩ := List.mem_map.mp hx
  have : n ∈ t.ns := (List.mem_filter.mp hn).1
  simp [nm_so (h.nm n this)]
theorem ix_links (t : Twn) : ixD t.m (.str (Str.ofString "links")) = some (.val (.lst (t.ls.map lkD))) := by simp [Twn.m, x_valKC]
theorem idp (t : Twn) (a b : Res) (ρ : Rho) : ixDisp GI_Town (some t.m) a b ρ = op2 ixD a b ρ := by unfold Twn.m; simp only [x_ixDd]
/-- due, by links handed in -/
theorem due_ok {t : Twn} (h : t.Ok) (hg : t.Gr) (m : MB) (mn : M) (ρ : Rho) (hlen : 11 < ρ.length) (h11 : ρ[11]? = some none) {a : Str} (ha : a ∈ t.ns) (hm : ∀ b ∈ t.ns, m (ρ.set 11 (some (.val (.str b)))) = .ok (leads t.ns t.ls a b) (ρ.set 11 (some (.val (.str b))))) : lcD [11] (gN 11) m (mVar 11) (t.ns.map .str) [] ρ = .ok ((t.grp a).map .str) ρ := by
  have l4 := h.l4'
  have lc := lc_filter (vs := [11]) (f := gN 11) (t := m) (me := mVar 11) (p := fun d => match d with | .str n => leads t.ns t.ls a n | _ => false) (g := fun d => d) (ρ := ρ) (ds := t.ns.map .str) (acc := []) (fun d hd => by
    obtain ⟨n, hn, rfl⟩ := List.mem_map.mp hd
    refine ⟨ρ.set 11 (some (.val (.str n))), by simp [hlen], hm n hn, ?_, fun _ => ⟨.val (.str n), by simp [hlen], rfl⟩⟩
    simp only [x_wipeC, x_wipeN, List.set_set]
    refine List.ext_getElem? fun i => ?_
    by_cases e : 11 = i
    · subst e; rw [List.getElem?_set_self hlen, h11]
    · rw [List.getElem?_set_ne e]) (by simp; omega)
  have e : ((t.ns.map D.str).filter fun d => match d with | .str n => leads t.ns t.ls a n | _ => false).map (fun d => d) = (t.grp a).map D.str := by
    rw [List.map_id', List.filter_map, ← grp_eq h hg ha]; rfl
  rw [e, List.nil_append] at lc
  exact lc
section
variable {t : Twn} (h : t.Dr 4) (x0 x1 x2 x4 x5 x6 x10 : Option PyD.Slot)
include h
theorem so_ns : ∀ n ∈ t.ns, PyData.strOk n = true := fun n hn => nm_so (h.ok.nm n hn)
theorem so_ls : ∀ q ∈ t.ls, PyData.strOk q.1 = true ∧ PyData.strOk q.2 = true := fun q hq => h.ok.lk.sop hq
theorem L1_ok (s8 : PyD.Slot) (h8 : s8 = .own none t.d ∨ s8 = .val t.d) (x11 : Option PyD.Slot) {a : Str} (ha : a ∈ t.ns) : b_law_L1 [x0, x1, x2, some (.val t.m), x4, x5, x6, some (.val (.str a)), some s8, some (.val (.lst (t.ns.map .str))), x10, x11] = .nx [x0, x1, x2, some (.val t.m), x4, x5, x6, some (.val (.str a)), some (.val t.d), some (.val (.lst (t.ns.map .str))), some (.val (.lst ((t.grp a).map .str))), none] := by
  have so := so_ns h
  have sl := so_ls h
  have du := due_ok h.ok h.gr (mTru (mCall 4 [false, false, false, false] f__law_leads (mCons (mVar 9) (mCons (mIxO GI_Town (mVar 3) (mC (.str (PySem.Str.ofString "links")))) (mCons (mVar 7) (mCons (mVar 11) mNil)))))) (mVar 11) [x0, x1, x2, some (.val t.m), x4, x5, x6, some (.val (.str a)), some s8, some (.val (.lst (t.ns.map .str))), x10, none] (by simp) (by simp) ha (fun b hb => by
    have le := leads_ok t.ns t.ls a b so sl (so a ha) (so b hb)
    simp -implicitDefEqProofs [idp, ix_links, le])
  have gr := group_ok h.ok h.gr ha
  have ne := neD_t (grp_okd h.ok a)
  have lc := lc_filter (vs := [11]) (f := gN 11) (t := mBinB (orF neD (eqOD true (eqO T EQ_Till_Town))) (mMeth C_Town (PySem.Str.ofString "group") 2 [false, false] f_Town_group (mVar 8) (mCons (mVar 11) mNil)) (mVar 10)) (me := mVar 11) (p := fun _ => false) (g := fun d => d) (ρ := [x0, x1, x2, some (.val t.m), x4, x5, x6, some (.val (.str a)), some (.val t.d), some (.val (.lst (t.ns.map .str))), some (.val (.lst ((t.grp a).map .str))), none]) (ds := (t.grp a).map .str) (acc := []) (fun d hd => by
    obtain ⟨n, hn, rfl⟩ := List.mem_map.mp hd
    have hn' : n ∈ t.ns := (List.mem_filter.mp hn).1
    have g2 := group_ok h.ok h.gr hn'
    rw [grp_eq2 h.ok h.gr ha hn] at g2
    refine ⟨[x0, x1, x2, some (.val t.m), x4, x5, x6, some (.val (.str a)), some (.val t.d), some (.val (.lst (t.ns.map .str))), some (.val (.lst ((t.grp a).map .str))), some (.val (.str n))], by simp, ?_, by simp, fun h => by cases h⟩
    simp -implicitDefEqProofs [g2, ne]) (by
      have : (t.grp a).length ≤ t.ns.length := List.length_filter_le _ _
      have := h.ok.l4'
      simp; omega)
  have lf : ((t.grp a).map D.str).filter (fun _ => false) = [] := by simp
  rw [lf] at lc
  simp only [List.map_nil, List.append_nil] at lc
  have gl : (t.grp a).length < 16777216 := by
    have : (t.grp a).length ≤ t.ns.length := List.length_filter_le _ _
    have := h.ok.l4'
    omega
  have n0 : neD (.lst []) (.lst []) = some (.val (.bl false)) := neD_t (by simp)
  generalize t.grp a = G at *
  rcases h8 with rfl | rfl <;> simp -implicitDefEqProofs [b_law_L1, du, gr, ne, lc, n0, gl]
end
end Lw

namespace Lw
open PySem PySem.Spec PyProof.Rows L2 TL PyD
section
variable {t : Twn} (h : t.Dr 4) (x0 x1 x2 x4 x5 x6 : Option PyD.Slot)
include h
theorem loop1 : ∀ (xs : List Str), (∀ a ∈ xs, a ∈ t.ns) → ∀ (x7 x10 x11 : Option PyD.Slot) (s8 : PyD.Slot), (s8 = .own none t.d ∨ s8 = .val t.d) → ∃ y7 y10 y11 s, (s = .own none t.d ∨ s = .val t.d) ∧ forD (gN 7) b_law_L1 (xs.map .str) [x0, x1, x2, some (.val t.m), x4, x5, x6, x7, some s8, some (.val (.lst (t.ns.map .str))), x10, x11] = .nx [x0, x1, x2, some (.val t.m), x4, x5, x6, y7, some s, some (.val (.lst (t.ns.map .str))), y10, y11]
  | [], _, x7, x10, x11, s8, h8 => ⟨x7, x10, x11, s8, h8, rfl⟩
  | a :: xs, hx, x7, x10, x11, s8, h8 => by
    obtain ⟨y7, y10, y11, s, hs, e⟩ := loop1 xs (fun n hn => hx n (List.mem_cons_of_mem _ hn)) (some (.val (.str a))) (some (.val (.lst ((t.grp a).map .str)))) none (.val t.d) (.inr rfl)
    refine ⟨y7, y10, y11, s, hs, ?_⟩
    rw [List.map_cons, x_forC]
    simp only [x_gN, List.length_cons, List.length_nil, List.set_cons_succ, List.set_cons_zero]
    rw [if_pos (by decide)]
    simp only [x_optS, L1_ok h x0 x1 x2 x4 x5 x6 x10 s8 h8 x11 (hx a (List.mem_cons_self ..)), x_loopSn, e]
theorem L2_ok (x7 x10 x11 : Option PyD.Slot) (s8 s9 : PyD.Slot) (h8 : s8 = .own none t.d ∨ s8 = .val t.d) (h9 : s9 = .own none (.lst (t.ns.map .str)) ∨ s9 = .val (.lst (t.ns.map .str))) : ∃ y7 y10 y11 s, (s = .own none t.d ∨ s = .val t.d) ∧ b_law_L2 [x0, x1, x2, some (.val t.m), x4, x5, x6, x7, some s8, some s9, x10, x11] = .nx [x0, x1, x2, some (.val t.m), x4, x5, x6, y7, some s, some (.val (.lst (t.ns.map .str))), y10, y11] := by
  obtain ⟨y7, y10, y11, s, hs, e⟩ := loop1 h x0 x1 x2 x4 x5 x6 t.ns (fun _ h => h) x7 x10 x11 s8 h8
  refine ⟨y7, y10, y11, s, hs, ?_⟩
  rcases h9 with rfl | rfl <;> simp -implicitDefEqProofs [b_law_L2, e]
end
section
variable {t u : Twn} (h : t.Dr 4) (hu : u.Ok) (hg : u.Gr) (en : u.ns = t.ns) (x0 x1 x2 x3 x4 x8 : Option PyD.Slot)
include h hu hg en
theorem L3_ok (s6 : PyD.Slot) (h6 : s6 = .own none u.d ∨ s6 = .val u.d) (x10 x11 : Option PyD.Slot) {a : Str} (ha : a ∈ t.ns) : b_law_L3 [x0, x1, x2, x3, x4, some (.val (.lst (u.ls.map lkD))), some s6, some (.val (.str a)), x8, some (.val (.lst (t.ns.map .str))), x10, x11] = .nx [x0, x1, x2, x3, x4, some (.val (.lst (u.ls.map lkD))), some (.val u.d), some (.val (.str a)), x8, some (.val (.lst (t.ns.map .str))), some (.own none (.lst ((u.grp a).map .str))), none] := by
  have so := so_ns h
  have sl : ∀ q ∈ u.ls, PyData.strOk q.1 = true ∧ PyData.strOk q.2 = true := fun q hq => hu.lk.sop hq
  rw [← en] at ha so ⊢
  have du := due_ok hu hg (mTru (mCall 4 [false, false, false, false] f__law_leads (mCons (mVar 9) (mCons (mVar 5) (mCons (mVar 7) (mCons (mVar 11) mNil)))))) (mVar 11) [x0, x1, x2, x3, x4, some (.val (.lst (u.ls.map lkD))), some s6, some (.val (.str a)), x8, some (.val (.lst (u.ns.map .str))), x10, none] (by simp) (by simp) ha (fun b hb => by
    have le := leads_ok u.ns u.ls a b so sl (so a ha) (so b hb)
    simp -implicitDefEqProofs [le])
  have gr := group_ok hu hg ha
  have ne := neD_t (grp_okd hu a)
  generalize u.grp a = G at *
  rcases h6 with rfl | rfl <;> simp -implicitDefEqProofs [b_law_L3, du, gr, ne]
theorem loop3 : ∀ (xs : List Str), (∀ a ∈ xs, a ∈ t.ns) → ∀ (x7 x10 x11 : Option PyD.Slot) (s6 : PyD.Slot), (s6 = .own none u.d ∨ s6 = .val u.d) → ∃ y7 y10 y11 s, forD (gN 7) b_law_L3 (xs.map .str) [x0, x1, x2, x3, x4, some (.val (.lst (u.ls.map lkD))), some s6, x7, x8, some (.val (.lst (t.ns.map .str))), x10, x11] = .nx [x0, x1, x2, x3, x4, some (.val (.lst (u.ls.map lkD))), s, y7, x8, some (.val (.lst (t.ns.map .str))), y10, y11]
  | [], _, x7, x10, x11, s6, h6 => ⟨x7, x10, x11, some s6, rfl⟩
  | a :: xs, hx, x7, x10, x11, s6, h6 => by
    obtain ⟨y7, y10, y11, s, e⟩ := loop3 xs (fun n hn => hx n (List.mem_cons_of_mem _ hn)) (some (.val (.str a))) (some (.own none (.lst ((u.grp a).map .str)))) none (.val u.d) (.inr rfl)
    refine ⟨y7, y10, y11, s, ?_⟩
    rw [List.map_cons, x_forC]
    simp only [x_gN, List.length_cons, List.length_nil, List.set_cons_succ, List.set_cons_zero]
    rw [if_pos (by decide)]
    simp only [x_optS, L3_ok h hu hg en x0 x1 x2 x3 x4 x8 s6 h6 x10 x11 (hx a (List.mem_cons_self ..)), x_loopSn, e]
end
theorem grp_nil (a : Str) : grpF [] a = [a] := by
  simp [grpF, bfsR]
theorem split10 {α : Type} : ∀ t : List α, t.length = 10 → ∃ a b c d e f g h i j, t = [a, b, c, d, e, f, g, h, i, j]
  | [a, b, c, d, e, f, g, h, i, j], _ => ⟨a, b, c, d, e, f, g, h, i, j, rfl⟩
theorem turn (ns : List Int) (k : Int) (r : Rho) (hk : 0 ≤ k) (hk2 : k ≤ 100) (hl : (some (PyD.Slot.val (.int k)) :: r).length = 11) : ∃ t', b_law_L4 (some (.val (.scr ns)) :: some (.val (.int k)) :: r) = .nx (some (.val (.scr ns)) :: t') ∧ t'.length = 11 := by
  obtain ⟨x2, x3, x4, x5, x6, x7, x8, x9, x10, x11, rfl⟩ := split10 r (by simpa using hl)
  obtain ⟨p, hp⟩ := pool ns k hk hk2
  obtain ⟨t, h, q, hm⟩ := model p 4 (by decide) (by decide)
  have h : t.Dr 4 := h
  have md := made h.ok
  have wo := words_of h.ok
  have st : strip t.m = t.m := by simp [Twn.m]
  have s1 : b_law_L4 [some (.val (.scr ns)), some (.val (.int k)), x2, x3, x4, x5, x6, x7, x8, x9, x10, x11] = b_law_t3 [some (.val (.scr ns)), some (.val (.int k)), some (.own none (poolD q)), some (.val t.m), x4, x5, x6, x7, some (.own none t.d), some (.own none (.lst (t.ns.map .str))), x10, x11] := by
    simp -implicitDefEqProofs [b_law_L4, b_law_t1, b_law_t2, hp, hm, st, md, wo]
  obtain ⟨a7, a10, a11, s, hs, e1⟩ := L2_ok h (some (.val (.scr ns))) (some (.val (.int k))) (some (.own none (poolD q))) (some (.val (.int 0))) x5 x6 x7 x10 x11 (.own none t.d) (.own none (.lst (t.ns.map .str))) (.inl rfl) (.inl rfl)
  obtain ⟨b7, b10, b11, s', hs', e2⟩ := L2_ok h (some (.val (.scr ns))) (some (.val (.int k))) (some (.own none (poolD q))) (some (.val (.int 1))) x5 x6 a7 a10 a11 s (.val (.lst (t.ns.map .str))) hs (.inr rfl)
  have rg : rangeD 0 2 = [.int 0, .int 1] := rfl
  have s2 : b_law_t3 [some (.val (.scr ns)), some (.val (.int k)), some (.own none (poolD q)), some (.val t.m), x4, x5, x6, x7, some (.own none t.d), some (.own none (.lst (t.ns.map .str))), x10, x11] = b_law_t4 [some (.val (.scr ns)), some (.val (.int k)), some (.own none (poolD q)), some (.val t.m), some (.val (.int 1)), x5, x6, b7, some s', some (.val (.lst (t.ns.map .str))), b10, b11] := by
    simp -implicitDefEqProofs [b_law_t3, rg, e1, e2]
  have cd : PyD.cutD (t.ls.map lkD) (some 1) none = (t.ls.drop 1).map lkD := by
    have := cut_drop (t.ls.map lkD) 1
    rw [List.map_drop]; simpa using this
  have s3 : b_law_t4 [some (.val (.scr ns)), some (.val (.int k)), some (.own none (poolD q)), some (.val t.m), some (.val (.int 1)), x5, x6, b7, some s', some (.val (.lst (t.ns.map .str))), b10, b11] = b_law_t5 [some (.val (.scr ns)), some (.val (.int k)), some (.own none (poolD q)), some (.val t.m), some (.val (.int 1)), some (.own none (.lst ((t.ls.drop 1).map lkD))), x6, b7, some s', some (.val (.lst (t.ns.map .str))), b10, b11] := by
    simp -implicitDefEqProofs [b_law_t4, idp, ix_links, cd, -List.map_drop]
  have sb : (t.ls.drop 1).Sublist t.ls := List.drop_sublist _ _
  have hu : Twn.Ok { t with ls := t.ls.drop 1 } := h.ok.sub sb
  have hg : Twn.Gr { t with ls := t.ls.drop 1 } := sb.trans h.gr
  have wl := with_links_ok hu (t.ls.drop 1) (.refl _) _ (.inl rfl)
  have s4 : b_law_t5 [some (.val (.scr ns)), some (.val (.int k)), some (.own none (poolD q)), some (.val t.m), some (.val (.int 1)), some (.own none (.lst ((t.ls.drop 1).map lkD))), x6, b7, some s', some (.val (.lst (t.ns.map .str))), b10, b11] = b_law_t6 [some (.val (.scr ns)), some (.val (.int k)), some (.own none (poolD q)), some (.val t.m), some (.val (.int 1)), some (.val (.lst ((t.ls.drop 1).map lkD))), some (.own none (Twn.d { t with ls := t.ls.drop 1 })), b7, some (.val t.d), some (.val (.lst (t.ns.map .str))), b10, b11] := by
    have iw : isO 1 (Str.ofString "with_links") (some t.d) = true := isO_town t _ (by decide)
    generalize (t.ls.drop 1).map lkD = FL at *
    rcases hs' with rfl | rfl <;> simp -implicitDefEqProofs [b_law_t5, wl, iw]
  obtain ⟨c7, c10, c11, s6, e3⟩ := loop3 h hu hg rfl (some (.val (.scr ns))) (some (.val (.int k))) (some (.own none (poolD q))) (some (.val t.m)) (some (.val (.int 1))) (some (.val t.d)) t.ns (fun _ h => h) b7 b10 b11 (.own none (Twn.d { t with ls := t.ls.drop 1 })) (.inl rfl)
  dsimp only at e3
  have s5 : b_law_t6 [some (.val (.scr ns)), some (.val (.int k)), some (.own none (poolD q)), some (.val t.m), some (.val (.int 1)), some (.val (.lst ((t.ls.drop 1).map lkD))), some (.own none (Twn.d { t with ls := t.ls.drop 1 })), b7, some (.val t.d), some (.val (.lst (t.ns.map .str))), b10, b11] = b_law_t7 [some (.val (.scr ns)), some (.val (.int k)), some (.own none (poolD q)), some (.val t.m), some (.val (.int 1)), some (.val (.lst ((t.ls.drop 1).map lkD))), s6, c7, some (.val t.d), some (.val (.lst (t.ns.map .str))), c10, c11] := by
    clear s1 s2 s3 s4 wl cd
    generalize (t.ls.drop 1).map lkD = FL at *
    generalize (Twn.d { t with ls := t.ls.drop 1 }) = ud at *
    simp -implicitDefEqProofs [b_law_t6, e3]
  have sb0 : ([] : List (Str × Str)).Sublist t.ls := List.nil_sublist _
  have h0 : Twn.Ok { t with ls := [] } := h.ok.sub sb0
  have g0 : Twn.Gr { t with ls := [] } := sb0.trans h.gr
  have w0 := with_links_ok h0 [] (.refl _) (.lst []) (.inl rfl)
  obtain ⟨n0, nr, hns⟩ : ∃ n0 nr, t.ns = n0 :: nr := by
    cases e : t.ns with
    | nil => unfold Twn.ns at e; exact absurd (List.map_eq_nil_iff.mp e) h.ok.ne
    | cons n r => exact ⟨n, r, rfl⟩
  have hn0 : n0 ∈ t.ns := by rw [hns]; simp
  have gg := group_ok h0 g0 (a := n0) hn0
  have ge : Twn.grp { t with ls := [] } n0 = [n0] := by
    have : Twn.grp { t with ls := [] } n0 = t.ns.filter fun b => decide (b ∈ grpF [] n0) := rfl
    rw [this, grp_nil, hns]
    have nd := h.ok.nd
    rw [hns] at nd
    have := List.nodup_cons.mp nd
    simp only [List.filter_cons, List.mem_singleton, decide_true, if_true]
    congr 1
    refine List.filter_eq_nil_iff.mpr fun b hb => ?_
    simp only [decide_eq_true_eq]
    intro e; subst e; exact this.1 hb
  rw [ge] at gg
  have so0 : PyData.strOk n0 = true := nm_so (h.ok.nm n0 hn0)
  have nl : neD (.lst [.str n0]) (.lst [.str n0]) = some (.val (.bl false)) := neD_t (by simp [so0])
  have lk : neD (.tup (t.ls.map lkD)) (.tup (t.ls.map lkD)) = some (.val (.bl false)) := neD_t (by
    rw [x_okT, okds_iff]
    intro x hx
    obtain ⟨l, hl, rfl⟩ := List.mem_map.mp hx
    have := h.ok.lk.sop hl
    simp [lkD, this])
  have at0 : atI (t.ns.map D.str) 0 = some (.str n0) := by rw [hns]; simp [atI, ixN]
  have ct1 : PyD.cutD (t.ns.map D.str) none (some 1) = [.str n0] := by
    have := cut_take (t.ns.map D.str) 1
    rw [hns] at this ⊢
    simpa using this
  have iw : isO 1 (Str.ofString "with_links") (some t.d) = true := isO_town t _ (by decide)
  have ig : isO 1 (Str.ofString "group") (some (Twn.d { t with ls := [] })) = true := isO_town _ _ (by decide)
  have sp : strip (Twn.d { t with ls := [] }) = Twn.d { t with ls := [] } := strip_t _
  have s6' : b_law_t7 [some (.val (.scr ns)), some (.val (.int k)), some (.own none (poolD q)), some (.val t.m), some (.val (.int 1)), some (.val (.lst ((t.ls.drop 1).map lkD))), s6, c7, some (.val t.d), some (.val (.lst (t.ns.map .str))), c10, c11] = .nx [some (.val (.scr ns)), some (.val (.int k)), some (.own none (poolD q)), some (.val t.m), some (.val (.int 1)), some (.val (.lst ((t.ls.drop 1).map lkD))), s6, c7, some (.val t.d), some (.val (.lst (t.ns.map .str))), c10, c11] := by
    generalize (t.ls.drop 1).map lkD = FL at *
    generalize t.ns.map D.str = NL at *
    generalize ht0 : (Twn.d { t with ls := [] }) = t0 at *
    simp -implicitDefEqProofs [b_law_t7, idp, ix_links, iw, w0, ig, gg, nl, lk, at0, ct1, sp]
  rw [s1, s2, s3, s4, s5, s6']
  exact ⟨_, rfl, rfl⟩
theorem law_ok (ns : List Int) (_ : ns.length ≤ 63) : f_law [.v (.scr ns)] = .ret (.val (.bl true)) [] := by
  obtain ⟨m, hm⟩ : ∃ m : Int, (if (if 2 < (ns.length : Int) then 2 else (ns.length : Int)) > 1 then (if 2 < (ns.length : Int) then 2 else (ns.length : Int)) else 1) = m := ⟨_, rfl⟩
  have hb : 1 ≤ m ∧ m ≤ 2 := by rw [← hm]; split <;> split <;> omega
  have r1 : -4611686018427387904 ≤ m := by omega
  have r2 : m < 4611686018427387904 := by omega
  obtain ⟨t', l, e⟩ := loopG b_law_L4 11 ns (turn ns) (rangeD 0 m.toNat) (fun d hd => by
    simp only [rangeD, List.mem_map, List.mem_range] at hd
    obtain ⟨i, hi, rfl⟩ := hd
    exact ⟨_, rfl, by omega, by omega⟩) (List.replicate 11 none) rfl (by decide)
  have hx : (if 1 < (if 2 < (ns.length : Int) then 2 else (ns.length : Int)) then (if 2 < (ns.length : Int) then 2 else (ns.length : Int)) else 1) = m := hm
  simp [f_law, x_mkFn, b_law, hx, r1, r2]
  simp only [List.replicate] at e
  rw [e]
  simp
end Lw

open PySem PySem.W PyProof.Rows
theorem PySem.Challenge.cw_cutofftills_k05_whole_groups_holds : PySem.Challenge.rw_cutofftills_k05_whole_groups.Holds :=
  Lw.end_ Lw.law_ok
