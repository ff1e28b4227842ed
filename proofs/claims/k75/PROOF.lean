import PyProof.Rows.All
import Wide.All
import OpenK.AllK
import Wide.FinOn
import PySem.Challenge.RW_slotwork_k75_whole_stable_plans
import HandS.ForMost
import HandS.ForExc
import HandS.Walk
import HandS.DictComp
import HandS.CallSlots
import HandS.Codes
import HandS.Lambda
import HandS.Flow
import HandS.Wide
import HandS.More
import HandS.Conv
import HandS.Defaults
import HandS.SortInts
import HandS.Style
import HandS.Strs
import HandS.IsInst
import HandS.Deep
import HandS.DeepEq
import HandS.SetKeys
import HandS.TupLen
import KE.SortData
import KE.SortKeyHeap
import PyProof.Rows.SetFrom
import HandS.Iter
import HandS.Nested
import HandS.SortKw
import HandS.HeadHook1
import HandS.HeadHook2
import HandS.HeadHook4
import HandS.EndTab
import HandS.HeadWalk
import HandS.NestedK
import HandS.Head0
import HandS.Head1
import HandS.Head2
import HandS.ExcInit
import HandS.ExcField
import HandS.TryMany
import HandS.Dict
import KE.GoesEnum
import PyProof.P3Eq
set_option Elab.async false
set_option linter.all false
set_option maxRecDepth 100000
set_option maxHeartbeats 4000000
/-! Values as data: what an object holds, told as a tree; slots that own their object, slots that share it. -/
namespace L2.Dl
open PySem PySem.Spec PyProof.Rows

/-- data -/
inductive D where
  | non
  | bl (b : Bool)
  | int (i : Int)
  | str (s : Str)
  | lst (l : List D)
  | tup (l : List D)
  | dct (l : List (Key × D))
  | dtt (l : List (List Key × D))
  | scr (l : List Int)
  | ins (c : Nat) (l : List (Str × D))

/-- a slot: empty, shared data, or an object of its own (t: the parameter that brought it) -/
inductive AV where
  | un
  | shr (d : D)
  | own (t : Option Nat) (d : D)
abbrev SS := List AV

/-- what the text brings: its classes by number, the tables of its code objects -/
structure Brings where
  at_ : Nat → Addr
  T : List (Addr × Str) := []
instance : CoeFun Brings (fun _ => Nat → Addr) := ⟨Brings.at_⟩
/-- the def's own: classes by number, the objects that came to be changed, the heap at the entry -/
structure Dx where
  K : PySem.W.Frag
  cl : Brings
  A : List Addr
  B : Hp

mutual
/-- v stands for d in the heap G -/
inductive Rep (z : Dx) (G : Hp) : V → D → Prop
  | non : Rep z G .non .non
  | bl (b : Bool) : Rep z G (.bl b) (.bl b)
  | int (i : Int) : Rep z G (.int i) (.int i)
  | str (s : Str) : Rep z G (.str s) (.str s)
  | lst {a xs l} : G a = some (.lst xs) → RepL z G xs l → Rep z G (.ref a) (.lst l)
  | tup {a xs l} : SqT z.K G a xs → RepL z G xs l → Rep z G (.ref a) (.tup l)
  | dct {a vs l} : G a = some (.dK vs) → vs.map (·.1) = l.map (·.1) → RepL z G (vs.map (·.2)) (l.map (·.2)) → Rep z G (.ref a) (.dct l)
  | dtt {a vs l} : G a = some (.dT vs) → vs.map (·.1) = l.map (·.1) → RepL z G (vs.map (·.2)) (l.map (·.2)) → Rep z G (.ref a) (.dtt l)
  | scr {a l} : SqL z.K G a (l.map V.int) → Rep z G (.ref a) (.scr l)
  | ins {a c dx vs l} : G a = some (.ins (z.cl c) dx vs) → vs.map (·.1) = l.map (·.1) → RepL z G (vs.map (·.2)) (l.map (·.2)) → Rep z G (.ref a) (.ins c l)
inductive RepL (z : Dx) (G : Hp) : List V → List D → Prop
  | nil : RepL z G [] []
  | cons {v d vs ds} : Rep z G v d → RepL z G vs ds → RepL z G (v :: vs) (d :: ds)
end

/-- a thing of data -/
def Pl : HO → Prop
  | .tbl _ => False
  | .ext _ => False
  | _ => True
theorem TabS_keep {H H' : Hp} {P : Addr} {q : Str} (t : LamX.TabS H P q) (e : ∀ b o, H b = some o → ¬ Pl o → H' b = some o) : LamX.TabS H' P q := by
  obtain ⟨ps, h1, h2, h3⟩ := t
  refine ⟨ps, e _ _ h1 (fun z => z), h2, fun pos cv hc => ?_⟩
  obtain ⟨c, e1, e2⟩ := h3 pos cv hc
  exact ⟨c, e1, e _ _ e2 (fun z => z)⟩
/-- no table -/
def NT : HO → Prop
  | .tbl _ => False
  | _ => True
/-- a code object's table, known by the name of what it tells -/
def Tb (u : HO) (H : Hp) (a : Addr) : Prop := ∃ q t, u = .tbl #[.str q t] ∧ LamX.TabS H a q
theorem Tb.keep {u : HO} {H H' : Hp} {P : Addr} (t : Tb u H P) (e : ∀ b o, H b = some o → ¬ Pl o → H' b = some o) : Tb u H' P := by
  obtain ⟨q, t, h1, h2⟩ := t
  exact ⟨q, t, h1, TabS_keep h2 e⟩
theorem Tb.some {u : HO} {H : Hp} {P : Addr} (t : Tb u H P) : ∃ ps, H P = some (.tbl ps) := by
  obtain ⟨q, t, _, ps, h, _⟩ := t
  exact ⟨ps, h⟩
def GLe (G G' : Hp) : Prop := ∀ a u, G a = some u → G' a = some u
def Dk : HO → Prop
  | .dK _ => True
  | .dT _ => True
  | _ => False
/-- what is shared stands in the heap (a dict may be locked) -/
def LeH (G H : Hp) : Prop := ∀ a u, G a = some u → (H a = some u ∧ NT u) ∨ (Dk u ∧ ∃ o, H a = some (.frz o u)) ∨ Tb u H a
theorem GLe.refl (G : Hp) : GLe G G := fun _ _ h => h
theorem GLe.trans {G1 G2 G3 : Hp} (a : GLe G1 G2) (b : GLe G2 G3) : GLe G1 G3 := fun x u h => b x u (a x u h)
theorem GLe.sqT {K : PySem.W.Frag} {G G' : Hp} {a : Addr} {xs : List V} (h : GLe G G') (r : SqT K G a xs) : SqT K G' a xs := by
  rcases r with (r | ⟨o, r⟩) | r
  · exact .inl (.inl (h _ _ r))
  · exact .inl (.inr ⟨o, h _ _ r⟩)
  · exact .inr r
theorem GLe.sqL {K : PySem.W.Frag} {G G' : Hp} {a : Addr} {xs : List V} (h : GLe G G') (r : SqL K G a xs) : SqL K G' a xs := by
  rcases r with (r | ⟨o, r⟩) | r
  · exact .inl (.inl (h _ _ r))
  · exact .inl (.inr ⟨o, h _ _ r⟩)
  · exact .inr r
theorem LeH.lst {G H : Hp} {a : Addr} {xs : List V} (h : LeH G H) (r : G a = some (.lst xs)) : H a = some (.lst xs) := by
  rcases h a _ r with e | ⟨k, _⟩ | ⟨_, _, k, _⟩
  · exact e.1
  · exact k.elim
  · cases k
theorem LeH.ins {G H : Hp} {a C dx : Addr} {fs : List (Str × V)} (h : LeH G H) (r : G a = some (.ins C dx fs)) : H a = some (.ins C dx fs) := by
  rcases h a _ r with e | ⟨k, _⟩ | ⟨_, _, k, _⟩
  · exact e.1
  · exact k.elim
  · cases k
theorem LeH.frz {G H : Hp} {a : Addr} {o : Obj} {u : HO} (h : LeH G H) (r : G a = some (.frz o u)) : H a = some (.frz o u) := by
  rcases h a _ r with e | ⟨k, _⟩ | ⟨_, _, k, _⟩
  · exact e.1
  · exact k.elim
  · cases k
theorem LeH.rd {G H : Hp} {a : Addr} {u : HO} (h : LeH G H) (r : G a = some u) (n : Pl u := by trivial) : Rd H a u := by
  rcases h a u r with e | ⟨k, o, e⟩ | ⟨_, _, rfl, _⟩
  · exact .inl e.1
  · exact .inr ⟨o, e⟩
  · exact n.elim
theorem LeH.sqT {K : PySem.W.Frag} {G H : Hp} {a : Addr} {xs : List V} (h : LeH G H) (r : SqT K G a xs) : SqT K H a xs := by
  rcases r with (r | ⟨o, r⟩) | r
  · exact .inl (h.rd r)
  · exact .inl (.inr ⟨o, h.frz r⟩)
  · exact .inr r
theorem LeH.sqL {K : PySem.W.Frag} {G H : Hp} {a : Addr} {xs : List V} (h : LeH G H) (r : SqL K G a xs) : SqL K H a xs := by
  rcases r with (r | ⟨o, r⟩) | r
  · exact .inl (h.rd r)
  · exact .inl (.inr ⟨o, h.frz r⟩)
  · exact .inr r
theorem LeH.some {G H : Hp} {a : Addr} {u : HO} (h : LeH G H) (r : G a = some u) : ∃ o, H a = some o := by
  rcases h a u r with e | ⟨_, o, e⟩ | k
  · exact ⟨_, e.1⟩
  · exact ⟨_, e⟩
  · obtain ⟨ps, e⟩ := k.some; exact ⟨_, e⟩
theorem LeH.none {G H : Hp} {a : Addr} (h : LeH G H) (r : H a = none) : G a = none := by
  cases e : G a with
  | none => rfl
  | some u =>
    obtain ⟨o, q⟩ := h.some e
    rw [r] at q; cases q

mutual
theorem Rep.mono {z : Dx} {G G' : Hp} (h : GLe G G') : ∀ {v : V} {d : D}, Rep z G v d → Rep z G' v d
  | _, _, .non => .non
  | _, _, .bl b => .bl b
  | _, _, .int i => .int i
  | _, _, .str s => .str s
  | _, _, .lst e r => .lst (h _ _ e) (RepL.mono h r)
  | _, _, .tup e r => .tup (h.sqT e) (RepL.mono h r)
  | _, _, .dct e k r => .dct (h _ _ e) k (RepL.mono h r)
  | _, _, .dtt e k r => .dtt (h _ _ e) k (RepL.mono h r)
  | _, _, .scr e => .scr (h.sqL e)
  | _, _, .ins e k r => .ins (h _ _ e) k (RepL.mono h r)
theorem RepL.mono {z : Dx} {G G' : Hp} (h : GLe G G') : ∀ {vs : List V} {ds : List D}, RepL z G vs ds → RepL z G' vs ds
  | _, _, .nil => .nil
  | _, _, .cons r t => .cons (Rep.mono h r) (RepL.mono h t)
end
section
variable {z : Dx} {G : Hp}
theorem RepL.length {vs : List V} {ds : List D} (r : RepL z G vs ds) : vs.length = ds.length := by
  induction ds generalizing vs with
  | nil => cases r; rfl
  | cons d ds ih =>
    cases r with
    | cons a b => simp [ih b]
theorem RepL.get {vs : List V} {ds : List D} (r : RepL z G vs ds) {i : Nat} {d : D} (e : ds[i]? = some d) : ∃ v, vs[i]? = some v ∧ Rep z G v d := by
  induction ds generalizing vs i with
  | nil => simp at e
  | cons d0 ds ih =>
    cases r with
    | cons a b =>
      cases i with
      | zero => simp at e; subst e; exact ⟨_, rfl, a⟩
      | succ i => simpa using ih b (by simpa using e)
theorem RepL.got {vs : List V} {ds : List D} (r : RepL z G vs ds) {i : Nat} {v : V} (e : vs[i]? = some v) : ∃ d, ds[i]? = some d ∧ Rep z G v d := by
  induction ds generalizing vs i with
  | nil => cases r; simp at e
  | cons d0 ds ih =>
    cases r with
    | cons a b =>
      cases i with
      | zero => simp at e; subst e; exact ⟨_, rfl, a⟩
      | succ i => simpa using ih b (by simpa using e)
theorem RepL.append {vs ws : List V} {ds es : List D} (r : RepL z G vs ds) (q : RepL z G ws es) : RepL z G (vs ++ ws) (ds ++ es) := by
  induction ds generalizing vs with
  | nil => cases r; exact q
  | cons d ds ih =>
    cases r with
    | cons a b => exact .cons a (ih b)
theorem RepL.set {vs : List V} {ds : List D} (r : RepL z G vs ds) (i : Nat) {v : V} {d : D} (q : Rep z G v d) : RepL z G (vs.set i v) (ds.set i d) := by
  induction ds generalizing vs i with
  | nil => cases r; exact .nil
  | cons d0 ds ih =>
    cases r with
    | cons a b =>
      cases i with
      | zero => exact .cons q b
      | succ i => exact .cons a (ih b i)
theorem RepL.of_get {vs : List V} {ds : List D} (hl : vs.length = ds.length) (h : ∀ (i : Nat) v d, vs[i]? = some v → ds[i]? = some d → Rep z G v d) : RepL z G vs ds := by
  induction ds generalizing vs with
  | nil =>
    cases vs with
    | nil => exact .nil
    | cons => simp at hl
  | cons d ds ih =>
    cases vs with
    | nil => simp at hl
    | cons v vs =>
      exact .cons (h 0 v d rfl rfl) (ih (by simpa using hl) fun i x y e1 e2 => h (i + 1) x y (by simpa using e1) (by simpa using e2))
end

/-- the object at a is known by its data, one level in H, the rest shared -/
def OwnAt (z : Dx) (G H : Hp) (a : Addr) : D → Prop
  | .lst l => ∃ xs, H a = some (.lst xs) ∧ RepL z G xs l
  | .dct l => ∃ vs, H a = some (.dK vs) ∧ vs.map (·.1) = l.map (·.1) ∧ RepL z G (vs.map (·.2)) (l.map (·.2))
  | .dtt l => ∃ vs, H a = some (.dT vs) ∧ vs.map (·.1) = l.map (·.1) ∧ RepL z G (vs.map (·.2)) (l.map (·.2))
  | .ins c l => ∃ dx vs, H a = some (.ins (z.cl c) dx vs) ∧ vs.map (·.1) = l.map (·.1) ∧ RepL z G (vs.map (·.2)) (l.map (·.2))
  | _ => False
/-- read: shared, or an own object -/
def View (z : Dx) (G H : Hp) (v : V) (d : D) : Prop := Rep z G v d ∨ ∃ a, v = .ref a ∧ OwnAt z G H a d
section
variable {z : Dx} {G G' H H' : Hp} {a : Addr} {d : D} {v : V}
theorem OwnAt.mono (h : OwnAt z G H a d) (hg : GLe G G') (hh : ∀ o, H a = some o → H' a = some o) : OwnAt z G' H' a d := by
  cases d with
  | lst l => obtain ⟨xs, e, r⟩ := h; exact ⟨xs, hh _ e, r.mono hg⟩
  | dct l => obtain ⟨vs, e, k, r⟩ := h; exact ⟨vs, hh _ e, k, r.mono hg⟩
  | dtt l => obtain ⟨vs, e, k, r⟩ := h; exact ⟨vs, hh _ e, k, r.mono hg⟩
  | ins c l => obtain ⟨dx, vs, e, k, r⟩ := h; exact ⟨dx, vs, hh _ e, k, r.mono hg⟩
  | _ => exact h.elim
theorem OwnAt.there (h : OwnAt z G H a d) : ∃ o, H a = some o := by
  cases d with
  | lst l => obtain ⟨xs, e, r⟩ := h; exact ⟨_, e⟩
  | dct l => obtain ⟨vs, e, k, r⟩ := h; exact ⟨_, e⟩
  | dtt l => obtain ⟨vs, e, k, r⟩ := h; exact ⟨_, e⟩
  | ins c l => obtain ⟨dx, vs, e, k, r⟩ := h; exact ⟨_, e⟩
  | _ => exact h.elim
theorem OwnAt.nt {o : HO} (h : OwnAt z G H a d) (e : H a = some o) : NT o := by
  cases d with
  | lst l => obtain ⟨xs, e', r⟩ := h; rw [e] at e'; cases e'; trivial
  | dct l => obtain ⟨vs, e', k, r⟩ := h; rw [e] at e'; cases e'; trivial
  | dtt l => obtain ⟨vs, e', k, r⟩ := h; rw [e] at e'; cases e'; trivial
  | ins c l => obtain ⟨dx, vs, e', k, r⟩ := h; rw [e] at e'; cases e'; trivial
  | _ => exact h.elim
/-- shared from now on -/
theorem OwnAt.rep {o : HO} (h : OwnAt z G H a d) (e : H a = some o) (hg : GLe G G') (ha : G' a = some o) : Rep z G' (.ref a) d := by
  cases d with
  | lst l => obtain ⟨xs, e', r⟩ := h; rw [e] at e'; cases e'; exact .lst ha (r.mono hg)
  | dct l => obtain ⟨vs, e', k, r⟩ := h; rw [e] at e'; cases e'; exact .dct ha k (r.mono hg)
  | dtt l => obtain ⟨vs, e', k, r⟩ := h; rw [e] at e'; cases e'; exact .dtt ha k (r.mono hg)
  | ins c l => obtain ⟨dx, vs, e', k, r⟩ := h; rw [e] at e'; cases e'; exact .ins ha k (r.mono hg)
  | _ => exact h.elim
theorem View.int {i : Int} (h : View z G H v (.int i)) : v = .int i := by
  rcases h with r | ⟨a, _, r⟩
  · cases r; rfl
  · exact r.elim
theorem View.str {s : Str} (h : View z G H v (.str s)) : v = .str s := by
  rcases h with r | ⟨a, _, r⟩
  · cases r; rfl
  · exact r.elim
theorem View.bl {b : Bool} (h : View z G H v (.bl b)) : v = .bl b := by
  rcases h with r | ⟨a, _, r⟩
  · cases r; rfl
  · exact r.elim
theorem View.non (h : View z G H v .non) : v = .non := by
  rcases h with r | ⟨a, _, r⟩
  · cases r; rfl
  · exact r.elim
theorem View.lst {l : List D} (le : LeH G H) (h : View z G H v (.lst l)) : ∃ a xs, v = .ref a ∧ H a = some (.lst xs) ∧ RepL z G xs l := by
  rcases h with r | ⟨a, e, xs, q, r⟩
  · cases r with
    | lst e r => exact ⟨_, _, rfl, le.lst e, r⟩
  · exact ⟨a, xs, e, q, r⟩
theorem View.tup {l : List D} (le : LeH G H) (h : View z G H v (.tup l)) : ∃ a xs, v = .ref a ∧ SqT z.K H a xs ∧ RepL z G xs l := by
  rcases h with r | ⟨a, _, r⟩
  · cases r with
    | tup e r => exact ⟨_, _, rfl, le.sqT e, r⟩
  · exact r.elim
theorem View.scr {l : List Int} (le : LeH G H) (h : View z G H v (.scr l)) : ∃ a, v = .ref a ∧ SqL z.K H a (l.map V.int) := by
  rcases h with r | ⟨a, _, r⟩
  · cases r with
    | scr e => exact ⟨_, rfl, le.sqL e⟩
  · exact r.elim
theorem View.dct {l : List (Key × D)} (le : LeH G H) (h : View z G H v (.dct l)) : ∃ a vs, v = .ref a ∧ Rd H a (.dK vs) ∧ vs.map (·.1) = l.map (·.1) ∧ RepL z G (vs.map (·.2)) (l.map (·.2)) := by
  rcases h with r | ⟨a, e, vs, q, k, r⟩
  · cases r with
    | dct e k r => exact ⟨_, _, rfl, le.rd e, k, r⟩
  · exact ⟨a, vs, e, .inl q, k, r⟩
theorem View.dtt {l : List (List Key × D)} (le : LeH G H) (h : View z G H v (.dtt l)) : ∃ a vs, v = .ref a ∧ Rd H a (.dT vs) ∧ vs.map (·.1) = l.map (·.1) ∧ RepL z G (vs.map (·.2)) (l.map (·.2)) := by
  rcases h with r | ⟨a, e, vs, q, k, r⟩
  · cases r with
    | dtt e k r => exact ⟨_, _, rfl, le.rd e, k, r⟩
  · exact ⟨a, vs, e, .inl q, k, r⟩
theorem View.ins {c : Nat} {l : List (Str × D)} (le : LeH G H) (h : View z G H v (.ins c l)) : ∃ a dx vs, v = .ref a ∧ H a = some (.ins (z.cl c) dx vs) ∧ vs.map (·.1) = l.map (·.1) ∧ RepL z G (vs.map (·.2)) (l.map (·.2)) := by
  rcases h with r | ⟨a, e, dx, vs, q, k, r⟩
  · cases r with
    | ins e k r => exact ⟨_, _, _, rfl, le.ins e, k, r⟩
  · exact ⟨a, dx, vs, e, q, k, r⟩
end

/-- the tables are known -/
def Tabd (T : List (Addr × Str)) (G : Hp) : Prop := ∀ p ∈ T, ∃ t, G p.1 = some (.tbl #[.str p.2 t])
theorem Tabd.ge {T : List (Addr × Str)} {G G' : Hp} (h : Tabd T G) (g : GLe G G') : Tabd T G' := fun p hp => let ⟨t, e⟩ := h p hp; ⟨t, g _ _ e⟩
/-- the slots as told -/
structure SI (z : Dx) (S : SS) (σ : St) (H G : Hp) : Prop where
  len : S.length = σ.length
  le : LeH G H
  shr : ∀ (i : Nat) d, S[i]? = some (.shr d) → ∃ v, σ[i]? = some (some v) ∧ Rep z G v d
  own : ∀ (i : Nat) t d, S[i]? = some (.own t d) → ∃ a, σ[i]? = some (some (.ref a)) ∧ G a = none ∧ OwnAt z G H a d ∧ (∀ j, t = some j → z.A[j]? = some a) ∧ (t = none → z.B a = none)
  sep : ∀ (i j : Nat) ti di tj dj a, S[i]? = some (.own ti di) → S[j]? = some (.own tj dj) → σ[i]? = some (some (.ref a)) → σ[j]? = some (some (.ref a)) → i = j
  dom : ∀ a, H a = none → z.B a = none
  tab : Tabd z.cl.T G
def Owns (S : SS) (σ : St) (a : Addr) : Prop := ∃ (i : Nat) (t : Option Nat) (d : D), S[i]? = some (.own t d) ∧ σ[i]? = some (some (.ref a))
/-- kept; a shared dict may have been locked -/
def Lk (G : Hp) (a : Addr) (o : HO) (H' : Hp) : Prop := H' a = some o ∨ (G a = some o ∧ Dk o ∧ ∃ ob, H' a = some (.frz ob o)) ∨ ((∃ u, G a = some u) ∧ ∃ ps ps', o = .tbl ps ∧ H' a = some (.tbl ps'))
/-- what may be locked, or grow -/
def Wk : HO → Prop
  | .dK _ => True
  | .dT _ => True
  | .tbl _ => True
  | _ => False
theorem Wk.of {o : HO} (h : Dk o) : Wk o := by cases o <;> first | trivial | exact h.elim
theorem Lk.eq {G H' : Hp} {a : Addr} {o : HO} (h : Lk G a o H') (n : ¬ Wk o) : H' a = some o := by
  rcases h with h | ⟨_, k, _⟩ | ⟨_, ps, _, rfl, _⟩
  · exact h
  · exact absurd (Wk.of k) n
  · exact absurd trivial n
theorem Lk.own {G H' : Hp} {a : Addr} {o : HO} (h : Lk G a o H') (n : G a = none) : H' a = some o := by
  rcases h with h | ⟨q, _⟩ | ⟨⟨u, q⟩, _⟩
  · exact h
  · rw [n] at q; cases q
  · rw [n] at q; cases q
theorem Lk.ge {G G' H' : Hp} {a : Addr} {o : HO} (h : Lk G a o H') (g : GLe G G') : Lk G' a o H' := by
  rcases h with h | ⟨q, k⟩ | ⟨⟨u, q⟩, k⟩
  · exact .inl h
  · exact .inr (.inl ⟨g _ _ q, k⟩)
  · exact .inr (.inr ⟨⟨u, g _ _ q⟩, k⟩)
/-- what has changed: own objects; all that is new in G is new, or was owned -/
structure Go (S S' : SS) (σ σ' : St) (H H' G G' : Hp) : Prop where
  ge : GLe G G'
  fr : ∀ a o, H a = some o → ¬ Owns S σ a → Lk G' a o H'
  ow : ∀ a, Owns S' σ' a → Owns S σ a ∨ H a = none
  nw : ∀ a u, G' a = some u → G a = some u ∨ H a = none ∨ Owns S σ a
  th : ∀ a, H' a = none → H a = none
theorem Go.refl {S : SS} {σ : St} {H G : Hp} : Go S S σ σ H H G G := ⟨.refl _, fun _ _ h _ => .inl h, fun _ h => .inl h, fun _ _ h => .inl h, fun _ h => h⟩
theorem Go.trans {S S1 S2 : SS} {σ σ1 σ2 : St} {H H1 H2 G G1 G2 : Hp} (x : Go S S1 σ σ1 H H1 G G1) (y : Go S1 S2 σ1 σ2 H1 H2 G1 G2) : Go S S2 σ σ2 H H2 G G2 where
  ge := x.ge.trans y.ge
  fr := fun a o h n => by
    have n1 : ¬ Owns S1 σ1 a := fun q => (x.ow a q).elim n fun e => by rw [e] at h; cases h
    rcases x.fr a o h n with q | ⟨g, k, ob, q⟩ | ⟨⟨u, g⟩, ps, ps', e, q⟩
    · exact y.fr a o q n1
    · exact .inr (.inl ⟨y.ge _ _ g, k, ob, (y.fr a _ q n1).eq fun z => z⟩)
    · subst e
      rcases y.fr a _ q n1 with q | ⟨_, k, _⟩ | ⟨g', ps1, ps2, e, q⟩
      · exact .inr (.inr ⟨⟨u, y.ge _ _ g⟩, ps, ps', rfl, q⟩)
      · exact k.elim
      · exact .inr (.inr ⟨g', ps, ps2, rfl, q⟩)
  ow := fun a q => (y.ow a q).elim (x.ow a) fun e => .inr (x.th a e)
  nw := fun a u q => by
    rcases y.nw a u q with e | e | e
    · exact x.nw a u e
    · exact .inr (.inl (x.th a e))
    · rcases x.ow a e with e | e
      · exact .inr (.inr e)
      · exact .inr (.inl e)
  th := fun a e => x.th a (y.th a e)

/-- a change by new objects alone -/
structure Ext (H H' G G' : Hp) : Prop where
  ge : GLe G G'
  le : LeH G' H'
  hh : ∀ a o, H a = some o → H' a = some o
  nw : ∀ a u, G' a = some u → G a = some u ∨ H a = none
theorem Ext.refl {H G : Hp} (h : LeH G H) : Ext H H G G := ⟨.refl _, h, fun _ _ h => h, fun _ _ h => .inl h⟩
theorem Ext.trans {H H1 H2 G G1 G2 : Hp} (x : Ext H H1 G G1) (y : Ext H1 H2 G1 G2) : Ext H H2 G G2 :=
  ⟨x.ge.trans y.ge, y.le, fun a o h => y.hh a o (x.hh a o h), fun a u h => (y.nw a u h).elim (x.nw a u) fun e => .inr (by
    cases q : H a with
    | none => rfl
    | some o => rw [x.hh a o q] at e; cases e)⟩
/-- a new object, not shared -/
theorem Ext.own {H G : Hp} {p : Addr} {o : HO} (le : LeH G H) (hp : H p = none) : Ext H (upd H p o) G G :=
  ⟨.refl _, fun a u h => by
    have ne : a ≠ p := fun e => by subst e; rw [le.none hp] at h; cases h
    exact (le a u h).imp (fun q => ⟨by rw [upd_ne ne]; exact q.1, q.2⟩) (Or.imp (fun q => by rw [upd_ne ne]; exact q) fun q => q.keep fun b o e _ => by rw [upd_ne (ne_of_none e hp)]; exact e), fun a u h => by rw [upd_ne (ne_of_none h hp)]; exact h, fun _ _ h => .inl h⟩
/-- a new object, shared -/
theorem Ext.new {H G : Hp} {p : Addr} {o : HO} (le : LeH G H) (hp : H p = none) (nt : NT o := by trivial) : Ext H (upd H p o) G (upd G p o) :=
  ⟨fun a u h => by rw [upd_ne (ne_of_none h (le.none hp))]; exact h, fun a u h => by
    by_cases e : a = p
    · subst e; rw [upd_same] at h; cases h; exact .inl ⟨upd_same, nt⟩
    · rw [upd_ne e] at h; exact (le a u h).imp (fun q => ⟨by rw [upd_ne e]; exact q.1, q.2⟩) (Or.imp (fun q => by rw [upd_ne e]; exact q) fun q => q.keep fun b o e _ => by rw [upd_ne (ne_of_none e hp)]; exact e), fun a u h => by rw [upd_ne (ne_of_none h hp)]; exact h, fun a u h => by
    by_cases e : a = p
    · subst e; exact .inr hp
    · rw [upd_ne e] at h; exact .inl h⟩
section
variable {z : Dx} {S : SS} {σ : St} {H H' G G' : Hp}
theorem SI.ownFree (si : SI z S σ H G) {a : Addr} (h : Owns S σ a) : G a = none ∧ ∃ o, H a = some o := by
  obtain ⟨i, t, d, e1, e2⟩ := h
  obtain ⟨b, e3, g, o, _⟩ := si.own i t d e1
  rw [e2] at e3
  cases e3
  exact ⟨g, o.there⟩
theorem SI.ext (si : SI z S σ H G) (x : Ext H H' G G') : SI z S σ H' G' where
  len := si.len
  le := x.le
  shr := fun i d e => let ⟨v, q, r⟩ := si.shr i d e; ⟨v, q, r.mono x.ge⟩
  own := fun i t d e => by
    obtain ⟨a, q, g, o, t1, t2⟩ := si.own i t d e
    obtain ⟨ob, ho⟩ := o.there
    refine ⟨a, q, ?_, o.mono x.ge (x.hh a), t1, t2⟩
    cases e' : G' a with
    | none => rfl
    | some u =>
      rcases x.nw a u e' with z1 | z1
      · rw [g] at z1; cases z1
      · rw [ho] at z1; cases z1
  sep := si.sep
  dom := fun a e => si.dom a (by
    cases q : H a with
    | none => rfl
    | some o => rw [x.hh a o q] at e; cases e)
  tab := si.tab.ge x.ge
theorem Ext.go (x : Ext H H' G G') : Go S S σ σ H H' G G' :=
  ⟨x.ge, fun a o h _ => .inl (x.hh a o h), fun _ h => .inl h, fun a u h => (x.nw a u h).elim .inl fun e => .inr (.inl e), fun a e => by
    cases q : H a with
    | none => rfl
    | some o => rw [x.hh a o q] at e; cases e⟩
/-- an object that nobody owns is shared from now on -/
theorem SI.add {p : Addr} {o : HO} (si : SI z S σ H G) (hp : H p = some o) (gp : G p = none) (no : ¬ Owns S σ p) (nt : NT o) : SI z S σ H (upd G p o) where
  len := si.len
  le := fun a u h => by
    by_cases e : a = p
    · subst e; rw [upd_same] at h; cases h; exact .inl ⟨hp, nt⟩
    · rw [upd_ne e] at h; exact si.le a u h
  shr := fun i d e => let ⟨v, q, r⟩ := si.shr i d e; ⟨v, q, r.mono fun a u h => by rw [upd_ne (ne_of_none h gp)]; exact h⟩
  own := fun i t d e => by
    obtain ⟨a, q, g, ow, t1, t2⟩ := si.own i t d e
    have ne : a ≠ p := fun e' => no ⟨i, t, d, e, by rw [← e']; exact q⟩
    exact ⟨a, q, by rw [upd_ne ne]; exact g, ow.mono (fun b u h => by rw [upd_ne (ne_of_none h gp)]; exact h) fun _ h => h, t1, t2⟩
  sep := si.sep
  dom := si.dom
  tab := si.tab.ge fun a u h => by rw [upd_ne (ne_of_none h gp)]; exact h
end

/-! ### results -/
inductive R where
  /-- shared data -/
  | v (d : D)
  /-- a new object that nobody knows -/
  | f (d : D)
  /-- what slot i holds -/
  | at (i : Nat)
inductive Res (α : Type) where
  | ok (a : α) (s : SS)
  | ex (c : Nat) (w : D) (s : SS)
  | no
abbrev M (α : Type) := SS → Res α
def Res.bind {α β : Type} (r : Res α) (k : α → SS → Res β) : Res β := match r with
  | .ok a s => k a s
  | .ex c w s => .ex c w s
  | .no => .no
theorem bind_ok {α β : Type} (a : α) (s : SS) (k : α → SS → Res β) : (Res.ok a s).bind k = k a s := rfl
theorem bind_ex {α β : Type} (c : Nat) (w : D) (s : SS) (k : α → SS → Res β) : (Res.ex c w s).bind k = .ex c w s := rfl
theorem bind_no {α β : Type} (k : α → SS → Res β) : (Res.no : Res α).bind k = .no := rfl

def AV.data : AV → Option D
  | .un => none
  | .shr d => some d
  | .own _ d => some d
def slotD (S : SS) (i : Nat) : Option D := match S[i]? with
  | some x => x.data
  | none => none
def look (S : SS) : R → Option D
  | .v d => some d
  | .f d => some d
  | .at i => slotD S i

/-- a result, as it comes (H0: the heap ahead) -/
def Den (z : Dx) (S' : SS) (σ : St) (H0 H' G' : Hp) (v : V) : R → Prop
  | .v d => Rep z G' v d
  | .f d => ∃ p, v = .ref p ∧ H0 p = none ∧ G' p = none ∧ ¬ Owns S' σ p ∧ OwnAt z G' H' p d
  | .at i => σ[i]? = some (some v)
/-- .. once it is shared -/
def DenS (z : Dx) (σ : St) (G : Hp) (v : V) : R → Prop
  | .v d => Rep z G v d
  | .f d => Rep z G v d
  | .at i => σ[i]? = some (some v)
theorem DenS.mono {z : Dx} {σ : St} {G G' : Hp} {v : V} {r : R} (h : DenS z σ G v r) (g : GLe G G') : DenS z σ G' v r := by
  cases r with
  | v d => exact Rep.mono g h
  | f d => exact Rep.mono g h
  | «at» i => exact h
theorem DenS.view {z : Dx} {S : SS} {σ : St} {H G : Hp} {v : V} {r : R} {d : D} (h : DenS z σ G v r) (si : SI z S σ H G) (e : look S r = some d) : View z G H v d := by
  cases r with
  | v d' => cases e; exact .inl h
  | f d' => cases e; exact .inl h
  | «at» i =>
    have h : σ[i]? = some (some v) := h
    have e : slotD S i = some d := e
    unfold slotD at e
    cases q : S[i]? with
    | none => rw [q] at e; cases e
    | some x =>
      rw [q] at e
      cases x with
      | un => cases e
      | shr d' =>
        cases e
        obtain ⟨v', e1, r⟩ := si.shr i _ q
        rw [h] at e1; cases e1
        exact .inl r
      | own t d' =>
        cases e
        obtain ⟨a, e1, _, o, _⟩ := si.own i t _ q
        rw [h] at e1; cases e1
        exact .inr ⟨a, rfl, o⟩

abbrev Wx := Nat → Option Addr → St → Hp → Prop
def WOk (z : Dx) (W : WX) (G' : Hp) (σ : St) (H' : Hp) (c : Nat) (w : D) : Prop :=
  ∀ d v, H' d = some (.xd [(("what" : Str), v)]) → Rep z G' v w → W (.ref (z.cl c)) (some d) σ H'
def Post (z : Dx) (W : WX) (S : SS) (G H : Hp) (σ : St) (Q : VK) : Res R → Prop
  | .ok r S' => ∀ v H' G', SI z S' σ H' G' → Go S S' σ σ H H' G G' → Den z S' σ H H' G' v r → Q v H'
  | .ex c w S' => ∀ H' G', SI z S' σ H' G' → Go S S' σ σ H H' G G' → WOk z W G' σ H' c w
  | .no => False
def tD (z : Dx) (W : WX) (f : M R) : TE := fun σ H Q => ∃ S G, SI z S σ H G ∧ Post z W S G H σ Q (f S)
/-- an expression computes f -/
structure E (X : Cx) (z : Dx) (W : WX) (e : Expr) (f : M R) : Prop where
  pe : PE X e (tD z W f)
  k : z.K = X.K
theorem PE.le {X : Cx} {e : Expr} {t t' : TE} (h : PE X e t) (w : ∀ σ H Q, t' σ H Q → t σ H Q) : PE X e t' := ⟨fun pins s σ H Q I q => h.run pins s σ H Q I (w σ H Q q)⟩
theorem PT.le {X : Cx} {e : Expr} {t t' : TT} (h : PT X e t) (w : ∀ σ H Q, t' σ H Q → t σ H Q) : PT X e t' := ⟨fun pins s σ H Q I q => h.run pins s σ H Q I (w σ H Q q)⟩
theorem PS.le {X : Cx} {e : Stmt} {t t' : TS} (h : PS X e t) (w : ∀ D σ H, t' D σ H → t D σ H) : PS X e t' := ⟨fun pins s σ H D I q => h.run pins s σ H D I (w D σ H q)⟩
theorem PSs.le {X : Cx} {e : List Stmt} {t t' : TS} (h : PSs X e t) (w : ∀ D σ H, t' D σ H → t D σ H) : PSs X e t' := ⟨fun pins s σ H D I q => h.run pins s σ H D I (w D σ H q)⟩
theorem PA.le {X : Cx} {e : List Expr} {t t' : TA} (h : PA X e t) (w : ∀ σ H Q, t' σ H Q → t σ H Q) : PA X e t' := ⟨fun pos pins s σ H Q I q => h.run pos pins s σ H Q I (w σ H Q q)⟩

section
variable {z : Dx} {W : WX} {S S1 : SS} {G G1 H H1 : Hp} {σ : St} {Q : VK}
theorem Post.from {r : Res R} (h : Post z W S G H σ Q r) (g : Go S S1 σ σ H H1 G G1) : Post z W S1 G1 H1 σ Q r := by
  cases r with
  | ok r S' => 
    intro v H' G' si g' dn
    refine h v H' G' si (g.trans g') ?_
    cases r with
    | v d => exact dn
    | f d =>
      obtain ⟨p, e, h1, h2, h3, h4⟩ := dn
      exact ⟨p, e, g.th p h1, h2, h3, h4⟩
    | «at» i => exact dn
  | ex c w S' => exact fun H' G' si g' => h H' G' si (g.trans g')
  | no => exact h
/-- THE STEP: the first part is read, its result shared; then the rest -/
theorem step {fa : M R} {k : R → SS → Res R} (si : SI z S σ H G) (h : Post z W S G H σ Q ((fa S).bind k)) :
    tD z W fa σ H fun x H1 => ∃ ra S1 G1, SI z S1 σ H1 G1 ∧ Go S S1 σ σ H H1 G G1 ∧ DenS z σ G1 x ra ∧ Post z W S1 G1 H1 σ Q (k ra S1) := by
  refine ⟨S, G, si, ?_⟩
  cases e : fa S with
  | ok ra S1 =>
    rw [e] at h
    intro v H1 G1 si1 g1 dn
    cases ra with
    | v d => exact ⟨.v d, S1, G1, si1, g1, dn, Post.from h g1⟩
    | f d =>
      obtain ⟨p, rfl, h1, h2, h3, h4⟩ := dn
      obtain ⟨o, ho⟩ := h4.there
      have gl : GLe G1 (upd G1 p o) := fun a u q => by rw [upd_ne (ne_of_none q h2)]; exact q
      have g2 : Go S S1 σ σ H H1 G (upd G1 p o) := ⟨g1.ge.trans gl, fun a o' q n => (g1.fr a o' q n).ge gl, g1.ow, fun a u q => by
        by_cases e : a = p
        · subst e; exact .inr (.inl h1)
        · rw [upd_ne e] at q; exact g1.nw a u q, g1.th⟩
      exact ⟨.f d, S1, _, si1.add ho h2 h3 (h4.nt ho), g2, h4.rep ho gl upd_same, Post.from h g2⟩
    | «at» i => exact ⟨.at i, S1, G1, si1, g1, dn, Post.from h g1⟩
  | ex c w S1 =>
    rw [e] at h
    exact h
  | no =>
    rw [e] at h
    exact h
end
end L2.Dl
/-! Expressions: names, constants, operators, tests, lists of arguments. -/
namespace L2.Dl
open PySem PySem.Spec PyProof.Rows

section
variable {z : Dx} {W : WX} {S S1 : SS} {G G1 H H1 : Hp} {σ : L2.St} {Q Q' : VK}
theorem Post.mono {r : Res R} (h : Post z W S G H σ Q r) (q : ∀ v H, Q v H → Q' v H) : Post z W S G H σ Q' r := by
  cases r with
  | ok r S' => exact fun v H' G' si g dn => q _ _ (h v H' G' si g dn)
  | ex c w S' => exact h
  | no => exact h
theorem tD.mono {f : M R} (h : tD z W f σ H Q) (q : ∀ v H, Q v H → Q' v H) : tD z W f σ H Q' := by
  obtain ⟨S, G, si, p⟩ := h
  exact ⟨S, G, si, p.mono q⟩

/-! ### values -/
def DenV (z : Dx) (H0 H' G' : Hp) (v : V) : R → Prop
  | .v d => Rep z G' v d
  | .f d => ∃ p, v = .ref p ∧ H0 p = none ∧ G' p = none ∧ OwnAt z G' H' p d
  | .at _ => False
/-- what a rule by values has to reach -/
def VP (z : Dx) (H G : Hp) (Q : VK) (r : R) : Prop := ∀ v H' G', Ext H H' G G' → DenV z H H' G' v r → Q v H'
theorem VP.fin {r : R} (si : SI z S σ H G) (h : Post z W S G H σ Q (.ok r S)) : VP z H G Q r := fun v H' G' x dn => by
  refine h v H' G' (si.ext x) x.go ?_
  cases r with
  | v d => exact dn
  | f d =>
    obtain ⟨p, e, h1, h2, h3⟩ := dn
    refine ⟨p, e, h1, h2, fun o => ?_, h3⟩
    obtain ⟨_, u, hu⟩ := si.ownFree o
    rw [h1] at hu; cases hu
  | «at» i => exact dn.elim
/-- a plain value -/
theorem VP.rep {v : V} {d : D} (h : VP z H G Q (.v d)) (le : LeH G H) (r : Rep z G v d) : Q v H := h v H G (.refl le) r
theorem VP.new {p : Addr} {o : HO} {d : D} (h : VP z H G Q (.f d)) (le : LeH G H) (hp : H p = none) (r : OwnAt z G (upd H p o) p d) : Q (.ref p) (upd H p o) :=
  h _ _ G (.own le hp) ⟨p, rfl, hp, le.none hp, r⟩
theorem VP.newV {p : Addr} {o : HO} {d : D} (h : VP z H G Q (.v d)) (le : LeH G H) (hp : H p = none) (r : Rep z (upd G p o) (.ref p) d) (nt : NT o := by trivial) : Q (.ref p) (upd H p o) :=
  h _ _ _ (.new le hp nt) r
theorem upd_le {p : Addr} {o : HO} (h : G p = none) : GLe G (upd G p o) := fun a u q => by rw [upd_ne (ne_of_none q h)]; exact q

def rD2 (z : Dx) (g : D → D → Option R) : R2 := fun x y H Q => ∃ G da db r, LeH G H ∧ View z G H x da ∧ View z G H y db ∧ g da db = some r ∧ VP z H G Q r
def rD1 (z : Dx) (g : D → Option R) : V → Hp → VK → Prop := fun x H Q => ∃ G da r, LeH G H ∧ View z G H x da ∧ g da = some r ∧ VP z H G Q r
abbrev ViewL (z : Dx) (G H : Hp) : List V → List D → Prop := Paired fun v d => View z G H v d
def rDL (z : Dx) (g : List D → Option R) : List V → Hp → VK → Prop := fun xs H Q => ∃ G ds r, LeH G H ∧ ViewL z G H xs ds ∧ g ds = some r ∧ VP z H G Q r
def rDM (z : Dx) (g : D → List D → Option R) : V → List V → Hp → VK → Prop := fun x xs H Q => ∃ G d ds r, LeH G H ∧ View z G H x d ∧ ViewL z G H xs ds ∧ g d ds = some r ∧ VP z H G Q r

def lift (r : Option R) (S : SS) : Res R := match r with
  | some r => .ok r S
  | none => .no
def sOp (g : D → D → Option R) (fa fb : M R) : M R := fun S => (fa S).bind fun ra S1 => (fb S1).bind fun rb S2 => lift (do let da ← look S2 ra; let db ← look S2 rb; g da db) S2
theorem sOp_run {g : D → D → Option R} {fa fb : M R} (si : SI z S σ H G) (h : Post z W S G H σ Q (sOp g fa fb S)) :
    tD z W fa σ H fun x H1 => tD z W fb σ H1 fun y H2 => rD2 z g x y H2 Q := by
  refine (step si h).mono fun x H1 ⟨ra, S1, G1, si1, _, da, h1⟩ => ?_
  refine (step si1 h1).mono fun y H2 ⟨rb, S2, G2, si2, g2, db, h2⟩ => ?_
  have da2 := da.mono g2.ge
  cases ea : look S2 ra with
  | none => rw [ea] at h2; exact h2.elim
  | some d1 =>
    cases eb : look S2 rb with
    | none => rw [ea, eb] at h2; exact h2.elim
    | some d2 =>
      rw [ea, eb] at h2
      have h2 : Post z W S2 G2 H2 σ Q (lift (g d1 d2) S2) := h2
      cases e : g d1 d2 with
      | none => rw [e] at h2; exact h2.elim
      | some r =>
        rw [e] at h2
        exact ⟨G2, d1, d2, r, si2.le, da2.view si2 ea, db.view si2 eb, e, VP.fin si2 h2⟩
def sUn (g : D → Option R) (fa : M R) : M R := fun S => (fa S).bind fun ra S1 => lift (do let da ← look S1 ra; g da) S1
theorem sUn_run {g : D → Option R} {fa : M R} (si : SI z S σ H G) (h : Post z W S G H σ Q (sUn g fa S)) : tD z W fa σ H fun x H1 => rD1 z g x H1 Q := by
  refine (step si h).mono fun x H1 ⟨ra, S1, G1, si1, _, da, h1⟩ => ?_
  cases ea : look S1 ra with
  | none => rw [ea] at h1; exact h1.elim
  | some d1 =>
    rw [ea] at h1
    have h1 : Post z W S1 G1 H1 σ Q (lift (g d1) S1) := h1
    cases e : g d1 with
    | none => rw [e] at h1; exact h1.elim
    | some r =>
      rw [e] at h1
      exact ⟨G1, d1, r, si1.le, da.view si1 ea, e, VP.fin si1 h1⟩
end

section
variable {X : Cx} {z : Dx} {W : WX} {a b c : Expr} {fa fb fc : M R} {pos : Pos}
/-! ### names, constants -/
def sNm (i : Nat) : M R := fun S => match S[i]? with
  | some (.shr d) => .ok (.at i) S
  | some (.own t d) => .ok (.at i) S
  | _ => .no
theorem E_nm (hk : z.K = X.K) (i : Nat) {x : Str} (hN : X.N[i]? = some x := by rfl) (hv : Vis X.env.scope x := by first | exact Or.inl rfl | exact Or.inr (Or.inl rfl) | exact Or.inr (Or.inr rfl)) (hd : (x == ("__debug__" : Str)) = false := by decide)
    (hcd : (x == ("__classdict__" : Str)) = false := by decide) : E X z W (.Name x pos) (sNm i) := by
  refine ⟨PE.le (pe_var hN hv hd hcd) fun σ H Q ⟨S, G, si, h⟩ => ?_, hk⟩
  unfold sNm at h
  cases e : S[i]? with
  | none => rw [e] at h; exact h.elim
  | some w =>
    rw [e] at h
    cases w with
    | un => exact h.elim
    | shr d =>
      obtain ⟨v, ev, r⟩ := si.shr i d e
      exact ⟨v, ev, h v H G si .refl ev⟩
    | own t d =>
      obtain ⟨p, ev, _⟩ := si.own i t d e
      exact ⟨_, ev, h _ H G si .refl ev⟩
def sV (d : D) : M R := fun S => .ok (.v d) S
theorem tC_run {v : V} {d : D} {σ : L2.St} {H : Hp} {Q : VK} (r : ∀ G, Rep z G v d) (h : tD z W (sV d) σ H Q) : Q v H := by
  obtain ⟨S, G, si, h⟩ := h
  exact h v H G si .refl (r G)
theorem E_int (hk : z.K = X.K) {n : Int} {j : Nat} : E X z W (.Constant (.int n) j pos) (sV (.int n)) := ⟨PE.le pe_int fun _ _ _ h => tC_run (fun G => .int n) h, hk⟩
theorem E_str (hk : z.K = X.K) {n : Str} {j : Nat} : E X z W (.Constant (.str n) j pos) (sV (.str n)) := ⟨PE.le pe_str fun _ _ _ h => tC_run (fun G => .str n) h, hk⟩
theorem E_bl (hk : z.K = X.K) {n : Bool} {j : Nat} : E X z W (.Constant (.bool n) j pos) (sV (.bl n)) := ⟨PE.le pe_bl fun _ _ _ h => tC_run (fun G => .bl n) h, hk⟩
theorem E_non (hk : z.K = X.K) {j : Nat} : E X z W (.Constant .none j pos) (sV .non) := ⟨PE.le pe_non fun _ _ _ h => tC_run (fun G => .non) h, hk⟩
/-- a constant of the module -/
theorem E_gint {x : Str} {n : Int} {t : Tok} (hk : z.K = X.K) (hg : Gl X x) (hm : X.mg x = some (.int n t)) (hd : (x == ("__debug__" : Str)) = false := by decide) : E X z W (.Name x pos) (sV (.int n)) :=
  ⟨PE.le (pe_glob hg hm (v := .int n) ⟨t, rfl⟩ hd) fun _ _ _ h => tC_run (fun G => .int n) h, hk⟩
theorem E_gstr {x : Str} {n : Str} {t : Tok} (hk : z.K = X.K) (hg : Gl X x) (hm : X.mg x = some (.str n t)) (hd : (x == ("__debug__" : Str)) = false := by decide) : E X z W (.Name x pos) (sV (.str n)) :=
  ⟨PE.le (pe_glob hg hm (v := .str n) ⟨t, rfl⟩ hd) fun _ _ _ h => tC_run (fun G => .str n) h, hk⟩

/-! ### operators -/
theorem E_bin {op : Operator} {g : D → D → Option R} (ho : OpR X (binaryOp op) (rD2 z g)) (ha : E X z W a fa) (hb : E X z W b fb) : E X z W (.BinOp a op b pos) (sOp g fa fb) :=
  ⟨PE.le (pe_op ho ha.pe hb.pe) fun _ _ _ ⟨_, _, si, h⟩ => sOp_run si h, ha.k⟩
theorem E_un {op : UnaryOp} {g : D → Option R} (ho : UnR X (unaryOp op) (rD1 z g)) (ha : E X z W a fa) : E X z W (.UnaryOp op a pos) (sUn g fa) :=
  ⟨PE.le (pe_un ho ha.pe) fun _ _ _ ⟨_, _, si, h⟩ => sUn_run si h, ha.k⟩
theorem E_cmp {op : CmpOp} {g : D → D → Option R} (ho : OpR X (compareOp op) (rD2 z g)) (ha : E X z W a fa) (hb : E X z W b fb) (hm : behindInMarks op b = false) : E X z W (.Compare a [op] [b] pos) (sOp g fa fb) :=
  ⟨PE.le (pe_cmpR ho ha.pe hb.pe hm) fun _ _ _ ⟨_, _, si, h⟩ => sOp_run si h, ha.k⟩
theorem E_ix {g : D → D → Option R} (ho : IxR X (rD2 z g)) (ha : E X z W a fa) (hb : E X z W b fb) (hs : PlainIx b) : E X z W (.Subscript a b pos) (sOp g fa fb) :=
  ⟨PE.le (pe_ix ho ha.pe hb.pe hs) fun _ _ _ ⟨_, _, si, h⟩ => sOp_run si h, ha.k⟩

/-! ### tests -/
def PostT (z : Dx) (W : WX) (S : SS) (G H : Hp) (σ : L2.St) (Q : Bool → Hp → Prop) : Res Bool → Prop
  | .ok b S' => ∀ H' G', SI z S' σ H' G' → Go S S' σ σ H H' G G' → Q b H'
  | .ex c w S' => ∀ H' G', SI z S' σ H' G' → Go S S' σ σ H H' G G' → WOk z W G' σ H' c w
  | .no => False
def tDT (z : Dx) (W : WX) (f : M Bool) : TT := fun σ H Q => ∃ S G, SI z S σ H G ∧ PostT z W S G H σ Q (f S)
structure T (X : Cx) (z : Dx) (W : WX) (e : Expr) (f : M Bool) : Prop where
  pt : PT X e (tDT z W f)
  k : z.K = X.K
section
variable {S S1 : SS} {G G1 H H1 : Hp} {σ : L2.St} {QT QT' : Bool → Hp → Prop} {Q : VK}
theorem PostT.mono {r : Res Bool} (h : PostT z W S G H σ QT r) (q : ∀ v H, QT v H → QT' v H) : PostT z W S G H σ QT' r := by
  cases r with
  | ok r S' => exact fun H' G' si g => q _ _ (h H' G' si g)
  | ex c w S' => exact h
  | no => exact h
theorem tDT.mono {f : M Bool} (h : tDT z W f σ H QT) (q : ∀ v H, QT v H → QT' v H) : tDT z W f σ H QT' := by
  obtain ⟨S, G, si, p⟩ := h
  exact ⟨S, G, si, p.mono q⟩
theorem PostT.from {r : Res Bool} (h : PostT z W S G H σ QT r) (g : Go S S1 σ σ H H1 G G1) : PostT z W S1 G1 H1 σ QT r := by
  cases r with
  | ok r S' => exact fun H' G' si g' => h H' G' si (g.trans g')
  | ex c w S' => exact fun H' G' si g' => h H' G' si (g.trans g')
  | no => exact h
/-- an expression ahead of what ends in a truth -/
theorem stepT {fa : M R} {k : R → SS → Res Bool} (si : SI z S σ H G) (h : PostT z W S G H σ QT ((fa S).bind k)) :
    tD z W fa σ H fun x H1 => ∃ ra S1 G1, SI z S1 σ H1 G1 ∧ Go S S1 σ σ H H1 G G1 ∧ DenS z σ G1 x ra ∧ PostT z W S1 G1 H1 σ QT (k ra S1) := by
  cases e : fa S with
  | ok ra S1 =>
    rw [e] at h
    have h' : Post z W S G H σ (fun x H1 => ∃ ra S1 G1, SI z S1 σ H1 G1 ∧ Go S S1 σ σ H H1 G G1 ∧ DenS z σ G1 x ra ∧ PostT z W S1 G1 H1 σ QT (k ra S1)) ((fa S).bind fun ra S1 => .ok ra S1) := by
      rw [e]
      intro v H1 G1 si1 g1 dn
      have q := PostT.from h g1
      cases ra with
      | v d => exact ⟨.v d, S1, G1, si1, g1, dn, q⟩
      | f d =>
        obtain ⟨p, rfl, h1, h2, h3, h4⟩ := dn
        obtain ⟨o, ho⟩ := h4.there
        have g2 : Go S S1 σ σ H H1 G (upd G1 p o) := ⟨g1.ge.trans (upd_le h2), fun a o' q n => (g1.fr a o' q n).ge (upd_le h2), g1.ow, fun a u q => by
          by_cases e : a = p
          · subst e; exact .inr (.inl h1)
          · rw [upd_ne e] at q; exact g1.nw a u q, g1.th⟩
        exact ⟨.f d, S1, _, si1.add ho h2 h3 (h4.nt ho), g2, h4.rep ho (upd_le h2) upd_same, PostT.from h g2⟩
      | «at» i => exact ⟨.at i, S1, G1, si1, g1, dn, q⟩
    refine ⟨S, G, si, ?_⟩
    rw [e] at h'
    rw [e]
    exact h'
  | ex c w S1 =>
    rw [e] at h
    exact ⟨S, G, si, by rw [e]; exact h⟩
  | no =>
    rw [e] at h
    exact h.elim
/-- a truth ahead of what ends in a result -/
theorem stepB {ft : M Bool} {k : Bool → SS → Res R} (si : SI z S σ H G) (h : Post z W S G H σ Q ((ft S).bind k)) :
    tDT z W ft σ H fun b H1 => ∃ S1 G1, SI z S1 σ H1 G1 ∧ Go S S1 σ σ H H1 G G1 ∧ Post z W S1 G1 H1 σ Q (k b S1) := by
  refine ⟨S, G, si, ?_⟩
  cases e : ft S with
  | ok b S1 =>
    rw [e] at h
    exact fun H1 G1 si1 g1 => ⟨S1, G1, si1, g1, Post.from h g1⟩
  | ex c w S1 => rw [e] at h; exact h
  | no => rw [e] at h; exact h
theorem stepBT {ft : M Bool} {k : Bool → SS → Res Bool} (si : SI z S σ H G) (h : PostT z W S G H σ QT ((ft S).bind k)) :
    tDT z W ft σ H fun b H1 => ∃ S1 G1, SI z S1 σ H1 G1 ∧ Go S S1 σ σ H H1 G G1 ∧ PostT z W S1 G1 H1 σ QT (k b S1) := by
  refine ⟨S, G, si, ?_⟩
  cases e : ft S with
  | ok b S1 =>
    rw [e] at h
    exact fun H1 G1 si1 g1 => ⟨S1, G1, si1, g1, PostT.from h g1⟩
  | ex c w S1 => rw [e] at h; exact h
  | no => rw [e] at h; exact h
end

/-- truth by data -/
def D.truth : D → Option Bool
  | .non => some false
  | .bl b => some b
  | .int i => some (i != 0)
  | .str s => if s.length ≤ 1000000 then some ((s.length : Int) != 0) else none
  | .lst l => some (!l.isEmpty)
  | .tup l => some (!l.isEmpty)
  | .dct l => some (!l.isEmpty)
  | _ => none
theorem emptyL {z : Dx} {G : Hp} {xs : List V} {l : List D} (r : RepL z G xs l) : (!xs.isEmpty) = !l.isEmpty := by
  cases r <;> rfl
theorem line1 {n : Nat} (h : n ≤ 1000000) : n ≤ sizeLine := Nat.le_trans h (by rw [sizeLine_eq]; decide)
theorem tru_dl (hk : z.K = X.K) : TruR X (fun x H Q => ∃ G d k, LeH G H ∧ View z G H x d ∧ d.truth = some k ∧ Q k H) := by
  intro pins s σ H x v Q I rx h
  obtain ⟨G, d, k, le, vw, e, q⟩ := h
  cases d with
  | non => cases e; obtain rfl := vw.non; exact tru_ok pins s σ H _ v Q I rx ⟨_, rfl, q⟩
  | bl b => cases e; obtain rfl := vw.bl; exact tru_ok pins s σ H _ v Q I rx ⟨_, rfl, q⟩
  | int i => cases e; obtain rfl := vw.int; exact tru_ok pins s σ H _ v Q I rx ⟨_, rfl, q⟩
  | str y =>
    obtain rfl := vw.str
    have e : (if y.length ≤ 1000000 then some ((y.length : Int) != 0) else none) = some k := e
    by_cases hy : y.length ≤ 1000000
    · rw [if_pos hy] at e; cases e
      exact tru_ok pins s σ H _ v Q I rx ⟨_, ⟨line1 hy, rfl⟩, q⟩
    · rw [if_neg hy] at e; cases e
  | lst l =>
    cases e
    obtain ⟨a, xs, rfl, ha, r⟩ := vw.lst le
    exact tru_ok pins s σ H _ v Q I rx ⟨_, .inl ⟨xs, SqL.of ha, rfl⟩, by rw [emptyL r]; exact q⟩
  | tup l =>
    cases e
    obtain ⟨a, xs, rfl, ha, r⟩ := vw.tup le
    rw [hk] at ha
    exact tru_ok pins s σ H _ v Q I rx ⟨_, .inr (.inl ⟨xs, ha, rfl⟩), by rw [emptyL r]; exact q⟩
  | dct l =>
    cases e
    obtain ⟨a, vs, rfl, ha, kk, r⟩ := vw.dct le
    cases rx
    have e2 : (!vs.isEmpty) = !l.isEmpty := by
      cases vs <;> cases l <;> simp at kk ⊢
    exact d_truth I ha fun s' I' => ⟨H, I', by rw [e2]; exact q⟩
  | _ => cases e
def lookB (S : SS) (r : R) : Option Bool := (look S r).bind D.truth
def liftT (r : Option Bool) (S : SS) : Res Bool := match r with
  | some r => .ok r S
  | none => .no
/-- by truth -/
def sTru (fa : M R) : M Bool := fun S => (fa S).bind fun ra S1 => liftT (lookB S1 ra) S1
theorem T_tru (ha : E X z W a fa) (he : ∀ whole, isTrue a X.env whole = (do let v ← whole; standAt a.pos; holding [v] (truthy v)) := by intro _; rfl) : T X z W a (sTru fa) := by
  refine ⟨⟨fun pins s σ H Q I ⟨S, G, si, h⟩ => ?_⟩, ha.k⟩
  refine isTrue_plain (thn (ha.pe.run pins s σ H _ I (stepT si h)) fun v s1 ⟨x, H1, I1, r1, ra, S1, G1, si1, g1, dn, h1⟩ => ?_) (he _)
  unfold lookB at h1
  cases e : look S1 ra with
  | none => rw [e] at h1; exact h1.elim
  | some d =>
    rw [e] at h1
    have h1 : PostT z W S1 G1 H1 σ Q (liftT d.truth S1) := h1
    cases e2 : d.truth with
    | none => rw [e2] at h1; exact h1.elim
    | some k =>
      rw [e2] at h1
      exact tru_dl ha.k pins s1 σ H1 x v Q I1 r1 ⟨G1, d, k, si1.le, dn.view si1 e, e2, h1 H1 G1 si1 .refl⟩
/-- a comparison -/
def sCmpT (g : D → D → Option Bool) (fa fb : M R) : M Bool := fun S => (fa S).bind fun ra S1 => (fb S1).bind fun rb S2 => liftT (do let da ← look S2 ra; let db ← look S2 rb; g da db) S2
def toB (g : D → D → Option Bool) : D → D → Option R := fun a b => (g a b).map fun k => .v (.bl k)
theorem T_cmp {op : CmpOp} {g : D → D → Option Bool} (ho : OpR X (compareOp op) (rD2 z (toB g))) (ha : E X z W a fa) (hb : E X z W b fb) (hm : behindInMarks op b = false) : T X z W (.Compare a [op] [b] pos) (sCmpT g fa fb) := by
  refine ⟨PT.le (pt_cmpR ho ha.pe hb.pe hm) fun σ H Q ⟨S, G, si, h⟩ => ?_, ha.k⟩
  refine (stepT si h).mono fun x H1 ⟨ra, S1, G1, si1, _, da, h1⟩ => ?_
  refine (stepT si1 h1).mono fun y H2 ⟨rb, S2, G2, si2, g2, db, h2⟩ => ?_
  have da2 := da.mono g2.ge
  cases ea : look S2 ra with
  | none => rw [ea] at h2; exact h2.elim
  | some d1 =>
    cases eb : look S2 rb with
    | none => rw [ea, eb] at h2; exact h2.elim
    | some d2 =>
      rw [ea, eb] at h2
      have h2 : PostT z W S2 G2 H2 σ Q (liftT (g d1 d2) S2) := h2
      cases e : g d1 d2 with
      | none => rw [e] at h2; exact h2.elim
      | some k =>
        rw [e] at h2
        refine ⟨G2, d1, d2, .v (.bl k), si2.le, da2.view si2 ea, db.view si2 eb, by unfold toB; rw [e]; rfl, fun v H' G' x dn => ?_⟩
        cases dn
        exact ⟨k, rfl, h2 H' G' (si2.ext x) x.go⟩
theorem E_cmpT {op : CmpOp} {g : D → D → Option Bool} (ho : OpR X (compareOp op) (rD2 z (toB g))) (ha : E X z W a fa) (hb : E X z W b fb) (hm : behindInMarks op b = false) : E X z W (.Compare a [op] [b] pos) (sOp (toB g) fa fb) := E_cmp ho ha hb hm
def sAnd (ft fu : M Bool) : M Bool := fun S => (ft S).bind fun b S1 => if b = true then fu S1 else .ok false S1
def sOr (ft fu : M Bool) : M Bool := fun S => (ft S).bind fun b S1 => if b = true then .ok true S1 else fu S1
def sNot (ft : M Bool) : M Bool := fun S => (ft S).bind fun b S1 => .ok (!b) S1
/-- and, or within a test -/
structure Tw (X : Cx) (z : Dx) (W : WX) (e : Expr) (f : M Bool) : Prop where
  pw : PW X e (tDT z W f)
  k : z.K = X.K
variable {ft fu : M Bool} {rest : List Expr}
theorem PW.le {e : Expr} {t t' : TT} (h : PW X e t) (w : ∀ σ H Q, t' σ H Q → t σ H Q) : PW X e t' := ⟨fun wh pins s σ H Q I q => h.run wh pins s σ H Q I (w σ H Q q)⟩
theorem Tw.t {e : Expr} (h : Tw X z W e ft) : T X z W e ft := ⟨h.pw.pt, h.k⟩
theorem Tw_and1 (ha : T X z W a ft) : Tw X z W (.BoolOp .And [a] pos) ft := ⟨pw_and1 ha.pt, ha.k⟩
theorem Tw_or1 (ha : T X z W a ft) : Tw X z W (.BoolOp .Or [a] pos) ft := ⟨pw_or1 ha.pt, ha.k⟩
theorem Tw_and (ha : T X z W a ft) (hb : Tw X z W (.BoolOp .And (b :: rest) pos) fu) : Tw X z W (.BoolOp .And (a :: b :: rest) pos) (sAnd ft fu) := by
  refine ⟨PW.le (pw_and ha.pt hb.pw) fun σ H Q ⟨S, G, si, h⟩ => ?_, ha.k⟩
  refine (stepBT si h).mono fun c H1 ⟨S1, G1, si1, _, h1⟩ => ?_
  cases c with
  | true => rw [if_pos rfl] at h1 ⊢; exact ⟨S1, G1, si1, h1⟩
  | false => rw [if_neg Bool.false_ne_true] at h1 ⊢; exact h1 H1 G1 si1 .refl
theorem Tw_or (ha : T X z W a ft) (hb : Tw X z W (.BoolOp .Or (b :: rest) pos) fu) : Tw X z W (.BoolOp .Or (a :: b :: rest) pos) (sOr ft fu) := by
  refine ⟨PW.le (pw_or ha.pt hb.pw) fun σ H Q ⟨S, G, si, h⟩ => ?_, ha.k⟩
  refine (stepBT si h).mono fun c H1 ⟨S1, G1, si1, _, h1⟩ => ?_
  cases c with
  | true => rw [if_pos rfl] at h1 ⊢; exact h1 H1 G1 si1 .refl
  | false => rw [if_neg Bool.false_ne_true] at h1 ⊢; exact ⟨S1, G1, si1, h1⟩
theorem T_not (ha : T X z W a ft) : T X z W (.UnaryOp .Not a pos) (sNot ft) := by
  refine ⟨PT.le (pt_not ha.pt) fun σ H Q ⟨S, G, si, h⟩ => ?_, ha.k⟩
  exact (stepBT si h).mono fun c H1 ⟨S1, G1, si1, _, h1⟩ => h1 H1 G1 si1 .refl
/-- not x as a value -/
theorem E_not (ha : E X z W a fa) : E X z W (.UnaryOp .Not a pos) (sUn (fun d => d.truth.map fun k => .v (.bl (!k))) fa) := by
  refine ⟨⟨fun pins s σ H Q I ⟨S, G, si, h⟩ => ?_⟩, ha.k⟩
  refine UnaryOp_ (thn (ha.pe.run pins s σ H _ I (sUn_run si h)) fun v s1 ⟨x, H1, I1, r1, G1, d, r, le, vw, e, q⟩ => ?_)
  have e : (d.truth.map fun k => R.v (.bl (!k))) = some r := e
  cases e2 : d.truth with
  | none => rw [e2] at e; cases e
  | some k =>
    rw [e2] at e; cases e
    refine PyProof.Rows.not_of (thn (tru_dl ha.k pins s1 σ H1 x v (fun c H2 => Q (.bl (!c)) H2) I1 r1 ⟨G1, d, k, le, vw, e2, q.rep le (.bl _)⟩) fun c s2 ⟨H2, I2, q2⟩ => ?_)
    exact ⟨.bl (!c), H2, I2, rfl, q2⟩
def sIf (ft : M Bool) (fa fb : M R) : M R := fun S => (ft S).bind fun b S1 => if b = true then fa S1 else fb S1
theorem E_if {t : Expr} (ht : T X z W t ft) (ha : E X z W a fa) (hb : E X z W b fb) : E X z W (.IfExp t a b pos) (sIf ft fa fb) := by
  refine ⟨PE.le (pe_ifExp ht.pt ha.pe hb.pe) fun σ H Q ⟨S, G, si, h⟩ => ?_, ha.k⟩
  refine (stepB si h).mono fun c H1 ⟨S1, G1, si1, _, h1⟩ => ?_
  cases c with
  | true => rw [if_pos rfl] at h1 ⊢; exact ⟨S1, G1, si1, h1⟩
  | false => rw [if_neg Bool.false_ne_true] at h1 ⊢; exact ⟨S1, G1, si1, h1⟩
end
end L2.Dl
/-! Lists of arguments, calls of built-ins, displays, sharing. -/
namespace L2.Dl
open PySem PySem.Spec PyProof.Rows

section
variable {z : Dx} {W : WX} {S S1 : SS} {G G1 H H1 : Hp} {σ : L2.St} {Q : VK}
abbrev DenL (z : Dx) (σ : L2.St) (G : Hp) : List V → List R → Prop := Paired fun v r => DenS z σ G v r
theorem DenL.mono {vs : List V} {rs : List R} (h : DenL z σ G vs rs) (g : GLe G G1) : DenL z σ G1 vs rs := Paired.mapP h fun _ _ q => q.mono g
def PostL (z : Dx) (W : WX) (S : SS) (G H : Hp) (σ : L2.St) (Q : List V → Hp → Prop) : Res (List R) → Prop
  | .ok rs S' => ∀ vs H' G', SI z S' σ H' G' → Go S S' σ σ H H' G G' → DenL z σ G' vs rs → Q vs H'
  | .ex c w S' => ∀ H' G', SI z S' σ H' G' → Go S S' σ σ H H' G G' → WOk z W G' σ H' c w
  | .no => False
def tDL (z : Dx) (W : WX) (f : M (List R)) : TA := fun σ H Q => ∃ S G, SI z S σ H G ∧ PostL z W S G H σ Q (f S)
structure L (X : Cx) (z : Dx) (W : WX) (es : List Expr) (f : M (List R)) : Prop where
  pa : PA X es (tDL z W f)
theorem PostL.from {QL : List V → Hp → Prop} {r : Res (List R)} (h : PostL z W S G H σ QL r) (g : Go S S1 σ σ H H1 G G1) : PostL z W S1 G1 H1 σ QL r := by
  cases r with
  | ok r S' => exact fun vs H' G' si g' => h vs H' G' si (g.trans g')
  | ex c w S' => exact fun H' G' si g' => h H' G' si (g.trans g')
  | no => exact h
theorem PostL.mono {QL QL' : List V → Hp → Prop} {r : Res (List R)} (h : PostL z W S G H σ QL r) (q : ∀ v H, QL v H → QL' v H) : PostL z W S G H σ QL' r := by
  cases r with
  | ok r S' => exact fun v H' G' si g dn => q _ _ (h v H' G' si g dn)
  | ex c w S' => exact h
  | no => exact h
theorem tDL.mono {QL QL' : List V → Hp → Prop} {f : M (List R)} (h : tDL z W f σ H QL) (q : ∀ v H, QL v H → QL' v H) : tDL z W f σ H QL' := by
  obtain ⟨S, G, si, p⟩ := h
  exact ⟨S, G, si, p.mono q⟩
/-- settle a result: it is shared from now on -/
theorem settle {S' : SS} {v : V} {r : R} {H' G' : Hp} (si : SI z S' σ H' G') (g : Go S S' σ σ H H' G G') (dn : Den z S' σ H H' G' v r) : ∃ G2, SI z S' σ H' G2 ∧ Go S S' σ σ H H' G G2 ∧ GLe G' G2 ∧ DenS z σ G2 v r := by
  cases r with
  | v d => exact ⟨G', si, g, .refl _, dn⟩
  | f d =>
    obtain ⟨p, rfl, h1, h2, h3, h4⟩ := dn
    obtain ⟨o, ho⟩ := h4.there
    exact ⟨upd G' p o, si.add ho h2 h3 (h4.nt ho), ⟨g.ge.trans (upd_le h2), fun a o' q n => (g.fr a o' q n).ge (upd_le h2), g.ow, fun a u q => by
      by_cases e : a = p
      · subst e; exact .inr (.inl h1)
      · rw [upd_ne e] at q; exact g.nw a u q, g.th⟩, upd_le h2, h4.rep ho (upd_le h2) upd_same⟩
  | «at» i => exact ⟨G', si, g, .refl _, dn⟩
/-- an expression, then anything told by K -/
theorem stepG {α : Type} {P : SS → Hp → Hp → Res α → Prop} (from_ : ∀ {S1 : SS} {H1 G1 : Hp} {r : Res α}, P S G H r → Go S S1 σ σ H H1 G G1 → P S1 G1 H1 r)
    (exc : ∀ {c w S1}, P S G H (.ex c w S1) → ∀ H' G', SI z S1 σ H' G' → Go S S1 σ σ H H' G G' → WOk z W G' σ H' c w) (no : ¬ P S G H .no)
    {fa : M R} {k : R → SS → Res α} (si : SI z S σ H G) (h : P S G H ((fa S).bind k)) :
    tD z W fa σ H fun x H1 => ∃ ra S1 G1, SI z S1 σ H1 G1 ∧ Go S S1 σ σ H H1 G G1 ∧ DenS z σ G1 x ra ∧ P S1 G1 H1 (k ra S1) := by
  refine ⟨S, G, si, ?_⟩
  cases e : fa S with
  | ok ra S1 =>
    rw [e] at h
    intro v H1 G1 si1 g1 dn
    obtain ⟨G2, si2, g2, _, dn2⟩ := settle si1 g1 dn
    exact ⟨ra, S1, G2, si2, g2, dn2, from_ h g2⟩
  | ex c w S1 =>
    rw [e] at h
    exact exc h
  | no =>
    rw [e] at h
    exact (no h).elim
def sNil : M (List R) := fun S => .ok [] S
def sCons (fa : M R) (fr : M (List R)) : M (List R) := fun S => (fa S).bind fun ra S1 => (fr S1).bind fun rs S2 => .ok (ra :: rs) S2
variable {X : Cx}
theorem PA_le {e : List Expr} {t t' : TA} (h : PA X e t) (w : ∀ σ H Q, t' σ H Q → t σ H Q) : PA X e t' := ⟨fun pos pins s σ H Q I q => h.run pos pins s σ H Q I (w σ H Q q)⟩
theorem L_nil : L X z W [] sNil := ⟨PA_le pa_nil fun σ H Q ⟨S, G, si, h⟩ => h [] H G si .refl .nil⟩
theorem L_cons {e : Expr} {es : List Expr} {fa : M R} {fr : M (List R)} (ha : E X z W e fa) (hr : L X z W es fr) (hs : starEach (e :: es) X.env = (false, eval e X.env) :: starEach es X.env := by rfl) : L X z W (e :: es) (sCons fa fr) := by
  refine ⟨PA_le (pa_cons ha.pe hr.pa hs) fun σ H Q ⟨S, G, si, h⟩ => ?_⟩
  refine (stepG (P := fun S G H r => PostL z W S G H σ Q r) (fun h g => h.from g) (fun h => h) (fun h => h) si h).mono fun x H1 ⟨ra, S1, G1, si1, _, da, h1⟩ => ?_
  refine ⟨S1, G1, si1, ?_⟩
  cases e : fr S1 with
  | ok rs S2 =>
    rw [e] at h1
    intro vs H2 G2 si2 g2 dl
    exact h1 (x :: vs) H2 G2 si2 g2 (.cons (da.mono g2.ge) dl)
  | ex c w S2 =>
    rw [e] at h1
    exact h1
  | no =>
    rw [e] at h1
    exact h1.elim
/-- arguments ahead of a result -/
theorem stepL {fl : M (List R)} {k : List R → SS → Res R} (si : SI z S σ H G) (h : Post z W S G H σ Q ((fl S).bind k)) :
    tDL z W fl σ H fun vs H1 => ∃ rs S1 G1, SI z S1 σ H1 G1 ∧ Go S S1 σ σ H H1 G G1 ∧ DenL z σ G1 vs rs ∧ Post z W S1 G1 H1 σ Q (k rs S1) := by
  refine ⟨S, G, si, ?_⟩
  cases e : fl S with
  | ok rs S1 =>
    rw [e] at h
    exact fun vs H1 G1 si1 g1 dl => ⟨rs, S1, G1, si1, g1, dl, Post.from h g1⟩
  | ex c w S1 => rw [e] at h; exact h
  | no => rw [e] at h; exact h

def lookL (S : SS) : List R → Option (List D)
  | [] => some []
  | r :: rs => match look S r with
    | none => none
    | some d => match lookL S rs with
      | none => none
      | some ds => some (d :: ds)
theorem DenL.view {vs : List V} {rs : List R} (h : DenL z σ G vs rs) (si : SI z S σ H G) : ∀ {ds : List D}, lookL S rs = some ds → ViewL z G H vs ds := by
  induction h with
  | nil => intro ds e; cases e; exact .nil
  | cons a b ih =>
    intro ds e
    unfold lookL at e
    split at e
    · cases e
    · rename_i d e1
      split at e
      · cases e
      · rename_i ds' e2
        cases e
        exact .cons (a.view si e1) (ih e2)
def sCall (g : List D → Option R) (fl : M (List R)) : M R := fun S => (fl S).bind fun rs S1 => lift (do let ds ← lookL S1 rs; g ds) S1
theorem sCall_run {g : List D → Option R} {fl : M (List R)} (si : SI z S σ H G) (h : Post z W S G H σ Q (sCall g fl S)) : tDL z W fl σ H fun vs H1 => rDL z g vs H1 Q := by
  refine (stepL si h).mono fun vs H1 ⟨rs, S1, G1, si1, _, dl, h1⟩ => ?_
  cases ea : lookL S1 rs with
  | none => rw [ea] at h1; exact h1.elim
  | some ds =>
    rw [ea] at h1
    have h1 : Post z W S1 G1 H1 σ Q (lift (g ds) S1) := h1
    cases e : g ds with
    | none => rw [e] at h1; exact h1.elim
    | some r =>
      rw [e] at h1
      exact ⟨G1, ds, r, si1.le, dl.view si1 ea, e, VP.fin si1 h1⟩
theorem E_callB {id : String} {g : List D → Option R} {x : Str} {e : Expr} {es : List Expr} {p pos : Pos} {fl : M (List R)} (hk : z.K = X.K) (hc : CallR X (.builtin id) (rDL z g)) (hg : Gl X x) (hm : X.mg x = none) (hv : bootBuiltins x = some (.builtin id))
    (hl : L X z W (e :: es) fl) (hn : x ≠ "__name__" := by decide) (hdb : (x == ("__debug__" : Str)) = false := by decide) (hs : starEach (e :: es) X.env = (false, eval e X.env) :: starEach es X.env := by rfl)
    (hpl : (backTo pos (starEach es X.env)).any (·.1) = false := by rfl) : E X z W (.Call (.Name x p) (e :: es) [] pos) (sCall g fl) :=
  ⟨PE.le (by first | exact pe_callB hc hg hm hv hl.pa hn hdb hs hpl | exact pe_callB hc hg hm hv hl.pa hn hdb) fun σ H Q ⟨S, G, si, h⟩ => sCall_run si h, hk⟩
theorem E_callT {T : String} {g : List D → Option R} {x : Str} {e : Expr} {es : List Expr} {p pos : Pos} {fl : M (List R)} (hk : z.K = X.K) (hc : CallR X (.type T) (rDL z g)) (hg : Gl X x) (hm : X.mg x = none) (hv : bootBuiltins x = some (.type T))
    (hl : L X z W (e :: es) fl) (hn : x ≠ "__name__" := by decide) (hdb : (x == ("__debug__" : Str)) = false := by decide) (hs : starEach (e :: es) X.env = (false, eval e X.env) :: starEach es X.env := by rfl)
    (hpl : (backTo pos (starEach es X.env)).any (·.1) = false := by rfl) : E X z W (.Call (.Name x p) (e :: es) [] pos) (sCall g fl) :=
  ⟨PE.le (by first | exact pe_callTy hc hg hm hv hl.pa hn hdb hs hpl | exact pe_callTy hc hg hm hv hl.pa hn hdb) fun σ H Q ⟨S, G, si, h⟩ => sCall_run si h, hk⟩

/-! ### sharing -/
/-- the slot's object is shared from now on -/
def freeze (S : SS) (i : Nat) : SS := match S[i]? with
  | some (.own t d) => S.set i (.shr d)
  | _ => S
theorem SI.freeze1 {i : Nat} {t : Option Nat} {d : D} {a : Addr} (si : SI z S σ H G) (e : S[i]? = some (.own t d)) (ea : σ[i]? = some (some (.ref a))) :
    ∃ G1, SI z (S.set i (.shr d)) σ H G1 ∧ Go S (S.set i (.shr d)) σ σ H H G G1 ∧ Rep z G1 (.ref a) d := by
  obtain ⟨a', ea', ga, ow, _⟩ := si.own i t d e
  rw [ea] at ea'; cases ea'
  obtain ⟨o, ho⟩ := ow.there
  have hi : i < S.length := (List.getElem?_eq_some_iff.mp e).1
  have rp : Rep z (upd G a o) (.ref a) d := ow.rep ho (upd_le ga) upd_same
  have get : ∀ j w, (S.set i (.shr d))[j]? = some w → (j = i ∧ w = .shr d) ∨ (j ≠ i ∧ S[j]? = some w) := fun j w h => by
    by_cases hj : j = i
    · subst hj
      rw [List.getElem?_set_self hi] at h
      exact .inl ⟨rfl, (Option.some.inj h).symm⟩
    · rw [List.getElem?_set_ne (Ne.symm hj)] at h
      exact .inr ⟨hj, h⟩
  refine ⟨upd G a o, ⟨by rw [List.length_set]; exact si.len, ?_, fun j d' h => ?_, fun j t' d' h => ?_, fun j k tj dj tk dk b h1 h2 h3 h4 => ?_, si.dom, si.tab.ge (upd_le ga)⟩, ⟨upd_le ga, fun _ _ h _ => .inl h, fun b ⟨j, t', d', h1, h2⟩ => ?_, fun b u h => ?_, fun _ h => h⟩, rp⟩
  · intro b u h
    by_cases hb : b = a
    · subst hb; rw [upd_same] at h; cases h; exact .inl ⟨ho, ow.nt ho⟩
    · rw [upd_ne hb] at h; exact si.le b u h
  · rcases get j _ h with ⟨rfl, e1⟩ | ⟨_, e1⟩
    · cases e1; exact ⟨_, ea, rp⟩
    · obtain ⟨v, q, r⟩ := si.shr j d' e1
      exact ⟨v, q, r.mono (upd_le ga)⟩
  · rcases get j _ h with ⟨_, e1⟩ | ⟨hj, e1⟩
    · cases e1
    · obtain ⟨b, q, g, o', t1, t2⟩ := si.own j t' d' e1
      have hb : b ≠ a := fun z' => hj (si.sep j i _ _ _ _ a e1 e (by rw [← z']; exact q) ea)
      exact ⟨b, q, by rw [upd_ne hb]; exact g, o'.mono (upd_le ga) fun _ h => h, t1, t2⟩
  · rcases get j _ h1 with ⟨_, e1⟩ | ⟨_, e1⟩
    · cases e1
    · rcases get k _ h2 with ⟨_, e2⟩ | ⟨_, e2⟩
      · cases e2
      · exact si.sep j k _ _ _ _ b e1 e2 h3 h4
  · rcases get j _ h1 with ⟨_, e1⟩ | ⟨_, e1⟩
    · cases e1
    · exact .inl ⟨j, t', d', e1, h2⟩
  · by_cases hb : b = a
    · subst hb; exact .inr (.inr ⟨i, t, d, e, ea⟩)
    · rw [upd_ne hb] at h; exact .inl h
/-- a result's data, shared -/
def valR (S : SS) : R → Option (D × SS)
  | .v d => some (d, S)
  | .f d => some (d, S)
  | .at i => match S[i]? with
    | some (.shr d) => some (d, S)
    | some (.own t d) => some (d, S.set i (.shr d))
    | _ => none
theorem valR_run {v : V} {r : R} {d : D} {S1 : SS} (si : SI z S σ H G) (dn : DenS z σ G v r) (e : valR S r = some (d, S1)) : ∃ G1, SI z S1 σ H G1 ∧ Go S S1 σ σ H H G G1 ∧ Rep z G1 v d := by
  cases r with
  | v d' => cases e; exact ⟨G, si, .refl, dn⟩
  | f d' => cases e; exact ⟨G, si, .refl, dn⟩
  | «at» i =>
    have dn : σ[i]? = some (some v) := dn
    unfold valR at e
    simp only at e
    split at e
    · rename_i d' e1
      cases e
      obtain ⟨v', e2, r⟩ := si.shr i _ e1
      rw [dn] at e2; cases e2
      exact ⟨G, si, .refl, r⟩
    · rename_i t d' e1
      cases e
      obtain ⟨a, e2, _⟩ := si.own i _ _ e1
      rw [dn] at e2; cases e2
      exact si.freeze1 e1 dn
    · cases e
def valsR (S : SS) : List R → Option (List D × SS)
  | [] => some ([], S)
  | r :: rs => match valR S r with
    | none => none
    | some (d, S1) => match valsR S1 rs with
      | none => none
      | some (ds, S2) => some (d :: ds, S2)
theorem valsR_run {vs : List V} {rs : List R} (dl : DenL z σ G vs rs) : ∀ {S : SS} {ds : List D} {S1 : SS}, SI z S σ H G → valsR S rs = some (ds, S1) → ∃ G1, SI z S1 σ H G1 ∧ Go S S1 σ σ H H G G1 ∧ RepL z G1 vs ds := by
  induction rs generalizing vs G with
  | nil => intro S ds S1 si e; cases dl; cases e; exact ⟨G, si, .refl, .nil⟩
  | cons r rs ih =>
    intro S ds S1 si e
    cases dl with
    | cons a b =>
      unfold valsR at e
      split at e
      · cases e
      · rename_i d S2 e1
        split at e
        · cases e
        · rename_i ds' S3 e2
          cases e
          obtain ⟨G2, si2, g2, r2⟩ := valR_run si a e1
          obtain ⟨G3, si3, g3, r3⟩ := ih (DenL.mono b g2.ge) si2 e2
          exact ⟨G3, si3, g2.trans g3, .cons (r2.mono g3.ge) r3⟩

/-! ### displays -/
/-- all arguments shared, then a new object -/
def sMake (g : List D → Option R) (fl : M (List R)) : M R := fun S => (fl S).bind fun rs S1 => match valsR S1 rs with
  | none => .no
  | some (ds, S2) => lift (g ds) S2
theorem sMake_run {g : List D → Option R} {fl : M (List R)} (si : SI z S σ H G) (h : Post z W S G H σ Q (sMake g fl S)) :
    tDL z W fl σ H fun vs H1 => ∃ G1 ds r, LeH G1 H1 ∧ RepL z G1 vs ds ∧ g ds = some r ∧ VP z H1 G1 Q r := by
  refine (stepL si h).mono fun vs H1 ⟨rs, S1, G1, si1, _, dl, h1⟩ => ?_
  cases ea : valsR S1 rs with
  | none => rw [ea] at h1; exact h1.elim
  | some p =>
    obtain ⟨ds, S2⟩ := p
    rw [ea] at h1
    have h1 : Post z W S1 G1 H1 σ Q (lift (g ds) S2) := h1
    obtain ⟨G2, si2, g2, r2⟩ := valsR_run dl si1 ea
    cases e : g ds with
    | none => rw [e] at h1; exact h1.elim
    | some r =>
      rw [e] at h1
      exact ⟨G2, ds, r, si2.le, r2, e, VP.fin si2 (Post.from h1 g2)⟩
def gLst (ds : List D) : Option R := if ds.length ≤ 1000 then some (.f (.lst ds)) else none
def gTup (ds : List D) : Option R := if ds.length ≤ 1000 then some (.v (.tup ds)) else none
theorem line1000 {n : Nat} (h : n ≤ 1000) : n ≤ sizeLine := Nat.le_of_lt (small1000 h)
theorem E_lst {es : List Expr} {pos : Pos} {fl : M (List R)} (hk : z.K = X.K) (hl : L X z W es fl) : E X z W (.List es pos) (sMake gLst fl) := by
  refine ⟨PE.le (pe_lst hl.pa) fun σ H Q ⟨S, G, si, h⟩ => ?_, hk⟩
  refine (sMake_run si h).mono fun vs H1 ⟨G1, ds, r, le, rl, e, q⟩ => ?_
  unfold gLst at e
  split at e
  · rename_i hz
    cases e
    exact ⟨by rw [rl.length]; exact line1000 hz, fun p hp => q.new le hp ⟨vs, upd_same, rl⟩⟩
  · cases e
theorem E_tup {es : List Expr} {x1} {pos : Pos} {fl : M (List R)} (hk : z.K = X.K) (hl : L X z W es fl) : E X z W (.Tuple es x1 pos) (sMake gTup fl) := by
  refine ⟨PE.le (pe_tup hl.pa) fun σ H Q ⟨S, G, si, h⟩ => ?_, hk⟩
  refine (sMake_run si h).mono fun vs H1 ⟨G1, ds, r, le, rl, e, q⟩ => ?_
  unfold gTup at e
  split at e
  · rename_i hz
    cases e
    exact ⟨by rw [rl.length]; exact line1000 hz, fun p hp => q.newV le hp (.tup (SqT.of upd_same) (rl.mono (upd_le (le.none hp))))⟩
  · cases e
def sNewK : M R := fun S => .ok (.f (.dct [])) S
def sNewT : M R := fun S => .ok (.f (.dtt [])) S
theorem E_newK {pos : Pos} (hk : z.K = X.K) : E X z W (.Dict [] [] pos) sNewK :=
  ⟨PE.le pe_dnewK fun σ H Q ⟨S, G, si, h⟩ p hp => (VP.fin si h).new si.le hp ⟨[], upd_same, rfl, .nil⟩, hk⟩
theorem E_newT {pos : Pos} (hk : z.K = X.K) : E X z W (.Dict [] [] pos) sNewT :=
  ⟨PE.le pe_dnewT fun σ H Q ⟨S, G, si, h⟩ p hp => (VP.fin si h).new si.le hp ⟨[], upd_same, rfl, .nil⟩, hk⟩
end
end L2.Dl
/-! Statements: stores, tests, loops. -/
namespace L2.Dl
open PySem PySem.Spec PyProof.Rows

/-- what a body stands in -/
structure Ct (X : Cx) (z : Dx) (W : WX) : Prop where
  hk : z.K = X.K
  calm : X.calm = true
  hp : PassesOwn (model X.prog X.w) X.A X.env X.xe
  tk : Takes X W
  nd : X.N.Nodup
inductive Fl where
  | nx
  | bk
  | ct
  | rt (d : D) (fr : Bool)

section
variable {z : Dx} {W : WX} {S S1 : SS} {G G1 H H1 : Hp} {σ σ1 : L2.St} {Q : VK} {E1 E2 : Ends} {X : Cx}
def DenF (z : Dx) (S' : SS) (σ' : L2.St) (H' G' : Hp) (v : V) (d : D) : Bool → Prop
  | false => Rep z G' v d
  | true => ∃ p, v = .ref p ∧ z.B p = none ∧ G' p = none ∧ ¬ Owns S' σ' p ∧ OwnAt z G' H' p d
def PostS (z : Dx) (W : WX) (S : SS) (G H : Hp) (σ : L2.St) (D : Ends) : Res Fl → Prop
  | .ok .nx S' => ∀ σ' H' G', SI z S' σ' H' G' → Go S S' σ σ' H H' G G' → D.nx σ' H'
  | .ok .bk S' => ∀ σ' H' G', SI z S' σ' H' G' → Go S S' σ σ' H H' G G' → D.bk σ' H'
  | .ok .ct S' => ∀ σ' H' G', SI z S' σ' H' G' → Go S S' σ σ' H H' G G' → D.ct σ' H'
  | .ok (.rt d fr) S' => ∀ v σ' H' G', SI z S' σ' H' G' → Go S S' σ σ' H H' G G' → DenF z S' σ' H' G' v d fr → D.rt v H'
  | .ex c w S' => ∀ σ' H' G', SI z S' σ' H' G' → Go S S' σ σ' H H' G G' → WOk z W G' σ' H' c w
  | .no => False
def tDS (z : Dx) (W : WX) (f : M Fl) : TS := fun D σ H => ∃ S G, SI z S σ H G ∧ PostS z W S G H σ D (f S)
structure Sm (X : Cx) (z : Dx) (W : WX) (st : Stmt) (f : M Fl) : Prop where
  ps : PS X st (tDS z W f)
structure Sms (X : Cx) (z : Dx) (W : WX) (st : List Stmt) (f : M Fl) : Prop where
  ps : PSs X st (tDS z W f)
theorem PostS.from {r : Res Fl} (h : PostS z W S G H σ E1 r) (g : Go S S1 σ σ1 H H1 G G1) : PostS z W S1 G1 H1 σ1 E1 r := by
  cases r with
  | ok r S' =>
    cases r with
    | nx => exact fun σ' H' G' si g' => h σ' H' G' si (g.trans g')
    | bk => exact fun σ' H' G' si g' => h σ' H' G' si (g.trans g')
    | ct => exact fun σ' H' G' si g' => h σ' H' G' si (g.trans g')
    | rt d fr => exact fun v σ' H' G' si g' dn => h v σ' H' G' si (g.trans g') dn
  | ex c w S' => exact fun σ' H' G' si g' => h σ' H' G' si (g.trans g')
  | no => exact h
/-- an expression ahead of a statement's rest -/
theorem stepS {fa : M R} {k : R → SS → Res Fl} (si : SI z S σ H G) (h : PostS z W S G H σ E1 ((fa S).bind k)) :
    tD z W fa σ H fun x H1 => ∃ ra S1 G1, SI z S1 σ H1 G1 ∧ Go S S1 σ σ H H1 G G1 ∧ DenS z σ G1 x ra ∧ PostS z W S1 G1 H1 σ E1 (k ra S1) :=
  stepG (P := fun S G H r => PostS z W S G H σ E1 r) (fun h g => h.from g) (fun h H' G' si g => h σ H' G' si g) (fun h => h) si h
theorem stepTS {ft : M Bool} {k : Bool → SS → Res Fl} (si : SI z S σ H G) (h : PostS z W S G H σ E1 ((ft S).bind k)) :
    tDT z W ft σ H fun b H1 => ∃ S1 G1, SI z S1 σ H1 G1 ∧ Go S S1 σ σ H H1 G G1 ∧ PostS z W S1 G1 H1 σ E1 (k b S1) := by
  refine ⟨S, G, si, ?_⟩
  cases e : ft S with
  | ok b S1 =>
    rw [e] at h
    exact fun H1 G1 si1 g1 => ⟨S1, G1, si1, g1, PostS.from h g1⟩
  | ex c w S1 => rw [e] at h; exact fun H' G' si g => h σ H' G' si g
  | no => rw [e] at h; exact h

/-! ### blocks -/
def sSeq (f g : M Fl) : M Fl := fun S => (f S).bind fun fl S1 => match fl with
  | .nx => g S1
  | fl => .ok fl S1
def sNext : M Fl := fun S => .ok .nx S
theorem Ss_nil : Sms X z W [] sNext := ⟨PSs.le pss_nil fun D σ H ⟨S, G, si, h⟩ => h σ H G si .refl⟩
theorem Ss_one {st : Stmt} {f : M Fl} (h : Sm X z W st f) : Sms X z W [st] f := ⟨pss_one h.ps⟩
theorem Ss_cons {st : Stmt} {rest : List Stmt} {f g : M Fl} (h1 : Sm X z W st f) (h2 : Sms X z W rest g) : Sms X z W (st :: rest) (sSeq f g) := by
  refine ⟨PSs.le (pss_cons h1.ps h2.ps) fun D σ H ⟨S, G, si, h⟩ => ⟨S, G, si, ?_⟩⟩
  unfold sSeq at h
  cases e : f S with
  | ok fl S1 =>
    rw [e] at h
    cases fl with
    | nx => exact fun σ' H' G' si' g' => ⟨S1, G', si', PostS.from h g'⟩
    | bk => exact h
    | ct => exact h
    | rt d fr => exact h
  | ex c w S1 => rw [e] at h; exact h
  | no => rw [e] at h; exact h
theorem S_pass {pos : Pos} : Sm X z W (.Pass pos) sNext := ⟨PS.le ps_pass fun D σ H ⟨S, G, si, h⟩ => h σ H G si .refl⟩
def sBk : M Fl := fun S => .ok .bk S
def sCt : M Fl := fun S => .ok .ct S
theorem S_break {pos : Pos} : Sm X z W (.Break pos) sBk := ⟨PS.le ps_break fun D σ H ⟨S, G, si, h⟩ => h σ H G si .refl⟩
theorem S_continue {pos : Pos} : Sm X z W (.Continue pos) sCt := ⟨PS.le ps_continue fun D σ H ⟨S, G, si, h⟩ => h σ H G si .refl⟩
def sIfS (ft : M Bool) (f g : M Fl) : M Fl := fun S => (ft S).bind fun b S1 => if b = true then f S1 else g S1
theorem S_if {t : Expr} {a b : List Stmt} {pos : Pos} {ft : M Bool} {f g : M Fl} (ht : T X z W t ft) (ha : Sms X z W a f) (hb : Sms X z W b g) : Sm X z W (.If t a b pos) (sIfS ft f g) := by
  refine ⟨PS.le (ps_if ht.pt ha.ps hb.ps) fun D σ H ⟨S, G, si, h⟩ => ?_⟩
  refine (stepTS si h).mono fun c H1 ⟨S1, G1, si1, _, h1⟩ => ?_
  cases c with
  | true => rw [if_pos rfl] at h1 ⊢; exact ⟨S1, G1, si1, h1⟩
  | false => rw [if_neg Bool.false_ne_true] at h1 ⊢; exact ⟨S1, G1, si1, h1⟩
/-- code that is never reached -/
def sNever : M Fl := fun _ => .no
theorem S_never {st : Stmt} : Sm X z W st sNever := ⟨PS.le ps_never fun D σ H ⟨S, G, si, h⟩ => h⟩
theorem Ss_never {sts : List Stmt} : Sms X z W sts sNever := ⟨PSs.le pss_never fun D σ H ⟨S, G, si, h⟩ => h⟩
def sExpr (fa : M R) : M Fl := fun S => (fa S).bind fun _ S1 => .ok .nx S1
theorem S_expr {e : Expr} {pos : Pos} {fa : M R} (h : E X z W e fa) (hs : swapsWith e none pos.line X.env = pure false := by rfl) : Sm X z W (.Expr e pos) (sExpr fa) :=
  ⟨PS.le (ps_expr h.pe hs) fun D σ H ⟨S, G, si, h⟩ => (stepS si h).mono fun x H1 ⟨ra, S1, G1, si1, _, _, h1⟩ => h1 σ H1 G1 si1 .refl⟩

/-! ### slots -/
theorem SI.get_set {A : Type} {l : List A} {i j : Nat} {x w : A} (h : (l.set i x)[j]? = some w) : (j = i ∧ w = x) ∨ (j ≠ i ∧ l[j]? = some w) := by
  by_cases hj : j = i
  · subst hj
    by_cases hi : j < l.length
    · rw [List.getElem?_set_self hi] at h
      exact .inl ⟨rfl, (Option.some.inj h).symm⟩
    · rw [List.getElem?_eq_none (by simpa using hi)] at h; cases h
  · rw [List.getElem?_set_ne (Ne.symm hj)] at h
    exact .inr ⟨hj, h⟩
theorem set_get {A : Type} {l : List A} {i : Nat} {x w : A} (h : l[i]? = some w) : (l.set i x)[i]? = some x := List.getElem?_set_self (List.getElem?_eq_some_iff.mp h).1
/-- a slot is stored: the general form -/
theorem SI.store {i : Nat} {w : AV} {ov : Option V} (si : SI z S σ H G)
    (hw : match w with
      | .un => True
      | .shr d => ∃ v, ov = some v ∧ Rep z G v d
      | .own t d => ∃ a, ov = some (.ref a) ∧ G a = none ∧ OwnAt z G H a d ∧ (∀ j, t = some j → z.A[j]? = some a) ∧ (t = none → z.B a = none) ∧ ∀ (j : Nat) t' d', j ≠ i → S[j]? = some (.own t' d') → σ[j]? ≠ some (some (.ref a))) :
    SI z (S.set i w) (σ.set i ov) H G where
  len := by rw [List.length_set, List.length_set]; exact si.len
  le := si.le
  shr := fun j d h => by
    rcases SI.get_set h with ⟨rfl, e⟩ | ⟨hj, e⟩
    · subst e
      obtain ⟨v, rfl, r⟩ := hw
      have hi : j < S.length := by have := (List.getElem?_eq_some_iff.mp h).1; simpa using this
      exact ⟨v, List.getElem?_set_self (by rw [← si.len]; exact hi), r⟩
    · obtain ⟨v, q, r⟩ := si.shr j d e
      exact ⟨v, by rw [List.getElem?_set_ne (Ne.symm hj)]; exact q, r⟩
  own := fun j t d h => by
    rcases SI.get_set h with ⟨rfl, e⟩ | ⟨hj, e⟩
    · subst e
      obtain ⟨a, rfl, g, o, t1, t2, _⟩ := hw
      have hi : j < S.length := by have := (List.getElem?_eq_some_iff.mp h).1; simpa using this
      exact ⟨a, List.getElem?_set_self (by rw [← si.len]; exact hi), g, o, t1, t2⟩
    · obtain ⟨a, q, r⟩ := si.own j t d e
      exact ⟨a, by rw [List.getElem?_set_ne (Ne.symm hj)]; exact q, r⟩
  sep := fun j k tj dj tk dk a h1 h2 h3 h4 => by
    rcases SI.get_set h1 with ⟨e1, f1⟩ | ⟨hj, f1⟩
    · rcases SI.get_set h2 with ⟨e2, f2⟩ | ⟨hk, f2⟩
      · exact e1.trans e2.symm
      · subst e1; subst f1
        obtain ⟨b, eb, g, o, t1, t2, no⟩ := hw
        have hi : j < S.length := by have := (List.getElem?_eq_some_iff.mp h1).1; simpa using this
        rw [List.getElem?_set_self (by rw [← si.len]; exact hi)] at h3
        rw [List.getElem?_set_ne (Ne.symm hk)] at h4
        rw [eb] at h3; cases h3
        exact absurd h4 (no k _ _ hk f2)
    · rcases SI.get_set h2 with ⟨e2, f2⟩ | ⟨hk, f2⟩
      · subst e2; subst f2
        obtain ⟨b, eb, g, o, t1, t2, no⟩ := hw
        have hi : k < S.length := by have := (List.getElem?_eq_some_iff.mp h2).1; simpa using this
        rw [List.getElem?_set_self (by rw [← si.len]; exact hi)] at h4
        rw [List.getElem?_set_ne (Ne.symm hj)] at h3
        rw [eb] at h4; cases h4
        exact absurd h3 (no j _ _ hj f1)
      · rw [List.getElem?_set_ne (Ne.symm hj)] at h3
        rw [List.getElem?_set_ne (Ne.symm hk)] at h4
        exact si.sep j k _ _ _ _ a f1 f2 h3 h4
  dom := si.dom
  tab := si.tab
theorem SI.setV {i : Nat} {v : V} {d : D} (si : SI z S σ H G) (r : Rep z G v d) : SI z (S.set i (.shr d)) (σ.set i (some v)) H G ∧ Go S (S.set i (.shr d)) σ (σ.set i (some v)) H H G G := by
  refine ⟨si.store ⟨v, rfl, r⟩, .refl _, fun _ _ h _ => .inl h, fun a ⟨j, t, d', h1, h2⟩ => ?_, fun _ _ h => .inl h, fun _ h => h⟩
  rcases SI.get_set h1 with ⟨_, e⟩ | ⟨hj, e⟩
  · cases e
  · rw [List.getElem?_set_ne (Ne.symm hj)] at h2
    exact .inl ⟨j, t, d', e, h2⟩
theorem SI.setU {i : Nat} (si : SI z S σ H G) : SI z (S.set i .un) σ H G ∧ Go S (S.set i .un) σ σ H H G G := by
  refine ⟨⟨by rw [List.length_set]; exact si.len, si.le, fun j d h => ?_, fun j t d h => ?_, fun j k tj dj tk dk a h1 h2 h3 h4 => ?_, si.dom, si.tab⟩, .refl _, fun _ _ h _ => .inl h, fun a ⟨j, t, d', h1, h2⟩ => ?_, fun _ _ h => .inl h, fun _ h => h⟩
  · rcases SI.get_set h with ⟨_, e⟩ | ⟨_, e⟩
    · cases e
    · exact si.shr j d e
  · rcases SI.get_set h with ⟨_, e⟩ | ⟨_, e⟩
    · cases e
    · exact si.own j t d e
  · rcases SI.get_set h1 with ⟨_, e⟩ | ⟨_, e⟩
    · cases e
    · rcases SI.get_set h2 with ⟨_, e2⟩ | ⟨_, e2⟩
      · cases e2
      · exact si.sep j k _ _ _ _ a e e2 h3 h4
  · rcases SI.get_set h1 with ⟨_, e⟩ | ⟨_, e⟩
    · cases e
    · exact .inl ⟨j, t, d', e, h2⟩
/-- name = value -/
def setR (S : SS) (i : Nat) : R → Option SS
  | .v d => some (S.set i (.shr d))
  | .f d => some (S.set i (.own none d))
  | .at j => match S[j]? with
    | some (.shr d) => some (S.set i (.shr d))
    | some (.own t d) => some ((S.set j (.shr d)).set i (.shr d))
    | _ => none
theorem setR_run {i : Nat} {v : V} {r : R} {S' S2 : SS} {H' G' : Hp} (si : SI z S' σ H' G') (g : Go S S' σ σ H H' G G') (dn : Den z S' σ H H' G' v r) (sB : ∀ a, H a = none → z.B a = none) (e : setR S' i r = some S2) :
    ∃ G2, SI z S2 (σ.set i (some v)) H' G2 ∧ Go S S2 σ (σ.set i (some v)) H H' G G2 := by
  cases r with
  | v d =>
    cases e
    obtain ⟨s1, g1⟩ := si.setV (i := i) (v := v) (d := d) dn
    exact ⟨G', s1, g.trans g1⟩
  | f d =>
    cases e
    obtain ⟨p, rfl, h1, h2, h3, h4⟩ := dn
    refine ⟨G', si.store ⟨p, rfl, h2, h4, (fun j q => nomatch q), fun _ => sB p h1, fun j t d' hj e e2 => h3 ⟨j, t, d', e, e2⟩⟩, g.ge, g.fr, fun a ⟨j, t, d', q1, q2⟩ => ?_, g.nw, g.th⟩
    rcases SI.get_set q1 with ⟨rfl, e⟩ | ⟨hj, e⟩
    · cases e
      have hi : j < S'.length := by have := (List.getElem?_eq_some_iff.mp q1).1; simpa using this
      rw [List.getElem?_set_self (by rw [← si.len]; exact hi)] at q2
      cases q2
      exact .inr h1
    · rw [List.getElem?_set_ne (Ne.symm hj)] at q2
      exact g.ow a ⟨j, t, d', e, q2⟩
  | «at» j =>
    have dn : σ[j]? = some (some v) := dn
    unfold setR at e
    simp only at e
    split at e
    · rename_i d e1
      cases e
      obtain ⟨v', e2, r⟩ := si.shr j _ e1
      rw [dn] at e2; cases e2
      obtain ⟨s1, g1⟩ := si.setV (i := i) r
      exact ⟨G', s1, g.trans g1⟩
    · rename_i t d e1
      cases e
      obtain ⟨a, e2, _⟩ := si.own j _ _ e1
      rw [dn] at e2; cases e2
      obtain ⟨G2, s2, g2, r2⟩ := si.freeze1 e1 dn
      obtain ⟨s3, g3⟩ := s2.setV (i := i) r2
      exact ⟨G2, s3, (g.trans g2).trans g3⟩
    · cases e
def nxt (r : Option SS) : Res Fl := match r with
  | some S => .ok .nx S
  | none => .no
def sAsg (i : Nat) (fa : M R) : M Fl := fun S => (fa S).bind fun ra S1 => nxt (setR S1 i ra)
/-- an expression, its result as it comes -/
theorem raw {α : Type} {P : Res α → Prop} {fa : M R} {k : R → SS → Res α} (si : SI z S σ H G) (h : P ((fa S).bind k)) (no : ¬ P .no) (exc : ∀ {c w S1}, P (.ex c w S1) → ∀ H' G', SI z S1 σ H' G' → Go S S1 σ σ H H' G G' → WOk z W G' σ H' c w) :
    tD z W fa σ H fun x H1 => ∃ ra S1 G1, SI z S1 σ H1 G1 ∧ Go S S1 σ σ H H1 G G1 ∧ Den z S1 σ H H1 G1 x ra ∧ P (k ra S1) := by
  refine ⟨S, G, si, ?_⟩
  cases e : fa S with
  | ok ra S1 =>
    rw [e] at h
    exact fun v H1 G1 si1 g1 dn => ⟨ra, S1, G1, si1, g1, dn, h⟩
  | ex c w S1 => rw [e] at h; exact exc h
  | no => rw [e] at h; exact (no h).elim
theorem sAsg_run {i : Nat} {fa : M R} {D : Ends} (si : SI z S σ H G) (h : PostS z W S G H σ D (sAsg i fa S)) : tD z W fa σ H fun x H1 => D.nx (σ.set i (some x)) H1 := by
  refine (raw (P := PostS z W S G H σ D) si h (fun h => h) (fun h H' G' si g => h σ H' G' si g)).mono fun x H1 ⟨ra, S1, G1, si1, g1, dn, h1⟩ => ?_
  cases e : setR S1 i ra with
  | none => rw [e] at h1; exact h1.elim
  | some S2 =>
    rw [e] at h1
    obtain ⟨G2, s2, g2⟩ := setR_run si1 g1 dn si.dom e
    exact h1 _ H1 G2 s2 g2
theorem S_set {i : Nat} {x : Str} {e : Expr} {fa : M R} {pos pos' : Pos} (c : Ct X z W) (hi : X.N[i]? = some x) (hx : Loc X.env.scope x) (he : E X z W e fa) (hs : swapsWith e (some (.Name x pos')) pos.line X.env = pure false := by rfl)
    (hf : X.fn x = true ∨ X.env.scope.names.lookup x = some .local := by first | exact .inl rfl | exact .inr rfl | assumption) : Sm X z W (.Assign [.Name x pos'] e pos) (sAsg i fa) :=
  ⟨PS.le (ps_set c.nd hi hx he.pe hs hf) fun D σ H ⟨S, G, si, h⟩ => sAsg_run si h⟩
/-- return -/
def retR (S : SS) : R → Option (D × Bool × SS)
  | .v d => some (d, false, S)
  | .f d => some (d, true, S)
  | .at i => match S[i]? with
    | some (.shr d) => some (d, false, S)
    | some (.own none d) => some (d, true, S.set i .un)
    | _ => none
def sRet (fa : M R) : M Fl := fun S => (fa S).bind fun ra S1 => match retR S1 ra with
  | some (d, fr, S2) => .ok (.rt d fr) S2
  | none => .no
theorem S_ret {e : Expr} {fa : M R} {pos : Pos} (he : E X z W e fa) : Sm X z W (.Return (some e) pos) (sRet fa) := by
  refine ⟨PS.le (ps_ret he.pe) fun D σ H ⟨S, G, si, h⟩ => ?_⟩
  refine (raw (P := PostS z W S G H σ D) si h (fun h => h) (fun h H' G' si g => h σ H' G' si g)).mono fun x H1 ⟨ra, S1, G1, si1, g1, dn, h1⟩ => ?_
  cases e : retR S1 ra with
  | none => rw [e] at h1; exact h1.elim
  | some p =>
    obtain ⟨d, fr, S2⟩ := p
    rw [e] at h1
    have h1 : PostS z W S G H σ D (.ok (.rt d fr) S2) := h1
    cases ra with
    | v d' => cases e; exact h1 x σ H1 G1 si1 g1 dn
    | f d' =>
      cases e
      obtain ⟨p, ep, q1, q2, q3, q4⟩ := dn
      exact h1 x σ H1 G1 si1 g1 ⟨p, ep, si.dom p q1, q2, q3, q4⟩
    | «at» i =>
      have dn : σ[i]? = some (some x) := dn
      unfold retR at e
      simp only at e
      split at e
      · rename_i d' e1
        cases e
        obtain ⟨v', e2, r⟩ := si1.shr i _ e1
        rw [dn] at e2; cases e2
        exact h1 x σ H1 G1 si1 g1 r
      · rename_i d' e1
        cases e
        obtain ⟨a, e2, ga, ow, _, t2⟩ := si1.own i _ _ e1
        rw [dn] at e2; cases e2
        obtain ⟨s2, g2⟩ := si1.setU (i := i)
        refine h1 _ σ H1 G1 s2 (g1.trans g2) ⟨a, rfl, t2 rfl, ga, fun ⟨j, t, d', q1, q2⟩ => ?_, ow⟩
        rcases SI.get_set q1 with ⟨_, e3⟩ | ⟨hj, e3⟩
        · cases e3
        · exact hj (si1.sep j i _ _ _ _ a e3 e1 q2 dn)
      · cases e
def sRetN : M Fl := fun S => .ok (.rt .non false) S
theorem S_retN {pos : Pos} : Sm X z W (.Return none pos) sRetN := ⟨PS.le ps_retN fun D σ H ⟨S, G, si, h⟩ => h .non σ H G si .refl .non⟩

/-! ### targets -/
def gD (z : Dx) (ix : List Nat) (g : D → SS → Option SS) : TG := fun v σ H Q => ∃ S G d S', SI z S σ H G ∧ Rep z G v d ∧ g d S = some S' ∧ ∀ σ' H' G', SI z S' σ' H' G' → Go S S' σ σ' H H' G G' → ((∀ j : Nat, j ∉ ix → σ'[j]? = σ[j]?) ∧ σ'.length = σ.length) → Q σ' H'
structure Tg (X : Cx) (z : Dx) (tg : Expr) (ix : List Nat) (g : D → SS → Option SS) : Prop where
  pg : PG X tg (gD z ix g)
theorem PG.le {tg : Expr} {t t' : TG} (h : PG X tg t) (w : ∀ v σ H Q, t' v σ H Q → t v σ H Q) : PG X tg t' := ⟨fun pins s σ H v u Q I r q => h.run pins s σ H v u Q I r (w v σ H Q q)⟩
def tNm (i : Nat) : D → SS → Option SS := fun d S => some (S.set i (.shr d))
theorem Tg_nm {i : Nat} {x : Str} {pos : Pos} (nd : X.N.Nodup) (hi : X.N[i]? = some x) (hx : Loc X.env.scope x) (hf : X.fn x = true ∨ X.env.scope.names.lookup x = some .local := by first | exact .inl rfl | exact .inr rfl | assumption) :
    Tg X z (.Name x pos) [i] (tNm i) := by
  refine ⟨PG.le (pg_name nd hi hx hf) fun v σ H Q ⟨S, G, d, S', si, r, e, q⟩ => ?_⟩
  cases e
  obtain ⟨s1, g1⟩ := si.setV (i := i) r
  exact q _ H G s1 g1 ⟨fun j hj => List.getElem?_set_ne (fun e => hj (by rw [e]; exact List.mem_cons_self)), List.length_set⟩
def gDs (z : Dx) (ix : List Nat) (g : List D → SS → Option SS) : TGs := fun vs σ H Q => ∃ S G ds S', SI z S σ H G ∧ RepL z G vs ds ∧ g ds S = some S' ∧ ∀ σ' H' G', SI z S' σ' H' G' → Go S S' σ σ' H H' G G' → ((∀ j : Nat, j ∉ ix → σ'[j]? = σ[j]?) ∧ σ'.length = σ.length) → Q σ' H'
structure Tgs (X : Cx) (z : Dx) (tg : List Expr) (ix : List Nat) (g : List D → SS → Option SS) : Prop where
  pg : PGs X tg (gDs z ix g)
theorem PGs.le {tg : List Expr} {t t' : TGs} (h : PGs X tg t) (w : ∀ v σ H Q, t' v σ H Q → t v σ H Q) : PGs X tg t' := ⟨fun pins s σ H v u Q I r q => h.run pins s σ H v u Q I r (w v σ H Q q)⟩
def tNil : List D → SS → Option SS
  | [], S => some S
  | _ :: _, _ => none
def tCons (g : D → SS → Option SS) (gs : List D → SS → Option SS) : List D → SS → Option SS
  | [], _ => none
  | d :: ds, S => match g d S with
    | none => none
    | some S1 => gs ds S1
theorem Tgs_nil : Tgs X z [] [] tNil := by
  refine ⟨PGs.le pgs_nil fun vs σ H Q ⟨S, G, ds, S', si, r, e, q⟩ => ?_⟩
  cases ds with
  | nil =>
    cases r
    cases e
    exact ⟨rfl, q σ H G si .refl ⟨fun _ _ => rfl, rfl⟩⟩
  | cons _ _ => cases e
theorem Tgs_cons {e : Expr} {es : List Expr} {ix iy : List Nat} {g : D → SS → Option SS} {gs : List D → SS → Option SS} (h1 : Tg X z e ix g) (h2 : Tgs X z es iy gs)
    (hs : (assignEach (e :: es) X.env).map (·.2) = assign e X.env :: (assignEach es X.env).map (·.2) := by rfl) : Tgs X z (e :: es) (ix ++ iy) (tCons g gs) := by
  refine ⟨PGs.le (pgs_cons h1.pg h2.pg hs) fun vs σ H Q ⟨S, G, ds, S', si, r, e, q⟩ => ?_⟩
  cases ds with
  | nil => cases e
  | cons d ds =>
    cases r with
    | cons r1 r2 =>
      have e : (match g d S with | none => none | some S1 => gs ds S1) = some S' := e
      cases e1 : g d S with
      | none => rw [e1] at e; cases e
      | some S1 =>
        rw [e1] at e
        exact ⟨_, _, rfl, S, G, d, S1, si, r1, e1, fun σ' H' G' si' g' k' => ⟨S1, G', ds, S', si', r2.mono g'.ge, e, fun σ2 H2 G2 si2 g2 k2 => q σ2 H2 G2 si2 (g'.trans g2) ⟨fun j hj => (k2.1 j fun h => hj (List.mem_append_right _ h)).trans (k'.1 j fun h => hj (List.mem_append_left _ h)), k2.2.trans k'.2⟩⟩⟩
def tTupT (n : Nat) (gs : List D → SS → Option SS) : D → SS → Option SS
  | .tup ds, S => if ds.length = n then gs ds S else none
  | _, _ => none
theorem Tg_tup {es : List Expr} {k : Nat} {n : Nat} {pos : Pos} {ix : List Nat} {gs : List D → SS → Option SS} (hk : z.K = X.K) (calm : X.calm = true) (h : Tgs X z es ix gs) (hn : (assignEach es X.env).length = n := by rfl) (hst : (assignEach es X.env).findIdx? (·.1) = none := by rfl) :
    Tg X z (.Tuple es k pos) ix (tTupT n gs) := by
  refine ⟨PG.le (pg_tup calm h.pg hn hst) fun v σ H Q ⟨S, G, d, S', si, r, e, q⟩ => ?_⟩
  cases d with
  | tup ds =>
    have e : (if ds.length = n then gs ds S else none) = some S' := e
    by_cases hl : ds.length = n
    · rw [if_pos hl] at e
      cases r with
      | tup e1 rl =>
        rw [hk] at e1
        exact ⟨_, _, rfl, si.le.sqT e1, by rw [rl.length]; exact hl, S, G, ds, S', si, rl, e, q⟩
    · rw [if_neg hl] at e; cases e
  | _ => cases e
/-- target = value, shared -/
def sAsgT (g : D → SS → Option SS) (fa : M R) : M Fl := fun S => (fa S).bind fun ra S1 => match valR S1 ra with
  | none => .no
  | some (d, S2) => nxt (g d S2)
theorem S_asgT {tg e : Expr} {ix : List Nat} {g : D → SS → Option SS} {fa : M R} {pos : Pos} (he : E X z W e fa) (hg : Tg X z tg ix g) (hs : swapsWithSole [tg] e pos.line X.env = pure false := by rfl) (hw : swappedStores [tg] e X.env = pure none := by rfl)
    (h1 : (assignEach [tg] X.env).map (·.2) = [assign tg X.env] := by rfl) : Sm X z W (.Assign [tg] e pos) (sAsgT g fa) := by
  refine ⟨PS.le (ps_asg he.pe hg.pg hs hw h1) fun D σ H ⟨S, G, si, h⟩ => ?_⟩
  refine (stepS si h).mono fun x H1 ⟨ra, S1, G1, si1, _, dn, h1⟩ => ?_
  cases e : valR S1 ra with
  | none => rw [e] at h1; exact h1.elim
  | some p =>
    obtain ⟨d, S2⟩ := p
    rw [e] at h1
    have h1 : PostS z W S1 G1 H1 σ D (nxt (g d S2)) := h1
    obtain ⟨G2, si2, g2, r2⟩ := valR_run si1 dn e
    cases e2 : g d S2 with
    | none => rw [e2] at h1; exact h1.elim
    | some S3 =>
      rw [e2] at h1
      exact ⟨S2, G2, d, S3, si2, r2, e2, fun σ' H' G' si' g' _ => h1 σ' H' G' si' (g2.trans g')⟩

/-! ### what is walked -/
structure WalkD (z : Dx) (J : It) (ds : List D) (S : SS) (σ : L2.St) (H G : Hp) : Prop where
  ex : ∃ (Gd : Hp → Prop) (Y : Nat → Hp → V → Hp → Prop), Walk J ds.length Gd Y ∧ (∀ H', (∀ a o, H a = some o → ¬ Wk o → ¬ Owns S σ a → H' a = some o) → Gd H') ∧
    ∀ i d Hc x H' Gc, ds[i]? = some d → GLe G Gc → LeH Gc Hc → Y i Hc x H' → ∃ G', Ext Hc H' Gc G' ∧ Rep z G' x d
def PostI (z : Dx) (W : WX) (S : SS) (G H : Hp) (σ : L2.St) (Q : It → Hp → Prop) : Res (List D) → Prop
  | .ok ds S' => ∀ J H' G', SI z S' σ H' G' → Go S S' σ σ H H' G G' → WalkD z J ds S' σ H' G' → Q J H'
  | .ex c w S' => ∀ H' G', SI z S' σ H' G' → Go S S' σ σ H H' G G' → WOk z W G' σ H' c w
  | .no => False
def tDI (z : Dx) (W : WX) (f : M (List D)) : TI := fun σ H Q => ∃ S G, SI z S σ H G ∧ PostI z W S G H σ Q (f S)
structure IT (X : Cx) (z : Dx) (W : WX) (tg e : Expr) (f : M (List D)) : Prop where
  pi : PI X tg e (tDI z W f)
theorem PostI.from {QI : It → Hp → Prop} {r : Res (List D)} (h : PostI z W S G H σ QI r) (g : Go S S1 σ σ H H1 G G1) : PostI z W S1 G1 H1 σ QI r := by
  cases r with
  | ok r S' => exact fun J H' G' si g' => h J H' G' si (g.trans g')
  | ex c w S' => exact fun H' G' si g' => h H' G' si (g.trans g')
  | no => exact h
theorem PI.le {tg e : Expr} {t t' : TI} (h : PI X tg e t) (w : ∀ σ H Q, t' σ H Q → t σ H Q) : PI X tg e t' := ⟨fun pins s σ H Q I q => h.run pins s σ H Q I (w σ H Q q)⟩
theorem PI.or {tg e : Expr} {t t' : TI} (h : PI X tg e t) (h' : PI X tg e t') : PI X tg e (fun σ H Q => t σ H Q ∨ t' σ H Q) := ⟨fun pins s σ H Q I q => q.elim (h.run pins s σ H Q I) (h'.run pins s σ H Q I)⟩
theorem stepI {fa : M R} {k : R → SS → Res (List D)} {QI : It → Hp → Prop} (si : SI z S σ H G) (h : PostI z W S G H σ QI ((fa S).bind k)) :
    tD z W fa σ H fun x H1 => ∃ ra S1 G1, SI z S1 σ H1 G1 ∧ Go S S1 σ σ H H1 G G1 ∧ DenS z σ G1 x ra ∧ PostI z W S1 G1 H1 σ QI (k ra S1) :=
  stepG (P := fun S G H r => PostI z W S G H σ QI r) (fun h g => h.from g) (fun h => h) (fun h => h) si h

/-! ### for -/
def forL (g : D → SS → Option SS) (body : M Fl) : List D → M Fl
  | [], S => .ok .nx S
  | d :: ds, S => match g d S with
    | none => .no
    | some S1 => (body S1).bind fun fl S2 => match fl with
      | .nx => forL g body ds S2
      | .ct => forL g body ds S2
      | .bk => .ok .nx S2
      | .rt d fr => .ok (.rt d fr) S2
def sFor (fi : M (List D)) (g : D → SS → Option SS) (body : M Fl) : M Fl := fun S => (fi S).bind fun ds S1 => forL g body ds S1
theorem drop_get {A : Type} {l : List A} {i : Nat} {d : A} (h : l[i]? = some d) : l.drop i = d :: l.drop (i + 1) := by
  obtain ⟨hi, e⟩ := List.getElem?_eq_some_iff.mp h
  rw [List.drop_eq_getElem_cons hi, e]
theorem for_run {J : It} {ds : List D} {ix : List Nat} {g : D → SS → Option SS} {body : M Fl} {D : Ends} (si : SI z S σ H G) (w : WalkD z J ds S σ H G) (h : PostS z W S G H σ D (forL g body ds S)) :
    ∃ W' : Nat → Nat → L2.St → Hp → Prop, (∃ m, W' 0 m σ H) ∧ ∀ i m σ H, W' i m σ H →
      (J.stop i H ∧ D.nx σ H) ∨ (J.go i H ∧ ∃ N : L2.St → Hp → Prop, (∀ σ' H', N σ' H' → ∃ m', m' < m ∧ W' (i + 1) m' σ' H') ∧ ∀ x H', J.yld i H x H' → gD z ix g x σ H' fun σ2 H2 => tDS z W body { D with nx := N, ct := N, bk := D.nx } σ2 H2) := by
  obtain ⟨Gd, Y, wk, stay, yl⟩ := w.ex
  refine for_it wk (g := gD z ix g) (tb := tDS z W body) (fun i σ' H' => ∃ S' G', SI z S' σ' H' G' ∧ Go S S' σ σ' H H' G G' ∧ PostS z W S' G' H' σ' D (forL g body (ds.drop i) S')) ⟨S, G, si, .refl, h⟩
    (fun i σ' H' _ ⟨S', G', si', g', _⟩ => stay H' fun a o h k n => (g'.fr a o h n).eq k) ?_ ?_
  · rintro i x σ' H1 H2 hi ⟨S', G', si', g', p⟩ y
    have hd : ds[i]? = some ds[i] := by simp [hi]
    obtain ⟨G2, ex, r⟩ := yl i _ H1 x H2 G' hd g'.ge si'.le y
    rw [drop_get hd] at p
    have p : PostS z W S' G' H1 σ' D (match g ds[i] S' with | none => .no | some S1 => (body S1).bind fun fl S2 => match fl with
      | .nx => forL g body (ds.drop (i + 1)) S2
      | .ct => forL g body (ds.drop (i + 1)) S2
      | .bk => .ok .nx S2
      | .rt d fr => .ok (.rt d fr) S2) := p
    cases e : g ds[i] S' with
    | none => rw [e] at p; exact p.elim
    | some S2 =>
      rw [e] at p
      have p := PostS.from p (ex.go (S := S') (σ := σ'))
      have g2 := g'.trans (ex.go (S := S') (σ := σ'))
      refine ⟨S', G2, _, S2, si'.ext ex, r, e, fun σ3 H3 G3 si3 g3 _ => ⟨S2, G3, si3, ?_⟩⟩
      have p := PostS.from p g3
      have g3' := g2.trans g3
      have p : PostS z W S2 G3 H3 σ3 D ((body S2).bind fun fl S2 => match fl with
        | .nx => forL g body (ds.drop (i + 1)) S2
        | .ct => forL g body (ds.drop (i + 1)) S2
        | .bk => .ok .nx S2
        | .rt d fr => .ok (.rt d fr) S2) := p
      cases eb : body S2 with
      | ok fl S4 =>
        rw [eb] at p
        cases fl with
        | nx => exact fun σ4 H4 G4 si4 g4 => ⟨S4, G4, si4, g3'.trans g4, PostS.from p g4⟩
        | ct => exact fun σ4 H4 G4 si4 g4 => ⟨S4, G4, si4, g3'.trans g4, PostS.from p g4⟩
        | bk => exact fun σ4 H4 G4 si4 g4 => p σ4 H4 G4 si4 g4
        | rt d fr => exact p
      | ex c w S4 => rw [eb] at p; exact p
      | no => rw [eb] at p; exact p
  · rintro σ' H' ⟨S', G', si', g', p⟩
    rw [List.drop_length] at p
    exact p σ' H' G' si' .refl
theorem tFor_run {fi : M (List D)} {ix : List Nat} {g : D → SS → Option SS} {body : M Fl} {D : Ends} (h : tDS z W (sFor fi g body) D σ H) : tFor (tDI z W fi) (gD z ix g) (tDS z W body) D σ H := by
  obtain ⟨S, G, si, h⟩ := h
  refine ⟨S, G, si, ?_⟩
  unfold sFor at h
  cases e : fi S with
  | ok ds S1 =>
    rw [e] at h
    exact fun J H1 G1 si1 g1 w => for_run si1 w (PostS.from h g1)
  | ex c w S1 => rw [e] at h; exact fun H' G' si g => h σ H' G' si g
  | no => rw [e] at h; exact h
theorem S_for {tg iter : Expr} {body : List Stmt} {pos : Pos} {fi : M (List D)} {ix : List Nat} {g : D → SS → Option SS} {fb : M Fl} (c : Ct X z W) (hi : IT X z W tg iter fi) (hg : Tg X z tg ix g) (hb : Sms X z W body fb)
    (hs : ∀ x, foldedSetIterable iter X.env x = pure x := by intro _; rfl) : Sm X z W (.For tg iter body [] pos) (sFor fi g fb) :=
  ⟨PS.le (ps_for c.hp c.calm hi.pi hg.pg hb.ps hs) fun D σ H h => tFor_run h⟩

/-! ### while -/
def whileN (ft : M Bool) (body : M Fl) : Nat → M Fl
  | 0, _ => .no
  | n + 1, S => (ft S).bind fun b S1 => if b = true then (body S1).bind fun fl S2 => match fl with
      | .nx => whileN ft body n S2
      | .ct => whileN ft body n S2
      | .bk => .ok .nx S2
      | .rt d fr => .ok (.rt d fr) S2
    else .ok .nx S1
theorem S_while (n : Nat) {t : Expr} {body : List Stmt} {pos : Pos} {ft : M Bool} {fb : M Fl} (c : Ct X z W) (ht : T X z W t ft) (hb : Sms X z W body fb) : Sm X z W (.While t body [] pos) (whileN ft fb n) := by
  refine ⟨PS.le (ps_while c.hp ht.pt hb.ps) fun D σ H ⟨S, G, si, h⟩ => ?_⟩
  refine ⟨fun m σ' H' => ∃ S' G', SI z S' σ' H' G' ∧ PostS z W S' G' H' σ' D (whileN ft fb m S'), ⟨n, S, G, si, h⟩, ?_⟩
  rintro m σ1 H1 ⟨S1, G1, si1, p⟩
  cases m with
  | zero => exact p.elim
  | succ m =>
    refine (stepTS (k := fun b S1 => if b = true then (fb S1).bind fun fl S2 => match fl with
      | .nx => whileN ft fb m S2
      | .ct => whileN ft fb m S2
      | .bk => .ok .nx S2
      | .rt d fr => .ok (.rt d fr) S2
    else .ok .nx S1) si1 p).mono fun b H2 ⟨S2, G2, si2, _, p2⟩ => ?_
    cases b with
    | false =>
      rw [if_neg Bool.false_ne_true] at p2 ⊢
      exact p2 σ1 H2 G2 si2 .refl
    | true =>
      rw [if_pos rfl] at p2 ⊢
      refine ⟨fun σ' H' => ∃ S' G', SI z S' σ' H' G' ∧ PostS z W S' G' H' σ' D (whileN ft fb m S'), fun σ' H' q => ⟨m, Nat.lt_succ_self _, q⟩, S2, G2, si2, ?_⟩
      cases eb : fb S2 with
      | ok fl S4 =>
        rw [eb] at p2
        cases fl with
        | nx => exact fun σ4 H4 G4 si4 g4 => ⟨S4, G4, si4, PostS.from p2 g4⟩
        | ct => exact fun σ4 H4 G4 si4 g4 => ⟨S4, G4, si4, PostS.from p2 g4⟩
        | bk => exact fun σ4 H4 G4 si4 g4 => p2 σ4 H4 G4 si4 g4
        | rt d fr => exact p2
      | ex c w S4 => rw [eb] at p2; exact p2
      | no => rw [eb] at p2; exact p2
end
end L2.Dl
/-! Defs: what they promise of data, and their calls. -/
namespace L2.Dl
open PySem PySem.Spec PyProof.Rows

mutual
theorem Rep.to {z z' : Dx} {G : Hp} (hK : z.K = z'.K) (hc : z.cl = z'.cl) : ∀ {v : V} {d : D}, Rep z G v d → Rep z' G v d
  | _, _, .non => .non
  | _, _, .bl b => .bl b
  | _, _, .int i => .int i
  | _, _, .str s => .str s
  | _, _, .lst e r => .lst e (RepL.to hK hc r)
  | _, _, .tup e r => .tup (by rw [← hK]; exact e) (RepL.to hK hc r)
  | _, _, .dct e k r => .dct e k (RepL.to hK hc r)
  | _, _, .dtt e k r => .dtt e k (RepL.to hK hc r)
  | _, _, .scr e => .scr (by rw [← hK]; exact e)
  | _, _, .ins e k r => .ins (by rw [← hc]; exact e) k (RepL.to hK hc r)
theorem RepL.to {z z' : Dx} {G : Hp} (hK : z.K = z'.K) (hc : z.cl = z'.cl) : ∀ {vs : List V} {ds : List D}, RepL z G vs ds → RepL z' G vs ds
  | _, _, .nil => .nil
  | _, _, .cons r t => .cons (Rep.to hK hc r) (RepL.to hK hc t)
end
theorem OwnAt.to {z z' : Dx} {G H : Hp} {a : Addr} {d : D} (hK : z.K = z'.K) (hc : z.cl = z'.cl) (h : OwnAt z G H a d) : OwnAt z' G H a d := by
  cases d with
  | lst l => obtain ⟨xs, e, r⟩ := h; exact ⟨xs, e, r.to hK hc⟩
  | dct l => obtain ⟨vs, e, k, r⟩ := h; exact ⟨vs, e, k, r.to hK hc⟩
  | dtt l => obtain ⟨vs, e, k, r⟩ := h; exact ⟨vs, e, k, r.to hK hc⟩
  | ins c l => obtain ⟨dx, vs, e, k, r⟩ := h; exact ⟨dx, vs, by rw [← hc]; exact e, k, r.to hK hc⟩
  | _ => exact h.elim

theorem Rep.ab {K : PySem.W.Frag} {cl : Brings} {A A' : List Addr} {B B' : Hp} {G : Hp} {v : V} {d : D} (h : Rep ⟨K, cl, A, B⟩ G v d) : Rep ⟨K, cl, A', B'⟩ G v d := Rep.to (z := ⟨K, cl, A, B⟩) (z' := ⟨K, cl, A', B'⟩) rfl rfl h
theorem OwnAt.ab {K : PySem.W.Frag} {cl : Brings} {A A' : List Addr} {B B' : Hp} {G H : Hp} {a : Addr} {d : D} (h : OwnAt ⟨K, cl, A, B⟩ G H a d) : OwnAt ⟨K, cl, A', B'⟩ G H a d := OwnAt.to (z := ⟨K, cl, A, B⟩) (z' := ⟨K, cl, A', B'⟩) rfl rfl h

/-- the end of a def: a value (new or shared) with the data of the objects that came to be changed; an own exception -/
inductive FR where
  | ret (d : D) (fr : Bool) (io : List D)
  | ex (c : Nat) (w : D) (io : List D)
  | no
/-- the arguments: shared, or (true) an object to be changed -/
inductive Args (z : Dx) (G H : Hp) : List Bool → List V → List D → Prop
  | nil : Args z G H [] [] []
  | shr {ms v vs d ds} : Rep z G v d → Args z G H ms vs ds → Args z G H (false :: ms) (v :: vs) (d :: ds)
  | own {ms a vs d ds} : G a = none → OwnAt z G H a d → Args z G H ms vs ds → Args z G H (true :: ms) (.ref a :: vs) (d :: ds)
def ios : List Bool → List V → List Addr
  | true :: ms, .ref a :: vs => a :: ios ms vs
  | _ :: ms, _ :: vs => ios ms vs
  | _, _ => []
abbrev OwnsL (z : Dx) (G H : Hp) : List Addr → List D → Prop := Paired fun a d => OwnAt z G H a d
/-- around a call: As are changed, new objects are laid, nothing else -/
structure Around' (As : List Addr) (H H' G G' : Hp) : Prop where
  ge : GLe G G'
  le : LeH G' H'
  fr : ∀ a o, H a = some o → a ∉ As → Lk G' a o H'
  th : ∀ a, H' a = none → H a = none
  nw : ∀ a u, G' a = some u → G a = some u ∨ H a = none
def DenR (z : Dx) (H H' G' : Hp) (v : V) (d : D) : Bool → Prop
  | false => Rep z G' v d
  | true => ∃ p, v = .ref p ∧ H p = none ∧ G' p = none ∧ OwnAt z G' H' p d
def PostF (z : Dx) (G H : Hp) (As : List Addr) (Q : VK) (E : XK) : FR → Prop
  | .ret d fr io => ∀ v H' G', Around' As H H' G G' → OwnsL z G' H' As io → DenR z H H' G' v d fr → Q v H'
  | .ex c w io => ∀ dd v H' G', Around' As H H' G G' → OwnsL z G' H' As io → H' dd = some (.xd [(("what" : Str), v)]) → Rep z G' v w → E (.ref (z.cl c)) (some dd) H'
  | .no => False
/-- THE PROMISE of a def: it computes F -/
def spD (cl : Brings) (K : PySem.W.Frag) (md : List Bool) (F : List D → FR) : Sp := fun vs H Q E =>
  ∃ G ds, LeH G H ∧ Tabd cl.T G ∧ Args ⟨K, cl, [], fun _ => none⟩ G H md vs ds ∧ (ios md vs).Nodup ∧ PostF ⟨K, cl, [], fun _ => none⟩ G H (ios md vs) Q E (F ds)
theorem Args.lens {z : Dx} {G H : Hp} : ∀ {md : List Bool} {vs : List V} {ds : List D}, Args z G H md vs ds → vs.length = md.length ∧ ds.length = md.length := by
  intro md vs ds h
  induction h with
  | nil => exact ⟨rfl, rfl⟩
  | shr _ _ ih => exact ⟨by simp [ih.1], by simp [ih.2]⟩
  | own _ _ _ ih => exact ⟨by simp [ih.1], by simp [ih.2]⟩

/-! ### a def's body -/
def startS : List Bool → List D → Nat → SS
  | false :: ms, d :: ds, j => .shr d :: startS ms ds j
  | true :: ms, d :: ds, j => .own (some j) d :: startS ms ds (j + 1)
  | _, _, _ => []
def outS : List Bool → SS → Nat → Option (List D)
  | [], _, _ => some []
  | false :: ms, _ :: S, j => outS ms S j
  | true :: ms, .own (some i) d :: S, j => if i = j then (outS ms S (j + 1)).map (d :: ·) else none
  | _, _, _ => none
def runF (n : Nat) (md : List Bool) (f : M Fl) (ds : List D) : FR := match f (startS md ds 0 ++ List.replicate (n - ds.length) .un) with
  | .ok (.rt d fr) S => match outS md S 0 with
    | some io => .ret d fr io
    | none => .no
  | .ok .nx S => match outS md S 0 with
    | some io => .ret .non false io
    | none => .no
  | .ex c w S => match outS md S 0 with
    | some io => .ex c w io
    | none => .no
  | _ => .no

section
variable {z : Dx} {G H : Hp}
/-- the parameters' slots, by their data -/
theorem start_get : ∀ {md : List Bool} {vs : List V} {ds : List D}, Args z G H md vs ds → ∀ (j i : Nat) (w : AV), (startS md ds j)[i]? = some w →
    match w with
    | .un => False
    | .shr d => ∃ v, vs[i]? = some v ∧ Rep z G v d
    | .own t d => ∃ a k, vs[i]? = some (.ref a) ∧ t = some (j + k) ∧ (ios md vs)[k]? = some a ∧ G a = none ∧ OwnAt z G H a d := by
  intro md vs ds h
  induction h with
  | nil => intro j i w e; simp [startS] at e
  | shr r _ ih =>
    intro j i w e
    cases i with
    | zero =>
      simp [startS] at e
      subst e
      exact ⟨_, rfl, r⟩
    | succ i =>
      simp [startS] at e
      have q := ih j i w e
      cases w with
      | un => exact q
      | shr d => simpa using q
      | own t d => simpa [ios] using q
  | own g o _ ih =>
    intro j i w e
    cases i with
    | zero =>
      simp [startS] at e
      subst e
      exact ⟨_, 0, rfl, rfl, rfl, g, o⟩
    | succ i =>
      simp [startS] at e
      have q := ih (j + 1) i w e
      cases w with
      | un => exact q
      | shr d => simpa using q
      | own t d =>
        obtain ⟨a, k, h1, h2, h3, h4⟩ := q
        exact ⟨a, k + 1, by simpa using h1, by rw [h2]; congr 1; omega, by simpa [ios] using h3, h4⟩
theorem startS_length : ∀ {md : List Bool} {ds : List D} (j : Nat), ds.length = md.length → (startS md ds j).length = md.length
  | [], [], _, _ => rfl
  | [], _ :: _, _, h => by simp at h
  | false :: ms, d :: ds, j, h => by simp [startS, startS_length (md := ms) (ds := ds) j (by simpa using h)]
  | true :: ms, d :: ds, j, h => by simp [startS, startS_length (md := ms) (ds := ds) (j + 1) (by simpa using h)]
  | _ :: _, [], _, h => by simp at h
theorem ios_own {md : List Bool} {vs : List V} {ds : List D} (h : Args z G H md vs ds) : ∀ a ∈ ios md vs, G a = none ∧ ∃ o, H a = some o := by
  induction h with
  | nil => intro a ha; simp [ios] at ha
  | shr r _ ih => intro a ha; exact ih a (by simpa [ios] using ha)
  | own g o _ ih =>
    intro a ha
    rcases List.mem_cons.mp (show a ∈ _ :: _ from ha) with rfl | ha
    · exact ⟨g, o.there⟩
    · exact ih a ha
/-- at the end: the objects that came to be changed -/
theorem out_run {S : SS} {σ : L2.St} {H' G' : Hp} (si : SI z S σ H' G') : ∀ {md : List Bool} {T : SS} {τ : L2.St} {j : Nat} {io : List D}, (∀ (i : Nat) w, T[i]? = some w → ∃ (k : Nat), S[k]? = some w ∧ σ[k]? = τ[i]?) → outS md T j = some io → j + (md.filter id).length = z.A.length → OwnsL z G' H' (z.A.drop j) io := by
  intro md
  induction md with
  | nil =>
    intro T τ j io _ e hl
    cases e
    have : z.A.drop j = [] := List.drop_eq_nil_of_le (by simp at hl; omega)
    rw [this]
    exact .nil
  | cons m ms ih =>
    intro T τ j io hT e hl
    cases T with
    | nil => cases m <;> simp [outS] at e
    | cons w T =>
      have hT' : ∀ (i : Nat) w', T[i]? = some w' → ∃ (k : Nat), S[k]? = some w' ∧ σ[k]? = τ.tail[i]? := fun i w' q => by
        obtain ⟨k, h1, h2⟩ := hT (i + 1) w' (by simpa using q)
        exact ⟨k, h1, by rw [h2]; cases τ <;> simp⟩
      cases m with
      | false => exact ih hT' (by simpa [outS] using e) (by simpa using hl)
      | true =>
        cases w with
        | un => simp [outS] at e
        | shr d => simp [outS] at e
        | own t d =>
          cases t with
          | none => simp [outS] at e
          | some i =>
            have e : (if i = j then (outS ms T (j + 1)).map (d :: ·) else none) = some io := e
            by_cases hij : i = j
            · rw [if_pos hij] at e
              subst hij
              cases e2 : outS ms T (i + 1) with
              | none => rw [e2] at e; cases e
              | some io' =>
                rw [e2] at e
                cases e
                obtain ⟨k, h1, _⟩ := hT 0 _ rfl
                obtain ⟨a, _, _, o, t1, _⟩ := si.own k _ _ h1
                have ha := t1 i rfl
                have hd := drop_get ha
                rw [hd]
                exact .cons o (ih hT' e2 (by simp at hl; omega))
            · rw [if_neg hij] at e; cases e
theorem ios_length {md : List Bool} {vs : List V} {ds : List D} (h : Args z G H md vs ds) : (ios md vs).length = (md.filter id).length := by
  induction h with
  | nil => rfl
  | shr r _ ih => simpa [ios] using ih
  | own g o _ ih => simpa [ios] using ih
end
section
variable {P : Program} {w : World} {K : PySem.W.Frag} {mg : Str → Option Value} {base : Heap} {cl : Brings}
theorem start_si {N : List Str} {md : List Bool} {vs : List V} {ds : List D} {G H : Hp} (le : LeH G H) (tb : Tabd cl.T G) (ar : Args ⟨K, cl, [], fun _ => none⟩ G H md vs ds) (nd : (ios md vs).Nodup) :
    SI ⟨K, cl, ios md vs, H⟩ (startS md ds 0 ++ List.replicate (N.length - ds.length) .un) (start N vs) H G := by
  obtain ⟨l1, l2⟩ := ar.lens
  have ls := startS_length (md := md) (ds := ds) 0 l2
  have at_ : ∀ (i : Nat) w, (startS md ds 0 ++ List.replicate (N.length - ds.length) AV.un)[i]? = some w → w ≠ .un → (startS md ds 0)[i]? = some w ∧ ∀ v, vs[i]? = some v → (start N vs)[i]? = some (some v) := by
    intro i w e hw
    have hi : i < (startS md ds 0).length := by
      by_cases hi : i < (startS md ds 0).length
      · exact hi
      · rw [List.getElem?_append_right (by omega), List.getElem?_replicate] at e
        split at e
        · cases e; exact absurd rfl hw
        · cases e
    rw [List.getElem?_append_left hi] at e
    refine ⟨e, fun v hv => ?_⟩
    unfold start
    rw [List.getElem?_append_left (by simp; omega), List.getElem?_map, hv]
    rfl
  refine ⟨by unfold start; simp [ls, l1, l2], le, fun i d e => ?_, fun i t d e => ?_, fun i j ti di tj dj a h1 h2 h3 h4 => ?_, fun a h => h, tb⟩
  · obtain ⟨e1, e2⟩ := at_ i _ e (by intro z; cases z)
    obtain ⟨v, hv, r⟩ := start_get ar 0 i _ e1
    exact ⟨v, e2 v hv, r.ab⟩
  · obtain ⟨e1, e2⟩ := at_ i _ e (by intro z; cases z)
    obtain ⟨a, k, hv, ht, hk, g, o⟩ := start_get ar 0 i _ e1
    refine ⟨a, e2 _ hv, g, o.ab, fun j hj => ?_, fun hn => ?_⟩
    · rw [ht] at hj; cases hj; simpa using hk
    · rw [ht] at hn; cases hn
  · obtain ⟨e1, f1⟩ := at_ i _ h1 (by intro z; cases z)
    obtain ⟨e2, f2⟩ := at_ j _ h2 (by intro z; cases z)
    obtain ⟨a1, k1, hv1, ht1, hk1, _⟩ := start_get ar 0 i _ e1
    obtain ⟨a2, k2, hv2, ht2, hk2, _⟩ := start_get ar 0 j _ e2
    rw [f1 _ hv1] at h3; cases h3
    rw [f2 _ hv2] at h4; cases h4
    have hk : k1 = k2 := nodup_ixA nd hk1 hk2
    subst hk
    exact start_inj l2 0 e1 e2 (by rw [ht1]) (by rw [ht2])
where
  nodup_ixA {l : List Addr} (nd : l.Nodup) {i j : Nat} {x : Addr} (a : l[i]? = some x) (b : l[j]? = some x) : i = j := by
    obtain ⟨h1, e1⟩ := List.getElem?_eq_some_iff.mp a
    obtain ⟨h2, e2⟩ := List.getElem?_eq_some_iff.mp b
    exact (List.getElem_inj nd).mp (e1.trans e2.symm)
  start_inj : ∀ {md : List Bool} {ds : List D}, ds.length = md.length → ∀ (j : Nat) {i1 i2 : Nat} {t1 t2 : Option Nat} {d1 d2 : D} {k : Nat}, (startS md ds j)[i1]? = some (.own t1 d1) → (startS md ds j)[i2]? = some (.own t2 d2) → t1 = some k → t2 = some k → i1 = i2
    | [], [], _, j, i1, i2, _, _, _, _, k, h1, _, _, _ => by simp [startS] at h1
    | [], _ :: _, h, _, _, _, _, _, _, _, _, _, _, _, _ => by simp at h
    | _ :: _, [], h, _, _, _, _, _, _, _, _, _, _, _, _ => by simp at h
    | false :: ms, d :: ds, h, j, i1, i2, t1, t2, d1, d2, k, h1, h2, e1, e2 => by
      cases i1 with
      | zero => simp [startS] at h1
      | succ i1 =>
        cases i2 with
        | zero => simp [startS] at h2
        | succ i2 => exact congrArg (· + 1) (start_inj (md := ms) (ds := ds) (by simpa using h) j (by simpa [startS] using h1) (by simpa [startS] using h2) e1 e2)
    | true :: ms, d :: ds, h, j, i1, i2, t1, t2, d1, d2, k, h1, h2, e1, e2 => by
      have low : ∀ {i : Nat} {t : Option Nat} {d' : D} {k : Nat}, (startS ms ds (j + 1))[i]? = some (.own t d') → t = some k → j < k := fun {i t d' k} q e => start_low (by simpa using h) q e
      cases i1 with
      | zero =>
        cases i2 with
        | zero => rfl
        | succ i2 =>
          simp [startS] at h1
          obtain ⟨h1, _⟩ := h1
          have := low (by simpa [startS] using h2) e2
          rw [← h1] at e1; cases e1; omega
      | succ i1 =>
        cases i2 with
        | zero =>
          simp [startS] at h2
          obtain ⟨h2, _⟩ := h2
          have := low (by simpa [startS] using h1) e1
          rw [← h2] at e2; cases e2; omega
        | succ i2 => exact congrArg (· + 1) (start_inj (md := ms) (ds := ds) (by simpa using h) (j + 1) (by simpa [startS] using h1) (by simpa [startS] using h2) e1 e2)
  start_low : ∀ {md : List Bool} {ds : List D} {j i : Nat} {t : Option Nat} {d : D} {k : Nat}, ds.length = md.length → (startS md ds j)[i]? = some (.own t d) → t = some k → j ≤ k
    | [], [], _, _, _, _, _, _, h, _ => by simp [startS] at h
    | [], _ :: _, _, _, _, _, _, h, _, _ => by simp at h
    | _ :: _, [], _, _, _, _, _, h, _, _ => by simp at h
    | false :: ms, d :: ds, j, i, t, d', k, hl, h, e => by
      cases i with
      | zero => simp [startS] at h
      | succ i => exact start_low (md := ms) (ds := ds) (i := i) (by simpa using hl) (by simpa [startS] using h) e
    | true :: ms, d :: ds, j, i, t, d', k, hl, h, e => by
      cases i with
      | zero => simp [startS] at h; obtain ⟨h, _⟩ := h; rw [← h] at e; cases e; exact Nat.le_refl _
      | succ i => exact Nat.le_of_succ_le (start_low (md := ms) (ds := ds) (i := i) (by simpa using hl) (by simpa [startS] using h) e)
/-- THE RULE for a def -/
theorem FnD {x qual : Str} {params : Arguments} {body : List Stmt} {scope : Scope} {f : Addr} {fd : FuncData} {N ps : List Str} {k : Nat} {md : List Bool} {sem : M Fl} (F : FunD K x qual params body scope [] [] f fd) (S : FnScope N ps scope) (hm : md.length = ps.length)
    (hb : ∀ (cdv : Value) (A : Around) (outer : List Env) (s : Shared) (H : Hp) (E : XK) (z : Dx) (W : WX), fd.code = cdv → z.cl = cl → Room k (A.deeper (envOfC qual scope s.heap.objs.size f cdv)) →
      Ct (cxOf (L2.CX P w) P w K mg base N qual scope f cdv A outer s H E) z W → Sms (cxOf (L2.CX P w) P w K mg base N qual scope f cdv A outer s H E) z W body sem) :
    FnOk P w K mg base (L2.CX P w) (k + 1) f fd ps (spD cl K md (runF N.length md sem)) := by
  obtain ⟨oc, od, dV, kV, doc, pm, an, cdv, ct, osl, rfl, lk, hcd, _, _⟩ := F.ex
  refine fn_of lk hcd S (fun vs H Q E ⟨G, ds, _, _, ar, _⟩ => ar.lens.1.trans hm) fun A outer s H vs Q E hr ⟨G, ds, le, tb, ar, nd, post⟩ => ?_
  have zz : Dx := ⟨K, cl, ios md vs, H⟩
  refine ⟨tDS ⟨K, cl, ios md vs, H⟩ (fun cls d _ H' => E cls d H') sem, (hb cdv A outer s H E ⟨K, cl, ios md vs, H⟩ _ rfl rfl hr ⟨rfl, rfl, passes_of rfl, takes_of rfl rfl rfl rfl, S.nd⟩).ps, ?_⟩
  have si := start_si (N := N) le tb ar nd
  refine ⟨_, G, si, ?_⟩
  have tok : ∀ {S' : SS} {σ' : L2.St} {H' G' : Hp} {io : List D}, SI ⟨K, cl, ios md vs, H⟩ S' σ' H' G' → outS md S' 0 = some io → OwnsL ⟨K, cl, [], fun _ => none⟩ G' H' (ios md vs) io := fun {S' σ' H' G' io} si' e => by
    have q := out_run si' (md := md) (T := S') (τ := σ') (j := 0) (io := io) (fun i w h => ⟨i, h, rfl⟩) e (by show 0 + _ = (ios md vs).length; rw [ios_length ar]; omega)
    exact Paired.mapP q fun _ _ o => o.ab
  have no_ : ∀ {a : Addr}, Owns (startS md ds 0 ++ List.replicate (N.length - ds.length) .un) (start N vs) a → a ∈ ios md vs := fun {a} ⟨i, t, d, e1, e2⟩ => by
    obtain ⟨b, e3, _, _, t1, t2⟩ := si.own i t d e1
    rw [e2] at e3; cases e3
    cases t with
    | some j => exact List.mem_of_getElem? (t1 j rfl)
    | none =>
      have h0 := t2 rfl
      obtain ⟨_, o, ho⟩ := si.ownFree ⟨i, none, d, e1, e2⟩
      have h0 : H a = none := h0
      rw [h0] at ho; cases ho
  have ard : ∀ {S' : SS} {σ' : L2.St} {H' G' : Hp} {io : List D}, SI ⟨K, cl, ios md vs, H⟩ S' σ' H' G' → Go (startS md ds 0 ++ List.replicate (N.length - ds.length) .un) S' (start N vs) σ' H H' G G' → outS md S' 0 = some io → Around' (ios md vs) H H' G G' := fun {S' σ' H' G' io} si' g e => by
    refine ⟨g.ge, si'.le, fun a o h n => g.fr a o h fun q => n (no_ q), g.th, fun a u h => ?_⟩
    rcases g.nw a u h with q | q | q
    · exact .inl q
    · exact .inr q
    · -- an object that came to be changed is not shared at the end
      exfalso
      have ha := no_ q
      obtain ⟨j, hj⟩ := List.mem_iff_getElem?.mp ha
      have own := out_at si' (md := md) (T := S') (τ := σ') (j := 0) (io := io) (fun i w h => ⟨i, h, rfl⟩) e (by show 0 + _ = (ios md vs).length; rw [ios_length ar]; omega) j a (Nat.zero_le _) hj
      rw [own] at h; cases h
  unfold runF at post
  cases e : sem (startS md ds 0 ++ List.replicate (N.length - ds.length) .un) with
  | no => rw [e] at post; exact post.elim
  | ex c wd S' =>
    rw [e] at post
    intro σ' H' G' si' g d v hd r
    cases e2 : outS md S' 0 with
    | none => simp only [e2] at post; exact post.elim
    | some io =>
      simp only [e2] at post
      exact post d v H' G' (ard si' g e2) (tok si' e2) hd r.ab
  | ok fl S' =>
    rw [e] at post
    cases fl with
    | bk => exact post.elim
    | ct => exact post.elim
    | nx =>
      intro σ' H' G' si' g
      cases e2 : outS md S' 0 with
      | none => simp only [e2] at post; exact post.elim
      | some io =>
        simp only [e2] at post
        exact post .non H' G' (ard si' g e2) (tok si' e2) .non
    | rt d fr =>
      intro v σ' H' G' si' g dn
      cases e2 : outS md S' 0 with
      | none => simp only [e2] at post; exact post.elim
      | some io =>
        simp only [e2] at post
        refine post v H' G' (ard si' g e2) (tok si' e2) ?_
        cases fr with
        | false => exact Rep.ab dn
        | true =>
          obtain ⟨p, h1, h2, h3, _, h4⟩ := dn
          exact ⟨p, h1, h2, h3, h4.ab⟩
where
  out_at {z : Dx} {S : SS} {σ : L2.St} {H' G' : Hp} (si : SI z S σ H' G') : ∀ {md : List Bool} {T : SS} {τ : L2.St} {j : Nat} {io : List D}, (∀ (i : Nat) w, T[i]? = some w → ∃ (k : Nat), S[k]? = some w ∧ σ[k]? = τ[i]?) → outS md T j = some io → j + (md.filter id).length = z.A.length → ∀ (k : Nat) (a : Addr), j ≤ k → z.A[k]? = some a → G' a = none := by
    intro md
    induction md with
    | nil =>
      intro T τ j io _ e hl k a hjk ha
      have := (List.getElem?_eq_some_iff.mp ha).1
      simp at hl
      omega
    | cons m ms ih =>
      intro T τ j io hT e hl k a hjk ha
      cases T with
      | nil => cases m <;> simp [outS] at e
      | cons w T =>
        have hT' : ∀ (i : Nat) w', T[i]? = some w' → ∃ (k : Nat), S[k]? = some w' ∧ σ[k]? = τ.tail[i]? := fun i w' q => by
          obtain ⟨k, h1, h2⟩ := hT (i + 1) w' (by simpa using q)
          exact ⟨k, h1, by rw [h2]; cases τ <;> simp⟩
        cases m with
        | false => exact ih hT' (by simpa [outS] using e) (by simpa using hl) k a hjk ha
        | true =>
          cases w with
          | un => simp [outS] at e
          | shr d => simp [outS] at e
          | own t d =>
            cases t with
            | none => simp [outS] at e
            | some i =>
              have e : (if i = j then (outS ms T (j + 1)).map (d :: ·) else none) = some io := e
              by_cases hij : i = j
              · rw [if_pos hij] at e
                subst hij
                cases e2 : outS ms T (i + 1) with
                | none => rw [e2] at e; cases e
                | some io' =>
                  by_cases hk : k = i
                  · subst hk
                    obtain ⟨q, h1, _⟩ := hT 0 _ rfl
                    obtain ⟨b, _, g, o, t1, _⟩ := si.own q _ _ h1
                    have hb := t1 k rfl
                    rw [ha] at hb; cases hb
                    exact g
                  · exact ih hT' e2 (by simp at hl; omega) k a (by omega) ha
              · rw [if_neg hij] at e; cases e
end
end L2.Dl
/-! Calls of defs by their promises. -/
namespace L2.Dl
open PySem PySem.Spec PyProof.Rows

def D.sc : D → Bool
  | .non => true
  | .bl _ => true
  | .int _ => true
  | .str _ => true
  | _ => false
/-- a container of plain values -/
def D.flat : D → Bool
  | .lst l => l.all D.sc
  | .dct l => l.all fun p => p.2.sc
  | .dtt l => l.all fun p => p.2.sc
  | _ => false
def argD (S : SS) : List Bool → List R → Option (List D × List Nat × List Nat)
  | [], [] => some ([], [], [])
  | false :: ms, r :: rs => match look S r, argD S ms rs with
    | some d, some (ds, io, bo) => some (d :: ds, io, match r with
      | .at i => (match S[i]? with
        | some (.own _ _) => i :: bo
        | _ => bo)
      | _ => bo)
    | _, _ => none
  | true :: ms, .at i :: rs => match S[i]?, argD S ms rs with
    | some (.own _ d), some (ds, io, bo) => some (d :: ds, i :: io, bo)
    | _, _ => none
  | _, _ => none
def setIO : SS → List Nat → List D → SS
  | S, i :: io, d :: ds => setIO (match S[i]? with
    | some (.own t _) => S.set i (.own t d)
    | _ => S) io ds
  | S, _, _ => S
def freezeL (S : SS) : List Nat → SS
  | [] => S
  | i :: bo => freezeL (freeze S i) bo
def flatR (fr : Bool) (d : D) : Bool := if fr then d.flat else d.sc
def callK (S1 : SS) (io bo : List Nat) (fl : Bool) (iod : List D) : SS := setIO (if bo.isEmpty || (fl && iod.all D.flat) then S1 else freezeL S1 bo) io iod
def callM (md : List Bool) (Fn : List D → FR) (fl : M (List R)) : M R := fun S => (fl S).bind fun rs S1 => match argD S1 md rs with
  | none => .no
  | some (ds, io, bo) => if io.Nodup ∧ (∀ i ∈ io, i ∉ bo) then (match Fn ds with
    | .no => .no
    | .ret d fr iod => .ok (if fr then .f d else .v d) (callK S1 io bo (flatR fr d) iod)
    | .ex c w iod => .ex c w (callK S1 io bo false iod)) else .no

section
variable {z : Dx} {W : WX} {S S1 : SS} {G G1 H H1 H' G' Gc : Hp} {σ : L2.St} {Q : VK}
theorem Rep.sc {v : V} {d : D} (h : d.sc = true) (r : Rep z G v d) : Rep z G' v d := by
  cases d with
  | non => cases r; exact .non
  | bl b => cases r; exact .bl b
  | int b => cases r; exact .int b
  | str b => cases r; exact .str b
  | _ => cases h
theorem RepL.sc {vs : List V} {ds : List D} (h : ds.all D.sc = true) (r : RepL z G vs ds) : RepL z G' vs ds := by
  induction ds generalizing vs with
  | nil => cases r; exact .nil
  | cons d ds ih =>
    cases r with
    | cons a b =>
      simp only [List.all_cons, Bool.and_eq_true] at h
      exact .cons (a.sc h.1) (ih h.2 b)
theorem OwnAt.flat {a : Addr} {d : D} (h : d.flat = true) (r : OwnAt z G H a d) : OwnAt z G' H a d := by
  cases d with
  | lst l => obtain ⟨xs, e, r⟩ := r; exact ⟨xs, e, r.sc h⟩
  | dct l => obtain ⟨xs, e, k, r⟩ := r; exact ⟨xs, e, k, r.sc (by rw [List.all_map]; exact h)⟩
  | dtt l => obtain ⟨xs, e, k, r⟩ := r; exact ⟨xs, e, k, r.sc (by rw [List.all_map]; exact h)⟩
  | _ => cases h
theorem OwnsL.flat {As : List Addr} {io : List D} (h : io.all D.flat = true) (r : OwnsL z G H As io) : OwnsL z G' H As io := by
  induction r with
  | nil => exact .nil
  | cons a b ih =>
    simp only [List.all_cons, Bool.and_eq_true] at h
    exact .cons (a.flat h.1) (ih h.2)

/-! ### sharing some slots -/
def AV.frz : AV → AV
  | .own _ d => .shr d
  | w => w
theorem freeze_get {i j : Nat} {w : AV} (e : S[j]? = some w) : (freeze S i)[j]? = some (if j = i then w.frz else w) := by
  unfold freeze
  by_cases hj : j = i
  · subst hj
    rw [if_pos rfl, e]
    cases w with
    | own t d => exact set_get e
    | un => exact e
    | shr d => exact e
  · rw [if_neg hj]
    split
    · rw [List.getElem?_set_ne (Ne.symm hj)]; exact e
    · exact e
theorem freezeL_run : ∀ {bo : List Nat} {S : SS} {G : Hp}, SI z S σ H G → ∃ Gc, SI z (freezeL S bo) σ H Gc ∧ Go S (freezeL S bo) σ σ H H G Gc
  | [], S, G, si => ⟨G, si, .refl⟩
  | i :: bo, S, G, si => by
    have one : ∃ G1, SI z (freeze S i) σ H G1 ∧ Go S (freeze S i) σ σ H H G G1 := by
      unfold freeze
      split
      · rename_i t d e
        obtain ⟨a, ea, _⟩ := si.own i t d e
        obtain ⟨G1, h1, h2, _⟩ := si.freeze1 e ea
        exact ⟨G1, h1, h2⟩
      · exact ⟨G, si, .refl⟩
    obtain ⟨G1, s1, g1⟩ := one
    obtain ⟨G2, s2, g2⟩ := freezeL_run (bo := bo) s1
    exact ⟨G2, s2, g1.trans g2⟩
theorem freezeL_shr : ∀ {bo : List Nat} {S : SS} {j : Nat} {d : D}, S[j]? = some (.shr d) → (freezeL S bo)[j]? = some (.shr d)
  | [], S, j, d, e => e
  | i :: bo, S, j, d, e => freezeL_shr (bo := bo) (by rw [freeze_get e]; split <;> rfl)
theorem freezeL_in : ∀ {bo : List Nat} {S : SS} {j : Nat} {t : Option Nat} {d : D}, S[j]? = some (.own t d) → j ∈ bo → (freezeL S bo)[j]? = some (.shr d)
  | [], S, j, t, d, e, h => by simp at h
  | i :: bo, S, j, t, d, e, h => by
    by_cases hj : j = i
    · exact freezeL_shr (bo := bo) (by rw [freeze_get e, if_pos hj]; rfl)
    · exact freezeL_in (bo := bo) (t := t) (by rw [freeze_get e, if_neg hj]) ((List.mem_cons.mp h).resolve_left hj)
theorem freezeL_out : ∀ {bo : List Nat} {S : SS} {j : Nat} {w : AV}, S[j]? = some w → j ∉ bo → (freezeL S bo)[j]? = some w
  | [], S, j, w, e, h => e
  | i :: bo, S, j, w, e, h => freezeL_out (bo := bo) (by rw [freeze_get e, if_neg (fun q => h (by rw [q]; exact List.mem_cons_self))]) (fun q => h (List.mem_cons_of_mem _ q))

theorem setIO_get : ∀ {io : List Nat} {iod : List D} {S : SS} {j : Nat} {w : AV}, io.Nodup → io.length = iod.length → (setIO S io iod)[j]? = some w →
    (j ∉ io ∧ S[j]? = some w) ∨ (∃ k : Nat, ∃ d, io[k]? = some j ∧ iod[k]? = some d ∧ ((∃ t d0, S[j]? = some (.own t d0) ∧ w = .own t d) ∨ (S[j]? = some w ∧ ∀ t d0, w ≠ .own t d0)))
  | [], iod, S, j, w, _, _, e => .inl ⟨by simp, e⟩
  | i :: io, [], S, j, w, _, hl, _ => by simp at hl
  | i :: io, d :: ds, S, j, w, nd, hl, e => by
    obtain ⟨ni, nd⟩ := List.nodup_cons.mp nd
    unfold setIO at e
    have sj : ∀ {w'}, (match S[i]? with | some (.own t _) => S.set i (.own t d) | _ => S)[j]? = some w' → (j ≠ i ∧ S[j]? = some w') ∨ (j = i ∧ ((∃ t d0, S[j]? = some (.own t d0) ∧ w' = .own t d) ∨ (S[j]? = some w' ∧ ∀ t d0, w' ≠ .own t d0))) := fun {w'} q => by
      split at q
      · rename_i t d0 e1
        rcases SI.get_set q with ⟨rfl, e2⟩ | ⟨hj, e2⟩
        · exact .inr ⟨rfl, .inl ⟨t, d0, e1, e2⟩⟩
        · exact .inl ⟨hj, e2⟩
      · rename_i h1
        by_cases hj : j = i
        · subst hj
          exact .inr ⟨rfl, .inr ⟨q, fun t d0 z => h1 t d0 (by rw [← z]; exact q)⟩⟩
        · exact .inl ⟨hj, q⟩
    rcases setIO_get (io := io) (iod := ds) nd (by simpa using hl) e with ⟨h1, h2⟩ | ⟨k, d', h1, h2, h3⟩
    · rcases sj h2 with ⟨hj, h4⟩ | ⟨hj, h4⟩
      · exact .inl ⟨by simp [hj, h1], h4⟩
      · exact .inr ⟨0, d, by simp [hj], rfl, h4⟩
    · have hj : j ≠ i := fun z => ni (by rw [← z]; exact List.mem_of_getElem? h1)
      refine .inr ⟨k + 1, d', by simpa using h1, by simpa using h2, ?_⟩
      rcases h3 with ⟨t, d0, q1, q2⟩ | ⟨q1, q2⟩
      · rcases sj q1 with ⟨_, q⟩ | ⟨z, _⟩
        · exact .inl ⟨t, d0, q, q2⟩
        · exact absurd z hj
      · rcases sj q1 with ⟨_, q⟩ | ⟨z, _⟩
        · exact .inr ⟨q, q2⟩
        · exact absurd z hj
theorem setIO_length : ∀ {io : List Nat} {iod : List D} {S : SS}, (setIO S io iod).length = S.length
  | [], iod, S => by unfold setIO; rfl
  | i :: io, [], S => by unfold setIO; rfl
  | i :: io, d :: ds, S => by
    unfold setIO
    rw [setIO_length (io := io)]
    split
    · rw [List.length_set]
    · rfl
/-- which slots came to be changed, and their objects -/
abbrev IOs (S : SS) (σ : L2.St) : List Nat → List Addr → Prop := Paired fun i a => (∃ t d, S[i]? = some (.own t d)) ∧ σ[i]? = some (some (.ref a))
theorem Paired.gets {α β : Type} {F : α → β → Prop} {xs : List α} {ys : List β} (h : Paired F xs ys) : ∀ {k : Nat} {x : α}, xs[k]? = some x → ∃ y, ys[k]? = some y ∧ F x y := by
  induction h with
  | nil => intro k x e; simp at e
  | cons a b ih =>
    intro k x e
    cases k with
    | zero => simp at e; subst e; exact ⟨_, rfl, a⟩
    | succ k => simpa using ih (by simpa using e)
theorem Paired.memR {α β : Type} {F : α → β → Prop} {xs : List α} {ys : List β} (h : Paired F xs ys) : ∀ {y : β}, y ∈ ys → ∃ x, x ∈ xs ∧ F x y := by
  induction h with
  | nil => intro y e; simp at e
  | cons a b ih =>
    intro y e
    rcases List.mem_cons.mp e with rfl | e
    · exact ⟨_, List.mem_cons_self, a⟩
    · obtain ⟨x, h1, h2⟩ := ih e
      exact ⟨x, List.mem_cons_of_mem _ h1, h2⟩
theorem around_si {io : List Nat} {As : List Addr} {iod : List D} (si : SI z S σ H G) (ar : Around' As H H' G G') (hio : IOs S σ io As) (nd : io.Nodup) (ow : OwnsL z G' H' As iod) :
    SI z (setIO S io iod) σ H' G' ∧ Go S (setIO S io iod) σ σ H H' G G' := by
  have hl : io.length = iod.length := (Paired.length hio).trans (Paired.length ow)
  have gfree : ∀ {a o}, G a = none → H a = some o → G' a = none := fun {a o} g h => by
    cases e : G' a with
    | none => rfl
    | some u =>
      rcases ar.nw a u e with q | q
      · rw [g] at q; cases q
      · rw [h] at q; cases q
  have notA : ∀ {j : Nat} {t d a}, S[j]? = some (.own t d) → σ[j]? = some (some (.ref a)) → j ∉ io → a ∉ As := fun {j t d a} e1 e2 hj ha => by
    obtain ⟨i, hi, ⟨t', d', e3⟩, e4⟩ := Paired.memR hio ha
    exact hj (by rw [si.sep j i _ _ _ _ a e1 e3 e2 e4]; exact hi)
  refine ⟨⟨by rw [setIO_length]; exact si.len, ar.le, fun j d e => ?_, fun j t d e => ?_, fun i j ti di tj dj a h1 h2 h3 h4 => ?_, fun a e => si.dom a (ar.th a e), si.tab.ge ar.ge⟩, ar.ge, fun a o h n => ar.fr a o h fun q => ?_, fun a ⟨j, t, d, e1, e2⟩ => ?_, fun a u h => (ar.nw a u h).elim .inl fun q => .inr (.inl q), ar.th⟩
  · rcases setIO_get nd hl e with ⟨_, h⟩ | ⟨k, d', _, _, ⟨t, d0, _, q⟩ | ⟨h, _⟩⟩
    · obtain ⟨v, q, r⟩ := si.shr j d h; exact ⟨v, q, r.mono ar.ge⟩
    · cases q
    · obtain ⟨v, q, r⟩ := si.shr j d h; exact ⟨v, q, r.mono ar.ge⟩
  · rcases setIO_get nd hl e with ⟨hj, h⟩ | ⟨k, d', hk, hd, ⟨t', d0, h, q⟩ | ⟨_, h⟩⟩
    · obtain ⟨a, q, g, o, t1, t2⟩ := si.own j t d h
      obtain ⟨ob, ho⟩ := o.there
      exact ⟨a, q, gfree g ho, o.mono ar.ge fun o' e' => (ar.fr a o' e' (notA h q hj)).own (gfree g ho), t1, t2⟩
    · cases q
      obtain ⟨a, q, g, o, t1, t2⟩ := si.own j t d0 h
      obtain ⟨ob, ho⟩ := o.there
      obtain ⟨a', ha', _, q'⟩ := Paired.gets hio hk
      rw [q] at q'; cases q'
      obtain ⟨d'', hd'', o'⟩ := Paired.gets ow ha'
      rw [hd] at hd''; cases hd''
      exact ⟨a, q, gfree g ho, o', t1, t2⟩
    · exact absurd rfl (h t d)
  · have back : ∀ {j : Nat} {t d}, (setIO S io iod)[j]? = some (.own t d) → ∃ t' d', S[j]? = some (.own t' d') := fun {j t d} e => by
      rcases setIO_get nd hl e with ⟨_, h⟩ | ⟨k, d', _, _, ⟨t', d0, h, q⟩ | ⟨_, h⟩⟩
      · exact ⟨_, _, h⟩
      · exact ⟨_, _, h⟩
      · exact absurd rfl (h t d)
    obtain ⟨_, _, e1⟩ := back h1
    obtain ⟨_, _, e2⟩ := back h2
    exact si.sep i j _ _ _ _ a e1 e2 h3 h4
  · obtain ⟨i, _, ⟨t, d, e1⟩, e2⟩ := Paired.memR hio q
    exact n ⟨i, t, d, e1, e2⟩
  · rcases setIO_get nd hl e1 with ⟨_, h⟩ | ⟨k, d', _, _, ⟨t', d0, h, q⟩ | ⟨_, h⟩⟩
    · exact .inl ⟨j, t, d, h, e2⟩
    · exact .inl ⟨j, t', d0, h, e2⟩
    · exact absurd rfl (h t d)
theorem Rep.zz {v : V} {d : D} (r : Rep z G v d) : Rep ⟨z.K, z.cl, [], fun _ => none⟩ G v d := Rep.to (z := z) (z' := ⟨z.K, z.cl, [], fun _ => none⟩) rfl rfl r
theorem Rep.uz {v : V} {d : D} (r : Rep ⟨z.K, z.cl, [], fun _ => none⟩ G v d) : Rep z G v d := Rep.to (z := ⟨z.K, z.cl, [], fun _ => none⟩) (z' := z) rfl rfl r
theorem OwnAt.zz {a : Addr} {d : D} (r : OwnAt z G H a d) : OwnAt ⟨z.K, z.cl, [], fun _ => none⟩ G H a d := OwnAt.to (z := z) (z' := ⟨z.K, z.cl, [], fun _ => none⟩) rfl rfl r
theorem OwnAt.uz {a : Addr} {d : D} (r : OwnAt ⟨z.K, z.cl, [], fun _ => none⟩ G H a d) : OwnAt z G H a d := OwnAt.to (z := ⟨z.K, z.cl, [], fun _ => none⟩) (z' := z) rfl rfl r
/-- the arguments, where what is lent is shared -/
theorem argD_run {T : SS} : ∀ {md : List Bool} {vs : List V} {rs : List R} {ds : List D} {io bo : List Nat}, DenL z σ G vs rs → argD S md rs = some (ds, io, bo) → SI z T σ H Gc → GLe G Gc →
    (∀ (j : Nat) d, S[j]? = some (.shr d) → T[j]? = some (.shr d)) → (∀ (j : Nat) t d, S[j]? = some (.own t d) → j ∈ bo → T[j]? = some (.shr d)) → (∀ (j : Nat) t d, S[j]? = some (.own t d) → j ∈ io → T[j]? = some (.own t d)) →
    Args ⟨z.K, z.cl, [], fun _ => none⟩ Gc H md vs ds ∧ IOs S σ io (ios md vs)
  | [], _, [], ds, io, bo, dl, e, si, ge, h1, h2, h3 => by cases dl; cases e; exact ⟨.nil, .nil⟩
  | false :: ms, _, r :: rs, ds, io, bo, .cons (a := v) a b, e, si, ge, h1, h2, h3 => by
    unfold argD at e
    cases el : look S r with
    | none => rw [el] at e; cases e
    | some d =>
      cases ea : argD S ms rs with
      | none => rw [el, ea] at e; cases e
      | some q =>
        obtain ⟨ds', io', bo'⟩ := q
        rw [el, ea] at e
        cases e
        have sub : ∀ j, j ∈ bo' → j ∈ (match r with | .at i => (match S[i]? with | some (.own _ _) => i :: bo' | _ => bo') | _ => bo') := fun j hj => by
          cases r with
          | v _ => exact hj
          | f _ => exact hj
          | «at» i =>
            simp only
            split
            · exact List.mem_cons_of_mem _ hj
            · exact hj
        obtain ⟨q1, q2⟩ := argD_run (md := ms) b ea si ge h1 (fun j t d e hj => h2 j t d e (sub j hj)) h3
        refine ⟨.shr (Rep.zz ?_) q1, q2⟩
        cases r with
        | v d' => cases el; exact Rep.mono ge a
        | f d' => cases el; exact Rep.mono ge a
        | «at» i =>
          have a : σ[i]? = some (some v) := a
          have el : slotD S i = some d := el
          unfold slotD at el
          cases es : S[i]? with
          | none => rw [es] at el; cases el
          | some w =>
            rw [es] at el
            have sh : T[i]? = some (.shr d) := by
              cases w with
              | un => cases el
              | shr d' => cases el; exact h1 i d es
              | own t d' => cases el; exact h2 i t d es (by simp only [es]; exact List.mem_cons_self)
            obtain ⟨v', e1, r⟩ := si.shr i d sh
            rw [a] at e1; cases e1
            exact r
  | true :: ms, _, .at i :: rs, ds, io, bo, .cons (a := v) a b, e, si, ge, h1, h2, h3 => by
    unfold argD at e
    cases es : S[i]? with
    | none => rw [es] at e; cases e
    | some w =>
      cases ea : argD S ms rs with
      | none => rw [es, ea] at e; cases w <;> cases e
      | some q =>
        obtain ⟨ds', io', bo'⟩ := q
        rw [es, ea] at e
        cases w with
        | un => cases e
        | shr d => cases e
        | own t d =>
          cases e
          have a : σ[i]? = some (some v) := a
          obtain ⟨q1, q2⟩ := argD_run (md := ms) b ea si ge h1 h2 (fun j t d e hj => h3 j t d e (List.mem_cons_of_mem _ hj))
          obtain ⟨p, e1, g, o, _⟩ := si.own i t d (h3 i t d es List.mem_cons_self)
          rw [a] at e1; cases e1
          exact ⟨.own g o.zz q1, .cons ⟨⟨t, d, es⟩, a⟩ q2⟩
  | [], _, _ :: _, _, _, _, _, e, _, _, _, _, _ => by cases e
  | true :: _, _, .v _ :: _, _, _, _, _, e, _, _, _, _, _ => by cases e
  | true :: _, _, .f _ :: _, _, _, _, _, e, _, _, _, _, _ => by cases e
  | false :: _, _, [], _, _, _, _, e, _, _, _, _, _ => by cases e
  | true :: _, _, [], _, _, _, _, e, _, _, _, _, _ => by cases e
/-- what a call has locked is free again -/
def UnlTo (H1 : Hp) : List Addr → Hp → Hp → Prop
  | [], H', H'' => H'' = H'
  | d :: L, H', H'' => ∃ Hm, (Hm = H' ∨ ∃ u od, H1 d = some u ∧ Mut (some u) ∧ H' d = some (.frz od u) ∧ Hm = upd H' d u) ∧ UnlTo H1 L Hm H''
theorem UnlTo.refl {H1 H' : Hp} : ∀ {L : List Addr}, UnlTo H1 L H' H'
  | [] => rfl
  | _ :: L => ⟨H', .inl rfl, UnlTo.refl (L := L)⟩
theorem unl_run {X : Cx} {pins : List (Addr × Obj)} {σ1 : L2.St} {H1 : Hp} {s1 s' : Shared} (I1 : Inv X pins σ1 H1 s1) : ∀ {L : List Addr} {H' H'' : Hp}, Inv X pins σ H' s' → UnlTo H1 L H' H'' → Inv X pins σ H'' s'
  | [], H', H'', I, u => by cases u; exact I
  | d :: L, H', H'', I, ⟨Hm, h, u⟩ => by
    rcases h with rfl | ⟨v, od, h1, mu, h2, rfl⟩
    · exact unl_run I1 (L := L) I u
    · exact unl_run I1 (L := L) (I.unlock h2 (I1.nofrz h1 mu)) u
theorem dk_mut {u : HO} (h : Dk u) : Mut (some u) := by cases u <;> first | exact trivial | exact h.elim
theorem unl_ex {H1 : Hp} : ∀ {L : List Addr} {H' : Hp}, (∀ d ∈ L, ∃ u, H1 d = some u ∧ (H' d = some u ∨ (Dk u ∧ ∃ ob, H' d = some (.frz ob u)))) → ∃ H'', UnlTo H1 L H' H'' ∧ (∀ d ∈ L, H'' d = H1 d) ∧ ∀ a, a ∉ L → H'' a = H' a
  | [], H', _ => ⟨H', rfl, fun _ h => by simp at h, fun _ _ => rfl⟩
  | d :: L, H', h => by
    have one : ∃ Hm, (Hm = H' ∨ ∃ u od, H1 d = some u ∧ Mut (some u) ∧ H' d = some (.frz od u) ∧ Hm = upd H' d u) ∧ Hm d = H1 d ∧ ∀ a, a ≠ d → Hm a = H' a := by
      obtain ⟨u, h1, q | ⟨k, ob, q⟩⟩ := h d List.mem_cons_self
      · exact ⟨H', .inl rfl, q.trans h1.symm, fun _ _ => rfl⟩
      · exact ⟨_, .inr ⟨u, ob, h1, dk_mut k, q, rfl⟩, upd_same.trans h1.symm, fun a ha => upd_ne ha⟩
    obtain ⟨Hm, hm, e1, e2⟩ := one
    obtain ⟨H'', u, q1, q2⟩ := unl_ex (L := L) (H' := Hm) (fun d' hd' => by
      obtain ⟨u, h1, q⟩ := h d' (List.mem_cons_of_mem _ hd')
      by_cases e : d' = d
      · subst e; exact ⟨u, h1, .inl (e1.trans h1)⟩
      · exact ⟨u, h1, by rw [e2 d' e]; exact q⟩)
    refine ⟨H'', ⟨Hm, hm, u⟩, fun d' hd' => ?_, fun a ha => ?_⟩
    · by_cases e : d' ∈ L
      · exact q1 d' e
      · rcases List.mem_cons.mp hd' with rfl | hd'
        · exact (q2 _ e).trans e1
        · exact absurd hd' e
    · rw [q2 a fun e => ha (List.mem_cons_of_mem _ e), e2 a fun e => ha (by rw [e]; exact List.mem_cons_self)]
/-- the addresses of some slots -/
def refOf (o : Option (Option V)) : Option Addr := match o with
  | some (some (.ref a)) => some a
  | _ => none
def adrs (σ : L2.St) (bo : List Nat) : List Addr := bo.filterMap fun i => refOf (σ[i]?)
theorem mem_adrs {bo : List Nat} {a : Addr} : a ∈ adrs σ bo ↔ ∃ i ∈ bo, σ[i]? = some (some (.ref a)) := by
  unfold adrs
  rw [List.mem_filterMap]
  constructor
  · rintro ⟨i, hi, e⟩
    refine ⟨i, hi, ?_⟩
    unfold refOf at e
    split at e
    · rename_i b q
      cases e; exact q
    · cases e
  · rintro ⟨i, hi, e⟩
    exact ⟨i, hi, by rw [e]; rfl⟩
theorem argD_bo : ∀ {md : List Bool} {rs : List R} {ds : List D} {io bo : List Nat}, argD S md rs = some (ds, io, bo) → ∀ i ∈ bo, ∃ t d, S[i]? = some (.own t d)
  | [], [], ds, io, bo, e => by cases e; intro i hi; simp at hi
  | false :: ms, r :: rs, ds, io, bo, e => by
    unfold argD at e
    cases el : look S r with
    | none => rw [el] at e; cases e
    | some d =>
      cases ea : argD S ms rs with
      | none => rw [el, ea] at e; cases e
      | some q =>
        obtain ⟨ds', io', bo'⟩ := q
        rw [el, ea] at e
        cases e
        have ih := argD_bo (md := ms) ea
        intro i hi
        cases r with
        | v _ => exact ih i hi
        | f _ => exact ih i hi
        | «at» j =>
          simp only at hi
          split at hi
          · rename_i t d e1
            rcases List.mem_cons.mp hi with rfl | hi
            · exact ⟨t, d, e1⟩
            · exact ih i hi
          · exact ih i hi
  | true :: ms, .at j :: rs, ds, io, bo, e => by
    unfold argD at e
    cases es : S[j]? with
    | none => rw [es] at e; cases e
    | some w =>
      cases ea : argD S ms rs with
      | none => rw [es, ea] at e; cases w <;> cases e
      | some q =>
        obtain ⟨ds', io', bo'⟩ := q
        rw [es, ea] at e
        cases w with
        | un => cases e
        | shr d => cases e
        | own t d => cases e; exact argD_bo (md := ms) ea
  | [], _ :: _, _, _, _, e => by cases e
  | true :: _, .v _ :: _, _, _, _, e => by cases e
  | true :: _, .f _ :: _, _, _, _, e => by cases e
  | false :: _, [], _, _, _, e => by cases e
  | true :: _, [], _, _, _, e => by cases e
theorem own_pl {a : Addr} {d : D} {o : HO} (h : OwnAt z G H a d) (e : H a = some o) : Pl o := by
  cases d with
  | lst l => obtain ⟨xs, e', r⟩ := h; rw [e] at e'; cases e'; trivial
  | dct l => obtain ⟨vs, e', k, r⟩ := h; rw [e] at e'; cases e'; trivial
  | dtt l => obtain ⟨vs, e', k, r⟩ := h; rw [e] at e'; cases e'; trivial
  | ins c l => obtain ⟨dx, vs, e', k, r⟩ := h; rw [e] at e'; cases e'; trivial
  | _ => exact h.elim
theorem own_not_tbl {a : Addr} {d : D} {ps : Array Value} (h : OwnAt z G H a d) (e : H a = some (.tbl ps)) : False := own_pl h e
/-- a call, what it locked being freed behind it -/
def tCallU (sp : Sp) (E : L2.St → XK) (t : TA) : TE := fun σ H Q => t σ H fun vs H1 => ∃ L : List Addr, sp vs H1 (fun v H' => ∃ H'', UnlTo H1 L H' H'' ∧ Q v H'') (E σ)
theorem call_run {cl : Brings} {md : List Bool} {Fn : List D → FR} {fl : M (List R)} (hcl : z.cl = cl) (si : SI z S σ H G) (h : Post z W S G H σ Q (callM md Fn fl S)) :
    tDL z W fl σ H fun vs H1 => ∃ L : List Addr, spD cl z.K md Fn vs H1 (fun v H' => ∃ H'', UnlTo H1 L H' H'' ∧ Q v H'') (WE W σ) := by
  subst hcl
  refine (stepL si h).mono fun vs H1 ⟨rs, S1, G1, si1, _, dl, h1⟩ => ?_
  cases ea : argD S1 md rs with
  | none => rw [ea] at h1; exact h1.elim
  | some q =>
    obtain ⟨ds, io, bo⟩ := q
    rw [ea] at h1
    by_cases hok : io.Nodup ∧ ∀ i ∈ io, i ∉ bo
    · have h1 : Post z W S1 G1 H1 σ Q (if io.Nodup ∧ (∀ i ∈ io, i ∉ bo) then (match Fn ds with
        | .no => .no
        | .ret d fr iod => .ok (if fr then .f d else .v d) (callK S1 io bo (flatR fr d) iod)
        | .ex c w iod => .ex c w (callK S1 io bo false iod)) else .no) := h1
      rw [if_pos hok] at h1
      obtain ⟨nd, dis⟩ := hok
      obtain ⟨Gc, sic, gc⟩ := freezeL_run (bo := bo) si1
      have ioT : ∀ (j : Nat) t d, S1[j]? = some (.own t d) → j ∈ io → (freezeL S1 bo)[j]? = some (.own t d) := fun j t d e hj => freezeL_out e (dis j hj)
      obtain ⟨args, hio⟩ := argD_run (T := freezeL S1 bo) dl ea sic gc.ge (fun j d e => freezeL_shr e) (fun j t d e hj => freezeL_in e hj) ioT
      have hio' : IOs (freezeL S1 bo) σ io (ios md vs) := by
        have aux : ∀ {io' : List Nat} {As : List Addr}, (∀ i ∈ io', i ∈ io) → IOs S1 σ io' As → IOs (freezeL S1 bo) σ io' As := by
          intro io' As hs hp
          induction hp with
          | nil => exact .nil
          | cons a b ih =>
            obtain ⟨⟨t, d, e⟩, e2⟩ := a
            exact .cons ⟨⟨t, d, ioT _ t d e (hs _ List.mem_cons_self)⟩, e2⟩ (ih fun i hi => hs i (List.mem_cons_of_mem _ hi))
        exact aux (fun _ h => h) hio
      have ndA : (ios md vs).Nodup := by
        have aux : ∀ {io' : List Nat} {As : List Addr}, IOs S1 σ io' As → io'.Nodup → As.Nodup := by
          intro io' As hp
          induction hp with
          | nil => intro _; exact List.nodup_nil
          | cons a b ih =>
            intro nd
            obtain ⟨n1, n2⟩ := List.nodup_cons.mp nd
            refine List.nodup_cons.mpr ⟨fun hm => ?_, ih n2⟩
            obtain ⟨i, hi, ⟨t', d', e3⟩, e4⟩ := Paired.memR b hm
            obtain ⟨⟨t, d, e⟩, e2⟩ := a
            exact n1 (by rw [si1.sep _ i _ _ _ _ _ e e3 e2 e4]; exact hi)
        exact aux hio nd
      have hlen : ∀ {iod : List D} {H' G' : Hp}, OwnsL ⟨z.K, z.cl, [], fun _ => none⟩ G' H' (ios md vs) iod → io.length = iod.length := fun ow => (Paired.length hio).trans (Paired.length ow)
      -- behind the call: nothing was lent, or it stays shared
      have plain : ∀ {iod : List D} {H' G' : Hp}, Around' (ios md vs) H1 H' Gc G' → OwnsL ⟨z.K, z.cl, [], fun _ => none⟩ G' H' (ios md vs) iod →
          SI z (setIO (freezeL S1 bo) io iod) σ H' G' ∧ Go S1 (setIO (freezeL S1 bo) io iod) σ σ H1 H' G1 G' := fun {iod H' G'} ar ow => by
        obtain ⟨s2, g2⟩ := around_si sic ar hio' nd (Paired.mapP ow fun _ _ o => o.uz)
        exact ⟨s2, gc.trans g2⟩
      have boA : ∀ a ∈ adrs σ bo, ∃ (i : Nat) (t : Option Nat) (d : D), i ∈ bo ∧ S1[i]? = some (.own t d) ∧ σ[i]? = some (some (.ref a)) := fun a ha => by
        obtain ⟨i, hi, e⟩ := mem_adrs.mp ha
        obtain ⟨t, d, e1⟩ := argD_bo ea i hi
        exact ⟨i, t, d, hi, e1, e⟩
      have boNot : ∀ a ∈ adrs σ bo, a ∉ ios md vs := fun a ha hm => by
        obtain ⟨i, t, d, hi, e1, e2⟩ := boA a ha
        obtain ⟨j, hj, ⟨t', d', e3⟩, e4⟩ := Paired.memR hio hm
        exact dis j hj (by rw [si1.sep j i _ _ _ _ a e3 e1 e4 e2]; exact hi)
      -- .. or what was lent comes back
      have lent : ∀ {iod : List D} {H' G' : Hp}, iod.all D.flat = true → Around' (ios md vs) H1 H' Gc G' → OwnsL ⟨z.K, z.cl, [], fun _ => none⟩ G' H' (ios md vs) iod →
          ∃ H'', UnlTo H1 (adrs σ bo) H' H'' ∧ SI z (setIO S1 io iod) σ H'' G1 ∧ Go S1 (setIO S1 io iod) σ σ H1 H'' G1 G1 ∧ (∀ a, H1 a = none → H'' a = H' a) := fun {iod H' G'} hf ar ow => by
        obtain ⟨H'', u, k1, k2⟩ := unl_ex (H1 := H1) (L := adrs σ bo) (H' := H') (fun a ha => by
          obtain ⟨i, t, d, _, e1, e2⟩ := boA a ha
          obtain ⟨_, o, ho⟩ := si1.ownFree ⟨i, t, d, e1, e2⟩
          refine ⟨o, ho, ?_⟩
          rcases ar.fr a o ho (boNot a ha) with q | ⟨_, q⟩ | ⟨_, ps, _, q, _⟩
          · exact .inl q
          · exact .inr q
          · subst q
            obtain ⟨b, e3, _, ow', _⟩ := si1.own i t d e1
            rw [e2] at e3; cases e3
            exact (own_not_tbl ow' ho).elim)
        have fresh : ∀ a, H1 a = none → H'' a = H' a := fun a h => k2 a fun ha => by
          obtain ⟨i, t, d, _, e1, e2⟩ := boA a ha
          obtain ⟨_, o, ho⟩ := si1.ownFree ⟨i, t, d, e1, e2⟩
          rw [h] at ho; cases ho
        have gcG : ∀ a u, Gc a = some u → a ∉ adrs σ bo → G1 a = some u ∨ H1 a = none := fun a u h na => by
          rcases gc.nw a u h with q | q | ⟨i, t, d, e1, e2⟩
          · exact .inl q
          · exact .inr q
          · exfalso
            by_cases hi : i ∈ bo
            · exact na (mem_adrs.mpr ⟨i, hi, e2⟩)
            · obtain ⟨b, e3, g3, _⟩ := sic.own i t d (freezeL_out e1 hi)
              rw [e2] at e3; cases e3
              rw [g3] at h; cases h
        have frame : ∀ a o, H1 a = some o → a ∉ ios md vs → Lk G1 a o H'' := fun a o h n => by
          by_cases ha : a ∈ adrs σ bo
          · exact .inl ((k1 a ha).trans h)
          · rcases ar.fr a o h n with q | ⟨q, k, ob, q2⟩ | ⟨⟨u, q⟩, ps, ps', k, q2⟩
            · exact .inl ((k2 a ha).trans q)
            · rcases ar.nw a o q with q | q
              · rcases gcG a o q ha with q | q
                · exact .inr (.inl ⟨q, k, ob, (k2 a ha).trans q2⟩)
                · rw [h] at q; cases q
              · rw [h] at q; cases q
            · rcases ar.nw a u q with q | q
              · rcases gcG a u q ha with q | q
                · exact .inr (.inr ⟨⟨u, q⟩, ps, ps', k, (k2 a ha).trans q2⟩)
                · rw [h] at q; cases q
              · rw [h] at q; cases q
        have ar1 : Around' (ios md vs) H1 H'' G1 G1 := by
          refine ⟨.refl _, fun a u e => ?_, frame, fun a h => ?_, fun a u e => .inl e⟩
          · have na : a ∉ adrs σ bo := fun ha => by
              obtain ⟨i, t, d, _, e1, e2⟩ := boA a ha
              obtain ⟨g, _⟩ := si1.ownFree ⟨i, t, d, e1, e2⟩
              rw [g] at e; cases e
            rcases ar.le a u (ar.ge _ _ (gc.ge _ _ e)) with q | ⟨k, o, q⟩ | q
            · exact .inl ⟨(k2 a na).trans q.1, q.2⟩
            · exact .inr (.inl ⟨k, o, (k2 a na).trans q⟩)
            · refine .inr (.inr (q.keep fun b o eb nb => ?_))
              by_cases hb : b ∈ adrs σ bo
              · exfalso
                obtain ⟨i, t, d, _, e1, e2⟩ := boA b hb
                obtain ⟨p, e3, _, ow', _⟩ := si1.own i t d e1
                rw [e2] at e3; cases e3
                obtain ⟨ob, hob⟩ := ow'.there
                rcases ar.fr b ob hob (boNot b hb) with q1 | ⟨_, _, _, q1⟩ | ⟨_, _, _, q1, _⟩
                · rw [q1] at eb; cases eb; exact nb (own_pl ow' hob)
                · rw [q1] at eb; cases eb; exact nb trivial
                · subst q1; exact own_not_tbl ow' hob
              · exact (k2 b hb).trans eb
          · by_cases ha : a ∈ adrs σ bo
            · rw [k1 a ha] at h; exact h
            · rw [k2 a ha] at h; exact ar.th a h
        have ow1 : OwnsL z G1 H'' (ios md vs) iod := by
          have aux : ∀ {As : List Addr} {iod : List D}, (∀ a ∈ As, a ∉ adrs σ bo) → iod.all D.flat = true → OwnsL ⟨z.K, z.cl, [], fun _ => none⟩ G' H' As iod → OwnsL z G1 H'' As iod := by
            intro As iod hA hf hp
            induction hp with
            | nil => exact .nil
            | cons a b ih =>
              simp only [List.all_cons, Bool.and_eq_true] at hf
              refine .cons ?_ (ih (fun x hx => hA x (List.mem_cons_of_mem _ hx)) hf.2)
              exact (OwnAt.flat hf.1 a.uz).mono (GLe.refl _) fun o e => (k2 _ (hA _ List.mem_cons_self)).trans e
          exact aux (fun a ha hb => boNot a hb ha) hf ow
        obtain ⟨s2, g2⟩ := around_si si1 ar1 hio nd ow1
        exact ⟨H'', u, s2, g2, fresh⟩
      refine ⟨adrs σ bo, Gc, ds, sic.le, sic.tab, args, ndA, ?_⟩
      cases er : Fn ds with
      | no => rw [er] at h1; exact h1.elim
      | ret d fr iod =>
        rw [er] at h1
        intro v H' G' ar ow dn
        have h1 : Post z W S1 G1 H1 σ Q (.ok (if fr then .f d else .v d) (callK S1 io bo (flatR fr d) iod)) := h1
        have notOwn : ∀ {T : SS} {p : Addr} {H2 G2 : Hp}, SI z T σ H2 G2 → (∀ (i : Nat) t d, T[i]? = some (.own t d) → ∃ t' d', S1[i]? = some (.own t' d')) → H1 p = none → ¬ Owns T σ p := fun {T p H2 G2} si2 back hp ⟨i, t, d', q1, q2⟩ => by
          obtain ⟨t', d'', q3⟩ := back i t d' q1
          obtain ⟨_, ob, hob⟩ := si1.ownFree ⟨i, t', d'', q3, q2⟩
          rw [hp] at hob; cases hob
        have backIO : ∀ {T : SS}, (∀ (i : Nat) t d, T[i]? = some (.own t d) → ∃ t' d', S1[i]? = some (.own t' d')) → ∀ (i : Nat) t d, (setIO T io iod)[i]? = some (.own t d) → ∃ t' d', S1[i]? = some (.own t' d') := fun {T} back i t d q => by
          rcases setIO_get nd (hlen ow) q with ⟨_, h⟩ | ⟨k, d0, _, _, ⟨t', d0', h, _⟩ | ⟨_, h⟩⟩
          · exact back i _ _ h
          · exact back i _ _ h
          · exact absurd rfl (h t d)
        have backF : ∀ (i : Nat) t d, (freezeL S1 bo)[i]? = some (.own t d) → ∃ t' d', S1[i]? = some (.own t' d') := fun i t d q => by
          cases es : S1[i]? with
          | none =>
            have hl : (freezeL S1 bo).length = S1.length := by rw [sic.len, si1.len]
            have := (List.getElem?_eq_some_iff.mp q).1
            have := List.getElem?_eq_none_iff.mp es
            omega
          | some w =>
            cases w with
            | own t0 d0 => exact ⟨t0, d0, rfl⟩
            | shr d0 => rw [freezeL_shr es] at q; cases q
            | un =>
              exfalso
              have : ∀ {bo : List Nat} {S : SS}, S[i]? = some .un → (freezeL S bo)[i]? = some .un := by
                intro bo
                induction bo with
                | nil => intro S h; exact h
                | cons b bo ih => intro S h; exact ih (by rw [freeze_get h]; split <;> rfl)
              rw [this es] at q; cases q
        by_cases hb : (bo.isEmpty || (flatR fr d && iod.all D.flat)) = true
        · unfold callK at h1
          rw [if_pos hb] at h1
          by_cases hbo : bo.isEmpty = true
          · have : bo = [] := List.isEmpty_iff.mp hbo
            subst this
            obtain ⟨s2, g2⟩ := plain ar ow
            refine ⟨H', .refl, h1 v H' G' s2 g2 ?_⟩
            cases fr with
            | false => exact Rep.uz dn
            | true =>
              obtain ⟨p, e1, e2, e3, e4⟩ := dn
              exact ⟨p, e1, e2, e3, notOwn s2 (backIO fun i t d q => ⟨t, d, q⟩) e2, e4.uz⟩
          · have hf : flatR fr d = true ∧ iod.all D.flat = true := by
              simp only [Bool.or_eq_true, Bool.and_eq_true] at hb
              exact hb.resolve_left hbo
            obtain ⟨H'', u, s2, g2, fresh⟩ := lent hf.2 ar ow
            refine ⟨H'', u, h1 v H'' G1 s2 g2 ?_⟩
            cases fr with
            | false => exact Rep.sc hf.1 (Rep.uz dn)
            | true =>
              obtain ⟨p, e1, e2, e3, e4⟩ := dn
              exact ⟨p, e1, e2, si1.le.none e2, notOwn s2 (backIO fun i t d q => ⟨t, d, q⟩) e2, (OwnAt.flat hf.1 e4.uz).mono (GLe.refl _) fun o e => (fresh p e2).trans e⟩
        · unfold callK at h1
          rw [if_neg hb] at h1
          obtain ⟨s2, g2⟩ := plain ar ow
          refine ⟨H', .refl, h1 v H' G' s2 g2 ?_⟩
          cases fr with
          | false => exact Rep.uz dn
          | true =>
            obtain ⟨p, e1, e2, e3, e4⟩ := dn
            exact ⟨p, e1, e2, e3, notOwn s2 (backIO backF) e2, e4.uz⟩
      | ex c w iod =>
        rw [er] at h1
        intro dd v H' G' ar ow hd r
        obtain ⟨s2, g2⟩ := plain ar ow
        have h1 : Post z W S1 G1 H1 σ Q (.ex c w (callK S1 io bo false iod)) := h1
        unfold callK at h1
        by_cases hbo : bo.isEmpty = true
        · have : bo = [] := List.isEmpty_iff.mp hbo
          subst this
          exact h1 H' G' s2 g2 dd v hd r.uz
        · rw [if_neg (by simp [hbo])] at h1
          exact h1 H' G' s2 g2 dd v hd r.uz
    · have h1 : Post z W S1 G1 H1 σ Q (if io.Nodup ∧ (∀ i ∈ io, i ∉ bo) then (match Fn ds with
        | .no => .no
        | .ret d fr iod => .ok (if fr then .f d else .v d) (callK S1 io bo (flatR fr d) iod)
        | .ex c w iod => .ex c w (callK S1 io bo false iod)) else .no) := h1
      rw [if_neg hok] at h1
      exact h1.elim
end
section
variable {X : Cx} {z : Dx} {W : WX} {k : Nat} {f : Addr} {fd : FuncData} {ps : List Str} {x : Str} {p pos : Pos} {e : Expr} {es : List Expr} {fl : M (List R)} {md : List Bool} {Fn : List D → FR} {cl : Brings}
theorem run_fnU {sp : Sp} {E : L2.St → XK} {pins : List (Addr × Obj)} {σ : L2.St} {H : Hp} {s : Shared} {Q : VK} {us : List Value} {vs : List V} {L : List Addr} (F : FnOk X.prog X.w X.K X.mg X.base (L2.CX X.prog X.w) k f fd ps sp) (hr : Room k X.A) (hb : Binds X.K fd ps []) (hx : PassesAt (L2.CX X.prog X.w) X σ (E σ))
    (I : Inv X pins σ H s) (r : Vals vs us) (h : sp vs H (fun v H' => ∃ H'', UnlTo H L H' H'' ∧ Q v H'') (E σ)) : wpAny (model X.prog X.w) X.A (call (.ref f) us) (EP X pins σ Q) X.xe s := by
  refine thn (run_fnSD F hr hb (dvs := []) .nil hx I r (by rw [List.append_nil]; exact h)) fun u s' hh => ?_
  obtain ⟨v, H', I', rv, H'', un, q⟩ := hh
  exact ⟨v, H'', unl_run I I' un, rv, q⟩
theorem E_call (c : Ct X z W) (F : FnOk X.prog X.w X.K X.mg X.base (L2.CX X.prog X.w) k f fd ps (spD cl X.K md Fn)) (hcl : z.cl = cl) (hr : Room k X.A) (hg : Gl X x) (hm : X.mg x = some (.ref f)) (hk : PySem.W.keepIn X.K (.ref f) = true) (hb : Binds X.K fd ps [])
    (hl : L X z W (e :: es) fl) (hdb : (x == ("__debug__" : Str)) = false := by decide) (he : starEach (e :: es) X.env = (false, eval e X.env) :: starEach es X.env := by rfl) (hpl : (backTo pos (starEach es X.env)).any (·.1) = false := by rfl) :
    E X z W (.Call (.Name x p) (e :: es) [] pos) (callM md Fn fl) := by
  refine ⟨⟨fun pins s σ H Q I ⟨S, G, si, h⟩ => ?_⟩, c.hk⟩
  refine wpAny_Call_Name_kw (ld_glob I hg hm ?_ hdb)
  refine PySem.W.callWith_K (h₀ := X.base) I.ok.mod.kin hk (thn (hl.pa.run pos pins s σ H _ I (call_run hcl si h)) fun us s1 ⟨vs, H1, I1, r, L, q⟩ => ⟨I1.kIn, ?_⟩) he hpl
  exact run_fnU F hr hb (passAt c.tk σ) I1 r (by rw [← c.hk]; exact q)
theorem E_call0 (c : Ct X z W) (F : FnOk X.prog X.w X.K X.mg X.base (L2.CX X.prog X.w) k f fd ps (spD cl X.K md Fn)) (hcl : z.cl = cl) (hr : Room k X.A) (hg : Gl X x) (hm : X.mg x = some (.ref f)) (hk : PySem.W.keepIn X.K (.ref f) = true) (hb : Binds X.K fd ps [])
    (hdb : (x == ("__debug__" : Str)) = false := by decide) : E X z W (.Call (.Name x p) [] [] pos) (callM md Fn sNil) := by
  refine ⟨⟨fun pins s σ H Q I ⟨S, G, si, h⟩ => ?_⟩, c.hk⟩
  refine wpAny_Call_Name_kw (ld_glob I hg hm ?_ hdb)
  obtain ⟨S', G', si', q⟩ := call_run (z := z) hcl si h
  obtain ⟨L, q⟩ := q [] H G' si' .refl .nil
  exact PySem.W.callWith_K0 I.kIn hk (run_fnU (us := []) (vs := []) (E := WE W) F hr hb (passAt c.tk σ) I .nil (by rw [← c.hk]; exact q))
end
end L2.Dl
/-! What is walked: lists, tuples, dicts, texts, ranges. Comprehensions. -/
namespace L2.Dl
open PySem PySem.Spec PyProof.Rows

/-- an expression, its dict locked -/
def lkE (td : TE) : TE := fun σ H Q => td σ H fun x H1 => Q x H1 ∨ ∃ d u, x = .ref d ∧ H1 d = some u ∧ Mut (some u) ∧ ∀ od, Q x (upd H1 d (.frz od u))
theorem PE.lk {X : Cx} {e : Expr} {td : TE} (h : PE X e td) : PE X e (lkE td) := by
  refine ⟨fun pins s σ H Q I q => ?_⟩
  refine thn (h.run pins s σ H _ I q) fun v s1 hh => ?_
  obtain ⟨x, H1, I1, r1, q1⟩ := hh
  rcases q1 with q1 | ⟨d, u, rfl, hd, mu, q1⟩
  · exact ⟨x, H1, I1, r1, q1⟩
  · obtain ⟨od, I2⟩ := I1.lock hd mu
    exact ⟨_, _, I2, r1, q1 od⟩
def keyD : Key → D
  | .inl i => .int i
  | .inr s => .str s
theorem rep_key {z : Dx} {G : Hp} : ∀ k : Key, Rep z G (kV k) (keyD k)
  | .inl i => .int i
  | .inr s => .str s
theorem Pl.of {u : HO} (k : Dk u) : Pl u := by cases u <;> first | trivial | exact k.elim
section
variable {z : Dx} {W : WX} {S S1 : SS} {G G1 H H1 : Hp} {σ : L2.St} {X : Cx}
theorem SI.lock {d : Addr} {u : HO} {ob : Obj} (si : SI z S σ H G) (g : G d = some u) (k : Dk u) (h : H d = some u) : SI z S σ (upd H d (.frz ob u)) G ∧ Go S S σ σ H (upd H d (.frz ob u)) G G := by
  refine ⟨⟨si.len, fun a v e => ?_, si.shr, fun i t d' e => ?_, si.sep, fun a e => si.dom a ?_, si.tab⟩, .refl _, fun a o e n => ?_, fun _ h => .inl h, fun _ _ h => .inl h, fun a e => ?_⟩
  · by_cases ha : a = d
    · subst ha; rw [g] at e; cases e; exact .inr (.inl ⟨k, ob, upd_same⟩)
    · exact (si.le a v e).imp (fun q => ⟨by rw [upd_ne ha]; exact q.1, q.2⟩) (Or.imp (fun q => by rw [upd_ne ha]; exact q) fun q => q.keep fun b o e n => by
        have nb : b ≠ d := fun z => by subst z; rw [h] at e; cases e; exact n (Pl.of k)
        rw [upd_ne nb]; exact e)
  · obtain ⟨a, q, ga, o, t1, t2⟩ := si.own i t d' e
    have ha : a ≠ d := fun q => by subst q; rw [ga] at g; cases g
    exact ⟨a, q, ga, o.mono (.refl _) fun o' e' => by rw [upd_ne ha]; exact e', t1, t2⟩
  · by_cases ha : a = d
    · subst ha; rw [upd_same] at e; cases e
    · rw [upd_ne ha] at e; exact e
  · by_cases ha : a = d
    · subst ha; rw [h] at e; cases e; exact .inr (.inl ⟨g, k, ob, upd_same⟩)
    · exact .inl (by rw [upd_ne ha]; exact e)
  · by_cases ha : a = d
    · subst ha; rw [upd_same] at e; cases e
    · rw [upd_ne ha] at e; exact e
/-- what an iteration by data goes through -/
def seqOf : D → Option (List D)
  | .lst l => some l
  | .tup l => some l
  | .dct l => some (l.map fun p => keyD p.1)
  | .str s => some (s.cps.toList.map fun c => .str ⟨#[c]⟩)
  | .scr l => some (l.map .int)
  | _ => none
def iSeq (fa : M R) : M (List D) := fun S => (fa S).bind fun ra S1 => match valR S1 ra with
  | none => .no
  | some (d, S2) => match seqOf d with
    | none => .no
    | some l => .ok l S2
theorem walkL_rep {xs : List V} {l : List D} (r : RepL z G xs l) : ∀ i d Hc x (H' : Hp) Gc, l[i]? = some d → GLe G Gc → LeH Gc Hc → YAt xs i Hc x H' → ∃ G', Ext Hc H' Gc G' ∧ Rep z G' x d := fun i d Hc x H' Gc e ge le y => by
  obtain ⟨rfl, hx⟩ := y
  obtain ⟨v, hv, rv⟩ := r.get e
  rw [hx] at hv; cases hv
  exact ⟨Gc, .refl le, rv.mono ge⟩
theorem ints_rep {z : Dx} {G : Hp} : ∀ l : List Int, RepL z G (l.map V.int) (l.map D.int)
  | [] => .nil
  | i :: l => .cons (.int i) (ints_rep l)
theorem IT_seq {tg e : Expr} {fa : M R} (he : E X z W e fa) : IT X z W tg e (iSeq fa) := by
  have hk := he.k
  refine ⟨PI.le (PI.or (pi_list he.pe) (PI.or (pi_tup he.pe) (PI.or (pi_keys (PE.lk he.pe)) (pi_str he.pe)))) fun σ H Q ⟨S, G, si, h⟩ => ?_⟩
  -- which of them, by data
  cases ef : fa S with
  | no => rw [iSeq, ef] at h; exact h.elim
  | ex c w S1 =>
    refine .inl ⟨S, G, si, ?_⟩
    rw [iSeq, ef] at h
    rw [ef]
    exact h
  | ok ra S1 =>
    cases ev : valR S1 ra with
    | none => rw [iSeq, ef, bind_ok, ev] at h; exact h.elim
    | some p =>
      obtain ⟨d, S2⟩ := p
      cases es : seqOf d with
      | none => rw [iSeq, ef, bind_ok, ev] at h; simp only [es] at h; exact h.elim
      | some l =>
        have h1 : PostI z W S G H σ Q (.ok l S2) := by
          rw [iSeq, ef, bind_ok, ev] at h
          simp only [es] at h
          exact h
        have main : ∀ {K : V → Hp → Prop}, (∀ x H1 G2, SI z S2 σ H1 G2 → Rep z G2 x d → (∀ J H' G', SI z S2 σ H' G' → Go S2 S2 σ σ H1 H' G2 G' → WalkD z J l S2 σ H' G' → Q J H') → K x H1) → tD z W fa σ H K := fun {K} kk => by
          refine ⟨S, G, si, ?_⟩
          rw [ef]
          intro v H1 G1 si1 g1 dn
          obtain ⟨G2, si2, g2, _, dn2⟩ := settle si1 g1 dn
          obtain ⟨G3, si3, g3, r⟩ := valR_run si2 dn2 ev
          exact kk v H1 G3 si3 r fun J H' G' si' g' w => h1 J H' G' si' ((g2.trans g3).trans g') w
        have notO : ∀ {a : Addr} {o : HO} {H1 G2 : Hp}, SI z S2 σ H1 G2 → G2 a = some o → ¬ Owns S2 σ a := fun {a o H1 G2} si2 g q => by
          obtain ⟨g', _⟩ := si2.ownFree q
          rw [g] at g'; cases g'
        cases d with
        | lst l' =>
          cases es
          refine .inl (main fun x H1 G2 si2 r k => ?_)
          cases r with
          | lst e rl =>
            rename_i a xs
            refine ⟨a, rfl, ⟨_, SqL.of (si2.le.lst e)⟩, k _ H1 G2 si2 .refl ⟨_, _, by rw [← rl.length]; exact walk_list (xs := xs), fun H' fr => ?_, walkL_rep rl⟩⟩
            exact SqL.of (fr a _ (si2.le.lst e) (fun z => z) (notO si2 e))
        | tup l' =>
          cases es
          refine .inr (.inl (main fun x H1 G2 si2 r k => ?_))
          cases r with
          | tup e rl =>
            rename_i a xs
            rw [hk] at e
            refine ⟨a, rfl, ⟨_, si2.le.sqT e⟩, k _ H1 G2 si2 .refl ⟨_, _, by rw [← rl.length]; exact walk_tup (K := X.K) (xs := xs), fun H' fr => ?_, walkL_rep rl⟩⟩
            rcases e with (e | ⟨o, e⟩) | e
            · rcases si2.le a _ e with q | ⟨q, _⟩ | ⟨_, _, q, _⟩
              · exact .inl (.inl (fr a _ q.1 (fun z => z) (notO si2 e)))
              · exact q.elim
              · cases q
            · exact .inl (.inr ⟨o, fr a _ (si2.le.frz e) (fun z => z) (notO si2 e)⟩)
            · exact .inr e
        | dct l' =>
          cases es
          refine .inr (.inr (.inl (main fun x H1 G2 si2 r k => ?_)))
          cases r with
          | dct e kk rl =>
            rename_i a vs
            have hlen : vs.length = l'.length := by have := congrArg List.length kk; simpa using this
            have fin : ∀ (od : Obj) (H2 : Hp), H2 a = some (.frz od (.dK vs)) → SI z S2 σ H2 G2 → Go S2 S2 σ σ H1 H2 G2 G2 → Q (Itk a od vs) H2 := fun od H2 h2 si3 g3 => by
              refine k _ H2 G2 si3 g3 ⟨_, _, by rw [List.length_map, ← hlen]; exact walk_keys (o := od) (kvs := vs), fun H' fr => fr a _ h2 (fun z => z) (notO si2 e), fun i d Hc x H' Gc e2 ge le y => ?_⟩
              obtain ⟨rfl, k', v, e3, rfl⟩ := y
              refine ⟨Gc, .refl le, ?_⟩
              have e4 : (l'.map (·.1))[i]? = some k' := by rw [← kk, List.getElem?_map, e3]; rfl
              rw [List.getElem?_map] at e2 e4
              cases q : l'[i]? with
              | none => rw [q] at e4; cases e4
              | some p =>
                rw [q] at e2 e4
                cases e2; cases e4
                exact rep_key _
            rcases si2.le a _ e with q | ⟨_, od, q⟩ | ⟨_, _, q, _⟩
            · refine .inr ⟨a, _, rfl, q.1, trivial, fun od => ⟨a, od, rfl, .inl ⟨vs, upd_same, ?_⟩⟩⟩
              obtain ⟨si3, g3⟩ := si2.lock (ob := od) e trivial q.1
              exact fin od _ upd_same si3 g3
            · exact .inl ⟨a, od, rfl, .inl ⟨vs, q, fin od H1 q si2 .refl⟩⟩
            · cases q
        | str y =>
          cases es
          refine .inr (.inr (.inr (main fun x H1 G2 si2 r k => ?_)))
          cases r
          refine ⟨y, rfl, k _ H1 G2 si2 .refl ⟨_, _, by rw [List.length_map, Array.length_toList]; exact walk_str (z := y), fun H' _ => trivial, fun i d Hc x H' Gc e2 ge le yy => ?_⟩⟩
          obtain ⟨rfl, c, e3, rfl⟩ := yy
          refine ⟨Gc, .refl le, ?_⟩
          rw [List.getElem?_map, Array.getElem?_toList, e3] at e2
          cases e2
          exact .str _
        | scr l' =>
          cases es
          refine .inl (main fun x H1 G2 si2 r k => ?_)
          cases r with
          | scr e =>
            rename_i a
            rw [hk] at e
            refine ⟨a, rfl, ⟨_, si2.le.sqL e⟩, k _ H1 G2 si2 .refl ⟨_, _, by rw [List.length_map, ← List.length_map (f := V.int)]; exact walk_list (K := X.K) (xs := l'.map V.int), fun H' fr => ?_, walkL_rep (ints_rep l')⟩⟩
            rcases e with (e | ⟨o, e⟩) | e
            · exact .inl (.inl (fr a _ (si2.le.lst e) (fun z => z) (notO si2 e)))
            · exact .inl (.inr ⟨o, fr a _ (si2.le.frz e) (fun z => z) (notO si2 e)⟩)
            · exact .inr e
        | _ => cases es
/-- d.values() -/
def iVal (fa : M R) : M (List D) := fun S => (fa S).bind fun ra S1 => match valR S1 ra with
  | some (.dct l, S2) => .ok (l.map (·.2)) S2
  | _ => .no
theorem dict_main {fa : M R} {QI : It → Hp → Prop} {f : List (Key × D) → List D} (si : SI z S σ H G)
    (h : PostI z W S G H σ QI ((fa S).bind fun ra S1 => match valR S1 ra with | some (.dct l, S2) => .ok (f l) S2 | _ => .no)) :
    tD z W fa σ H fun x H1 => ∃ S2 l a vs G2, SI z S2 σ H1 G2 ∧ x = .ref a ∧ G2 a = some (.dK vs) ∧ vs.map (·.1) = l.map (·.1) ∧ RepL z G2 (vs.map (·.2)) (l.map (·.2)) ∧ ¬ Owns S2 σ a ∧ ∀ J H' G', SI z S2 σ H' G' → Go S2 S2 σ σ H1 H' G2 G' → WalkD z J (f l) S2 σ H' G' → QI J H' := by
  refine (stepI si h).mono fun x H1 ⟨ra, S1, G1, si1, g1, dn, h1⟩ => ?_
  cases ev : valR S1 ra with
  | none => rw [ev] at h1; exact h1.elim
  | some p =>
    obtain ⟨d, S2⟩ := p
    rw [ev] at h1
    obtain ⟨G3, si3, g3, r⟩ := valR_run si1 dn ev
    cases d with
    | dct l =>
      cases r with
      | dct e kk rl =>
        refine ⟨S2, l, _, _, G3, si3, rfl, e, kk, rl, fun q => ?_, fun J H' G' si' g' w => h1 J H' G' si' (g3.trans g') w⟩
        obtain ⟨g', _⟩ := si3.ownFree q
        rw [e] at g'; cases g'
    | _ => exact h1.elim
theorem lock_two {K : V → Hp → Prop} {a : Addr} {vs : List (Key × V)} {S2 : SS} {H1 G2 : Hp} (si2 : SI z S2 σ H1 G2) (e : G2 a = some (.dK vs))
    (k : ∀ od H2, H2 a = some (.frz od (.dK vs)) → SI z S2 σ H2 G2 → Go S2 S2 σ σ H1 H2 G2 G2 → K (.ref a) H2) : K (.ref a) H1 ∨ ∃ d u, V.ref a = .ref d ∧ H1 d = some u ∧ Mut (some u) ∧ ∀ od, K (.ref a) (upd H1 d (.frz od u)) := by
  rcases si2.le a _ e with q | ⟨_, od, q⟩ | ⟨_, _, q, _⟩
  · refine .inr ⟨a, _, rfl, q.1, trivial, fun od => ?_⟩
    obtain ⟨si3, g3⟩ := si2.lock (ob := od) e trivial q.1
    exact k od _ upd_same si3 g3
  · exact .inl (k od H1 q si2 .refl)
  · cases q
theorem IT_values {tg e : Expr} {fa : M R} {apos cpos : Pos} (he : E X z W e fa) (hbase : attributeBase e "values" X.env (eval e X.env) = eval e X.env := by rfl) (hline : (apos.endLine == cpos.line) = true := by rfl) :
    IT X z W tg (.Call (.Attribute e "values" apos) [] [] cpos) (iVal fa) := by
  refine ⟨PI.le (pi_values (PE.lk he.pe) hbase hline) fun σ H Q ⟨S, G, si, h⟩ => ?_⟩
  refine (dict_main (f := fun l => l.map (·.2)) si h).mono fun x H1 ⟨S2, l, a, vs, G2, si2, ex, e, kk, rl, no, k⟩ => ?_
  subst ex
  refine lock_two (K := fun x H1 => ∃ d o kvs, x = V.ref d ∧ H1 d = some (HO.frz o (HO.dK kvs)) ∧ Q (Itd d o kvs) H1) si2 e fun od H2 h2 si3 g3 => ⟨a, od, vs, rfl, h2, k _ H2 G2 si3 g3 ⟨_, _, by rw [List.length_map, ← List.length_map (f := Prod.fst), ← kk, List.length_map]; exact walk_values (o := od) (kvs := vs), fun H' fr => fr a _ h2 (fun z => z) no, fun i d Hc x H' Gc e2 ge le y => ?_⟩⟩
  obtain ⟨rfl, k', e3⟩ := y
  obtain ⟨v, hv, r⟩ := rl.get e2
  rw [List.getElem?_map, e3] at hv
  cases hv
  exact ⟨Gc, .refl le, r.mono ge⟩
/-- d.items() -/
def iItm (fa : M R) : M (List D) := fun S => (fa S).bind fun ra S1 => match valR S1 ra with
  | some (.dct l, S2) => .ok (l.map fun p => .tup [keyD p.1, p.2]) S2
  | _ => .no
theorem pair_rep {Hc G' : Hp} {T : Addr} {x y : V} {d e : D} (le : LeH G' Hc) (hT : Hc T = none) (rx : Rep z G' x d) (ry : Rep z G' y e) : Ext Hc (upd Hc T (.tup [x, y])) G' (upd G' T (.tup [x, y])) ∧ Rep z (upd G' T (.tup [x, y])) (.ref T) (.tup [d, e]) :=
  ⟨.new le hT, .tup (SqT.of upd_same) (.cons (rx.mono (upd_le (le.none hT))) (.cons (ry.mono (upd_le (le.none hT))) .nil))⟩
theorem IT_items {elts : List Expr} {kk : Nat} {tpos : Pos} {e : Expr} {fa : M R} {apos cpos : Pos} (he : E X z W e fa) (hbase : attributeBase e "items" X.env (eval e X.env) = eval e X.env := by rfl) (hline : (apos.endLine == cpos.line) = true := by rfl) :
    IT X z W (.Tuple elts kk tpos) (.Call (.Attribute e "items" apos) [] [] cpos) (iItm fa) := by
  refine ⟨PI.le (pi_items (PE.lk he.pe) hbase hline) fun σ H Q ⟨S, G, si, h⟩ => ?_⟩
  refine (dict_main (f := fun l => l.map fun p => .tup [keyD p.1, p.2]) si h).mono fun x H1 ⟨S2, l, a, vs, G2, si2, ex, e, kk, rl, no, k⟩ => ?_
  subst ex
  refine lock_two (K := fun x H1 => ∃ d o kvs, x = V.ref d ∧ H1 d = some (HO.frz o (HO.dK kvs)) ∧ Q (Iti d o kvs) H1) si2 e fun od H2 h2 si3 g3 => ⟨a, od, vs, rfl, h2, k _ H2 G2 si3 g3 ⟨_, _, by rw [List.length_map, ← List.length_map (f := Prod.fst), ← kk, List.length_map]; exact walk_items (o := od) (kvs := vs), fun H' fr => fr a _ h2 (fun z => z) no, fun i d Hc x H' Gc e2 ge le y => ?_⟩⟩
  obtain ⟨T, v1, v2, rfl, hT, rfl, e3, e4⟩ := y
  rw [List.getElem?_map] at e2
  cases q : l[i]? with
  | none => rw [q] at e2; cases e2
  | some p =>
    rw [q] at e2
    cases e2
    obtain ⟨v, hv, r⟩ := rl.get (i := i) (d := p.2) (by rw [List.getElem?_map, q]; rfl)
    have hk : (vs.map (·.1))[i]? = some p.1 := by rw [kk, List.getElem?_map, q]; rfl
    rw [List.getElem?_map] at hv hk
    have e3 : (vs[i]?.map fun kv => kV kv.1) = some v1 := e3
    have e4 : vs[i]?.map Prod.snd = some v2 := e4
    cases qv : vs[i]? with
    | none => rw [qv] at hv; cases hv
    | some pv =>
      rw [qv] at hv hk e3 e4
      have hk : pv.1 = p.1 := Option.some.inj hk
      cases hv; cases e3; cases e4
      have rk : Rep z Gc (kV pv.1) (keyD p.1) := by rw [← hk]; exact rep_key _
      obtain ⟨h1, h2⟩ := pair_rep le hT rk (r.mono ge)
      exact ⟨_, h1, h2⟩
/-! ### ranges -/
def rangeD (lo : Int) (n : Nat) : List D := (List.range n).map fun k => .int (lo + (k : Nat))
def iRng (f : List D → Option (List D)) (fl : M (List R)) : M (List D) := fun S => (fl S).bind fun rs S1 => match lookL S1 rs with
  | none => .no
  | some ds => match f ds with
    | none => .no
    | some l => .ok l S1
def fRng1 : List D → Option (List D)
  | [.int j] => if -1000000 ≤ j ∧ j ≤ 1000000 then some (rangeD 0 j.toNat) else none
  | _ => none
def fRng2 : List D → Option (List D)
  | [.int i, .int j] => if (-1000000 ≤ i ∧ i ≤ 1000000) ∧ (-1000000 ≤ j ∧ j ≤ 1000000) then some (rangeD i (j - i).toNat) else none
  | _ => none
theorem iRng_run {f : List D → Option (List D)} {fl : M (List R)} {QI : It → Hp → Prop} (si : SI z S σ H G) (h : PostI z W S G H σ QI (iRng f fl S)) :
    tDL z W fl σ H fun vs H1 => ∃ S1 G1 ds l, SI z S1 σ H1 G1 ∧ ViewL z G1 H1 vs ds ∧ f ds = some l ∧ ∀ J H' G', SI z S1 σ H' G' → Go S1 S1 σ σ H1 H' G1 G' → WalkD z J l S1 σ H' G' → QI J H' := by
  refine ⟨S, G, si, ?_⟩
  unfold iRng at h
  cases e : fl S with
  | no => rw [e] at h; exact h
  | ex c w S1 => rw [e] at h; exact h
  | ok rs S1 =>
    rw [e] at h
    intro vs H1 G1 si1 g1 dl
    have h := PostI.from h g1
    cases e1 : lookL S1 rs with
    | none => rw [bind_ok, e1] at h; exact h.elim
    | some ds =>
      cases e2 : f ds with
      | none => rw [bind_ok, e1] at h; simp only [e2] at h; exact h.elim
      | some l =>
        rw [bind_ok, e1] at h
        simp only [e2] at h
        exact ⟨S1, G1, ds, l, si1, dl.view si1 e1, e2, h⟩
theorem range_walk {lo : Int} {n : Nat} : WalkD z (Itr lo n) (rangeD lo n) S σ H G := by
  refine ⟨_, _, by unfold rangeD; rw [List.length_map, List.length_range]; exact walk_range, fun _ _ => trivial, fun i d Hc x H' Gc e2 ge le y => ?_⟩
  obtain ⟨rfl, rfl⟩ := y
  refine ⟨Gc, .refl le, ?_⟩
  unfold rangeD at e2
  rw [List.getElem?_map] at e2
  cases q : (List.range n)[i]? with
  | none => rw [q] at e2; cases e2
  | some k =>
    rw [q] at e2
    cases e2
    obtain ⟨_, e3⟩ := List.getElem?_eq_some_iff.mp q
    rw [List.getElem_range] at e3
    subst e3
    exact .int _
theorem IT_range1 {tg a : Expr} {fl : M (List R)} {p pos : Pos} (hg : Gl X "range") (hm : X.mg "range" = none) (hl : L X z W [a] fl) (hs : starEach [a] X.env = [(false, eval a X.env)] := by rfl) : IT X z W tg (.Call (.Name "range" p) [a] [] pos) (iRng fRng1 fl) := by
  refine ⟨PI.le (pi_range1 hg hm hl.pa hs) fun σ H Q ⟨S, G, si, h⟩ => ?_⟩
  refine (iRng_run si h).mono fun vs H1 ⟨S1, G1, ds, l, si1, vw, e, k⟩ => ?_
  unfold fRng1 at e
  split at e
  · rename_i j
    cases vw with
    | cons v1 v2 =>
      cases v2
      obtain rfl := v1.int
      split at e
      · rename_i hj
        cases e
        exact ⟨j, rfl, by omega, by omega, k _ H1 G1 si1 .refl range_walk⟩
      · cases e
  · cases e
theorem IT_range2 {tg a b : Expr} {fl : M (List R)} {p pos : Pos} (hg : Gl X "range") (hm : X.mg "range" = none) (hl : L X z W [a, b] fl) (hs : starEach [a, b] X.env = [(false, eval a X.env), (false, eval b X.env)] := by rfl) (hs2 : starEach [b] X.env = [(false, eval b X.env)] := by rfl) :
    IT X z W tg (.Call (.Name "range" p) [a, b] [] pos) (iRng fRng2 fl) := by
  refine ⟨PI.le (pi_range2 hg hm hl.pa hs hs2) fun σ H Q ⟨S, G, si, h⟩ => ?_⟩
  refine (iRng_run si h).mono fun vs H1 ⟨S1, G1, ds, l, si1, vw, e, k⟩ => ?_
  unfold fRng2 at e
  split at e
  · rename_i i j
    cases vw with
    | cons v1 v2 =>
      cases v2 with
      | cons v2 v3 =>
        cases v3
        obtain rfl := v1.int
        obtain rfl := v2.int
        split at e
        · rename_i hj
          cases e
          exact ⟨i, j, rfl, ⟨by omega, by omega, by omega, by omega⟩, k _ H1 G1 si1 .refl range_walk⟩
        · cases e
  · cases e
end
end L2.Dl
/-! Comprehensions. -/
namespace L2.Dl
open PySem PySem.Spec PyProof.Rows

def wipeS (S : SS) : List Nat → SS
  | [] => S
  | v :: vs => (wipeS S vs).set v .un
/-- the comprehension's own slots as they were ahead of it -/
def unwipe (S0 S : SS) : List Nat → SS
  | [] => S
  | v :: vs => match S0[v]? with
    | some w => (unwipe S0 S vs).set v w
    | none => unwipe S0 S vs
def noEx {α : Type} : Res α → Res α
  | .ex _ _ _ => .no
  | r => r
def lcL (vs : List Nat) (g : D → SS → Option SS) (ft : M Bool) (fe : M R) : List D → M (List D)
  | [], S => .ok [] S
  | d :: ds, S => match g d S with
    | none => .no
    | some S1 => (noEx (ft S1)).bind fun b S2 => if b = true then (noEx (fe S2)).bind fun r S3 => match valR S3 r with
        | none => .no
        | some (y, S4) => (lcL vs g ft fe ds (wipeS S4 vs)).bind fun out S5 => .ok (y :: out) S5
      else lcL vs g ft fe ds (wipeS S2 vs)
def sLc (vs : List Nat) (fi : M (List D)) (g : D → SS → Option SS) (ft : M Bool) (fe : M R) : M R := fun S => (fi S).bind fun ds S1 => if ds.length ≤ 1000000 then (noEx (lcL vs g ft fe ds (wipeS S1 vs))).bind fun out S2 => .ok (.f (.lst out)) (unwipe S1 S2 vs) else .no

section
variable {z : Dx} {W : WX} {S S0 S1 S2 : SS} {G G1 G2 H H1 H2 : Hp} {σ σ1 : L2.St}
theorem wipeS_length : ∀ {vs : List Nat} {S : SS}, (wipeS S vs).length = S.length
  | [], S => rfl
  | v :: vs, S => by unfold wipeS; rw [List.length_set, wipeS_length]
theorem wipeS_get : ∀ {vs : List Nat} {S : SS} {j : Nat} {w : AV}, (wipeS S vs)[j]? = some w → (j ∈ vs ∧ w = .un) ∨ (j ∉ vs ∧ S[j]? = some w)
  | [], S, j, w, e => .inr ⟨by simp, e⟩
  | v :: vs, S, j, w, e => by
    unfold wipeS at e
    rcases SI.get_set e with ⟨rfl, e1⟩ | ⟨hj, e1⟩
    · exact .inl ⟨List.mem_cons_self, e1⟩
    · rcases wipeS_get e1 with ⟨h1, h2⟩ | ⟨h1, h2⟩
      · exact .inl ⟨List.mem_cons_of_mem _ h1, h2⟩
      · exact .inr ⟨by simp [hj, h1], h2⟩
theorem wipeS_out : ∀ {vs : List Nat} {S : SS} {j : Nat}, j ∉ vs → (wipeS S vs)[j]? = S[j]?
  | [], S, j, _ => rfl
  | v :: vs, S, j, h => by
    unfold wipeS
    rw [List.getElem?_set_ne (fun e => h (by rw [e]; exact List.mem_cons_self)), wipeS_out (fun q => h (List.mem_cons_of_mem _ q))]
theorem unwipe_length : ∀ {vs : List Nat} {S0 S : SS}, (unwipe S0 S vs).length = S.length
  | [], S0, S => rfl
  | v :: vs, S0, S => by
    unfold unwipe
    split
    · rw [List.length_set, unwipe_length]
    · exact unwipe_length
theorem unwipe_get : ∀ {vs : List Nat} {S0 S : SS} {j : Nat} {w : AV}, S0.length = S.length → (unwipe S0 S vs)[j]? = some w → (j ∈ vs ∧ S0[j]? = some w) ∨ (j ∉ vs ∧ S[j]? = some w)
  | [], S0, S, j, w, _, e => .inr ⟨by simp, e⟩
  | v :: vs, S0, S, j, w, hl, e => by
    unfold unwipe at e
    split at e
    · rename_i w0 e0
      rcases SI.get_set e with ⟨rfl, e1⟩ | ⟨hj, e1⟩
      · subst e1; exact .inl ⟨List.mem_cons_self, e0⟩
      · rcases unwipe_get hl e1 with ⟨h1, h2⟩ | ⟨h1, h2⟩
        · exact .inl ⟨List.mem_cons_of_mem _ h1, h2⟩
        · exact .inr ⟨by simp [hj, h1], h2⟩
    · rename_i e0
      rcases unwipe_get hl e with ⟨h1, h2⟩ | ⟨h1, h2⟩
      · exact .inl ⟨List.mem_cons_of_mem _ h1, h2⟩
      · refine .inr ⟨?_, h2⟩
        have : j ≠ v := fun z => by
          subst z
          have h3 := (List.getElem?_eq_some_iff.mp h2).1
          have h4 := List.getElem?_eq_none_iff.mp e0
          omega
        simp [this, h1]
theorem wipe_eq {vs ix : List Nat} {σ σ2 : L2.St} (hl : σ2.length = σ.length) (hs : ∀ i ∈ ix, i ∈ vs) (h : ∀ j : Nat, j ∉ ix → σ2[j]? = (wipe σ vs)[j]?) : wipe σ2 vs = wipe σ vs := by
  apply List.ext_getElem?
  intro j
  by_cases hj : j ∈ vs
  · have one : ∀ {τ : L2.St}, j < τ.length → (wipe τ vs)[j]? = some none := fun {τ} hτ => by
      cases e : (wipe τ vs)[j]? with
      | none =>
        have := List.getElem?_eq_none_iff.mp e
        rw [wipe_length] at this
        omega
      | some o =>
        cases o with
        | none => rfl
        | some v => exact absurd hj (wipe_some e).2
    by_cases hlt : j < σ.length
    · rw [one hlt, one (by omega)]
    · rw [List.getElem?_eq_none (by rw [wipe_length]; omega), List.getElem?_eq_none (by rw [wipe_length]; omega)]
  · rw [wipe_out hj, h j fun q => hj (hs j q)]
theorem wipe_none {vs : List Nat} {τ : L2.St} {j : Nat} (h : j ∈ vs) (v : V) : (wipe τ vs)[j]? ≠ some (some v) := fun e => (wipe_some e).2 h
/-- the block's slots -/
theorem SI.wipe {vs : List Nat} (si : SI z S σ H G) : SI z (wipeS S vs) (L2.wipe σ vs) H G where
  len := by rw [wipeS_length, wipe_length]; exact si.len
  le := si.le
  shr := fun i d e => by
    rcases wipeS_get e with ⟨_, q⟩ | ⟨hi, q⟩
    · cases q
    · rw [wipe_out hi]; exact si.shr i d q
  own := fun i t d e => by
    rcases wipeS_get e with ⟨_, q⟩ | ⟨hi, q⟩
    · cases q
    · rw [wipe_out hi]; exact si.own i t d q
  sep := fun i j ti di tj dj a h1 h2 h3 h4 => by
    rcases wipeS_get h1 with ⟨_, q⟩ | ⟨hi, q⟩
    · cases q
    · rcases wipeS_get h2 with ⟨_, q2⟩ | ⟨hj, q2⟩
      · cases q2
      · rw [wipe_out hi] at h3
        rw [wipe_out hj] at h4
        exact si.sep i j _ _ _ _ a q q2 h3 h4
  dom := si.dom
  tab := si.tab
theorem Owns.wiped {vs : List Nat} {a : Addr} (h : Owns (wipeS S vs) (L2.wipe σ vs) a) : Owns S σ a := by
  obtain ⟨i, t, d, e1, e2⟩ := h
  rcases wipeS_get e1 with ⟨_, q⟩ | ⟨hi, q⟩
  · cases q
  · rw [wipe_out hi] at e2; exact ⟨i, t, d, q, e2⟩
/-- the block's end: from S0 (ahead of it) and S (the block's slots behind it) -/
theorem SI.unwipe {vs : List Nat} (s0 : SI z S0 σ H1 G1) (si : SI z S (L2.wipe σ vs) H2 G2) (g : Go (wipeS S0 vs) S (L2.wipe σ vs) (L2.wipe σ vs) H1 H2 G1 G2) :
    SI z (Dl.unwipe S0 S vs) σ H2 G2 ∧ Go S0 (Dl.unwipe S0 S vs) σ σ H1 H2 G1 G2 := by
  have hl : S0.length = S.length := by rw [s0.len, si.len, wipe_length]
  have sepO : ∀ {i : Nat} {t d a}, i ∈ vs → S0[i]? = some (.own t d) → σ[i]? = some (some (.ref a)) → ¬ Owns (wipeS S0 vs) (L2.wipe σ vs) a := fun {i t d a} hi e1 e2 ⟨j, t', d', e3, e4⟩ => by
    rcases wipeS_get e3 with ⟨_, q⟩ | ⟨hj, q⟩
    · cases q
    · rw [wipe_out hj] at e4
      exact hj (by rw [s0.sep j i _ _ _ _ a q e1 e4 e2]; exact hi)
  have g2n : ∀ {i : Nat} {t d a}, i ∈ vs → S0[i]? = some (.own t d) → σ[i]? = some (some (.ref a)) → G2 a = none := fun {i t d a} hi e1 e2 => by
    obtain ⟨ga, o, ho⟩ := s0.ownFree ⟨i, t, d, e1, e2⟩
    cases q : G2 a with
    | none => rfl
    | some u =>
      rcases g.nw a u q with z1 | z1 | z1
      · rw [ga] at z1; cases z1
      · rw [ho] at z1; cases z1
      · exact absurd z1 (sepO hi e1 e2)
  refine ⟨⟨by rw [unwipe_length, si.len, wipe_length], si.le, fun i d e => ?_, fun i t d e => ?_, fun i j ti di tj dj a h1 h2 h3 h4 => ?_, si.dom, si.tab⟩, g.ge, fun a o h n => g.fr a o h fun q => n q.wiped, fun a ⟨i, t, d, e1, e2⟩ => ?_, fun a u h => ?_, g.th⟩
  · rcases unwipe_get hl e with ⟨hi, q⟩ | ⟨hi, q⟩
    · obtain ⟨v, e1, r⟩ := s0.shr i d q
      exact ⟨v, e1, r.mono g.ge⟩
    · obtain ⟨v, e1, r⟩ := si.shr i d q
      rw [wipe_out hi] at e1
      exact ⟨v, e1, r⟩
  · rcases unwipe_get hl e with ⟨hi, q⟩ | ⟨hi, q⟩
    · obtain ⟨a, e1, ga, o, t1, t2⟩ := s0.own i t d q
      have gn := g2n hi q e1
      exact ⟨a, e1, gn, o.mono g.ge fun o' e' => (g.fr a o' e' (sepO hi q e1)).own gn, t1, t2⟩
    · obtain ⟨a, e1, r⟩ := si.own i t d q
      rw [wipe_out hi] at e1
      exact ⟨a, e1, r⟩
  · have mix : ∀ {i j : Nat} {ti di tj dj a}, i ∈ vs → S0[i]? = some (.own ti di) → σ[i]? = some (some (.ref a)) → j ∉ vs → S[j]? = some (.own tj dj) → σ[j]? = some (some (.ref a)) → False := fun {i j ti di tj dj a} hi q3 q4 hj q5 q6 => by
      obtain ⟨_, o, ho⟩ := s0.ownFree ⟨i, _, _, q3, q4⟩
      rcases g.ow a ⟨j, _, _, q5, by rw [wipe_out hj]; exact q6⟩ with z1 | z1
      · exact sepO hi q3 q4 z1
      · rw [ho] at z1; cases z1
    rcases unwipe_get hl h1 with ⟨hi, q⟩ | ⟨hi, q⟩
    · rcases unwipe_get hl h2 with ⟨hj, q2⟩ | ⟨hj, q2⟩
      · exact s0.sep i j _ _ _ _ a q q2 h3 h4
      · exact (mix hi q h3 hj q2 h4).elim
    · rcases unwipe_get hl h2 with ⟨hj, q2⟩ | ⟨hj, q2⟩
      · exact (mix hj q2 h4 hi q h3).elim
      · exact si.sep i j _ _ _ _ a q q2 (by rw [wipe_out hi]; exact h3) (by rw [wipe_out hj]; exact h4)
  · rcases unwipe_get hl e1 with ⟨hi, q⟩ | ⟨hi, q⟩
    · exact .inl ⟨i, t, d, q, e2⟩
    · exact (g.ow a ⟨i, t, d, q, by rw [wipe_out hi]; exact e2⟩).imp Owns.wiped id
  · rcases g.nw a u h with q | q | q
    · exact .inl q
    · exact .inr (.inl q)
    · exact .inr (.inr q.wiped)
/-- back to the block's start slots after a turn -/
theorem SI.rewipe {vs : List Nat} (si : SI z S σ1 H G) (e : L2.wipe σ1 vs = L2.wipe σ vs) : SI z (wipeS S vs) (L2.wipe σ vs) H G ∧ Go S (wipeS S vs) σ1 (L2.wipe σ vs) H H G G := by
  have h := si.wipe (vs := vs)
  rw [e] at h
  refine ⟨h, .refl _, fun _ _ h _ => .inl h, fun a o => .inl (Owns.wiped (vs := vs) ?_), fun _ _ h => .inl h, fun _ h => h⟩
  rw [e]; exact o
theorem wipeS_wipeS {vs : List Nat} : wipeS (wipeS S vs) vs = wipeS S vs := by
  apply List.ext_getElem?
  intro j
  by_cases hj : j ∈ vs
  · have one : ∀ {T : SS}, j < T.length → (wipeS T vs)[j]? = some .un := fun {T} hT => by
      cases e : (wipeS T vs)[j]? with
      | none =>
        have := List.getElem?_eq_none_iff.mp e
        rw [wipeS_length] at this
        omega
      | some o =>
        rcases wipeS_get e with ⟨_, q⟩ | ⟨h, _⟩
        · rw [q]
        · exact absurd hj h
    by_cases hlt : j < S.length
    · rw [one hlt, one (by rw [wipeS_length]; exact hlt)]
    · rw [List.getElem?_eq_none (by simp only [wipeS_length]; omega), List.getElem?_eq_none (by simp only [wipeS_length]; omega)]
  · rw [wipeS_out hj]

/-- the block of a comprehension: nothing is raised in it -/
abbrev W0 : WX := fun _ _ _ _ => False
theorem noEx_ok {α : Type} {r : Res α} {a : α} {S : SS} (h : noEx r = .ok a S) : r = .ok a S := by
  cases r with
  | ok _ _ => exact h
  | ex _ _ _ => cases h
  | no => cases h
theorem bind_inv {α β : Type} {r : Res α} {k : α → SS → Res β} {b : β} {S : SS} (h : r.bind k = .ok b S) : ∃ a S1, r = .ok a S1 ∧ k a S1 = .ok b S := by
  cases r with
  | ok a S1 => exact ⟨a, S1, rfl, h⟩
  | ex _ _ _ => cases h
  | no => cases h
/-- an object that nobody knows is changed -/
theorem SI.touch {D : Addr} {o u : HO} (si : SI z S σ H G) (h : H D = some o) (g : G D = none) (n : ¬ Owns S σ D) (hp : Pl o := by trivial) : SI z S σ (upd H D u) G where
  len := si.len
  le := fun a v e => by
    have ne : a ≠ D := fun q => by subst q; rw [g] at e; cases e
    exact (si.le a v e).imp (fun q => ⟨by rw [upd_ne ne]; exact q.1, q.2⟩) (Or.imp (fun q => by rw [upd_ne ne]; exact q) fun q => q.keep fun b o e n => by
      have nb : b ≠ D := fun z => by subst z; rw [h] at e; cases e; exact n hp
      rw [upd_ne nb]; exact e)
  shr := si.shr
  own := fun i t d e => by
    obtain ⟨a, q, ga, ow, t1, t2⟩ := si.own i t d e
    have ne : a ≠ D := fun q' => n ⟨i, t, d, e, by rw [← q']; exact q⟩
    exact ⟨a, q, ga, ow.mono (.refl _) fun o' e' => by rw [upd_ne ne]; exact e', t1, t2⟩
  sep := si.sep
  dom := fun a e => si.dom a (by
    by_cases ne : a = D
    · subst ne; rw [upd_same] at e; cases e
    · rw [upd_ne ne] at e; exact e)
  tab := si.tab
theorem Go.touch {D : Addr} {u : HO} (g : Go S S1 σ σ1 H H1 G G1) (hD : H D = none) : Go S S1 σ σ1 H (upd H1 D u) G G1 where
  ge := g.ge
  fr := fun a o e n => by
    have ne : a ≠ D := fun q => by subst q; rw [hD] at e; cases e
    rcases g.fr a o e n with q | ⟨q1, q2, ob, q3⟩ | ⟨q1, ps, ps', q2, q3⟩
    · exact .inl (by rw [upd_ne ne]; exact q)
    · exact .inr (.inl ⟨q1, q2, ob, by rw [upd_ne ne]; exact q3⟩)
    · exact .inr (.inr ⟨q1, ps, ps', q2, by rw [upd_ne ne]; exact q3⟩)
  ow := g.ow
  nw := g.nw
  th := fun a e => by
    by_cases ne : a = D
    · subst ne; exact hD
    · rw [upd_ne ne] at e; exact g.th a e
/-- an object that nobody knows stays so -/
theorem Go.keep {D : Addr} {xs : List V} (g : Go S S1 σ σ1 H H1 G G1) (h : H D = some (.lst xs)) (gn : G D = none) (n : ¬ Owns S σ D) : H1 D = some (.lst xs) ∧ G1 D = none ∧ ¬ Owns S1 σ1 D := by
  refine ⟨(g.fr D _ h n).eq fun z => z, ?_, fun o => ?_⟩
  · cases e : G1 D with
    | none => rfl
    | some u =>
      rcases g.nw D u e with q | q | q
      · rw [gn] at q; cases q
      · rw [h] at q; cases q
      · exact absurd q n
  · rcases g.ow D o with q | q
    · exact n q
    · rw [h] at q; cases q
theorem Go.keepK {D : Addr} {xs : List (Key × V)} (g : Go S S1 σ σ1 H H1 G G1) (h : H D = some (.dK xs)) (gn : G D = none) (n : ¬ Owns S σ D) : H1 D = some (.dK xs) ∧ G1 D = none ∧ ¬ Owns S1 σ1 D := by
  have g1 : G1 D = none := by
    cases e : G1 D with
    | none => rfl
    | some u =>
      rcases g.nw D u e with q | q | q
      · rw [gn] at q; cases q
      · rw [h] at q; cases q
      · exact absurd q n
  refine ⟨(g.fr D _ h n).own g1, g1, fun o => ?_⟩
  rcases g.ow D o with q | q
  · exact n q
  · rw [h] at q; cases q
theorem valR_go {v : V} {r : R} {d : D} {S' S2 : SS} {H' G' : Hp} (si : SI z S' σ H' G') (g : Go S S' σ σ H H' G G') (dn : Den z S' σ H H' G' v r) (e : valR S' r = some (d, S2)) : ∃ G2, SI z S2 σ H' G2 ∧ Go S S2 σ σ H H' G G2 ∧ Rep z G2 v d := by
  obtain ⟨G2, si2, g2, _, dn2⟩ := settle si g dn
  obtain ⟨G3, si3, g3, r3⟩ := valR_run si2 dn2 e
  exact ⟨G3, si3, g2.trans g3, r3⟩
/-- what is true between the turns -/
def LcInv (z : Dx) (vs : List Nat) (g : D → SS → Option SS) (ft : M Bool) (fe : M R) (ds out : List D) (S1 S2 : SS) (σ : L2.St) (H1 G1 : Hp) (D : Addr) (i : Nat) (H : Hp) : Prop :=
  ∃ S' G' acc outs, SI z S' (L2.wipe σ vs) H G' ∧ Go (wipeS S1 vs) S' (L2.wipe σ vs) (L2.wipe σ vs) H1 H G1 G' ∧ H D = some (.lst acc) ∧ G' D = none ∧ ¬ Owns S' (L2.wipe σ vs) D ∧ RepL z G' acc outs ∧ outs.length ≤ i ∧
    (lcL vs g ft fe (ds.drop i) S').bind (fun o S3 => .ok (outs ++ o) S3) = .ok out S2
theorem lc_run {vs ix : List Nat} {fi : M (List D)} {g : D → SS → Option SS} {ft : M Bool} {fe : M R} {Q : VK} (hix : ∀ i ∈ ix, i ∈ vs) (h : tD z W (sLc vs fi g ft fe) σ H Q) :
    tLc (tDI z W fi) (gD z ix g) (tDT z W0 ft) (tD z W0 fe) vs σ H Q := by
  obtain ⟨S, G, si, h⟩ := h
  refine ⟨S, G, si, ?_⟩
  unfold sLc at h
  cases e : fi S with
  | no => rw [e] at h; exact h
  | ex c w S1 => rw [e] at h; exact h
  | ok ds S1 =>
    rw [e] at h
    intro J H1 G1 si1 g1 wd D hD
    have h := Post.from h g1
    rw [bind_ok] at h
    by_cases hsz : ds.length ≤ 1000000
    · rw [if_pos hsz] at h
      cases el : noEx (lcL vs g ft fe ds (wipeS S1 vs)) with
      | no => rw [el] at h; exact h.elim
      | ex c w S2 => cases q : lcL vs g ft fe ds (wipeS S1 vs) <;> rw [q] at el <;> cases el
      | ok out S2 =>
        rw [el, bind_ok] at h
        have el := noEx_ok el
        obtain ⟨Gd, Y, wk, stay, yl⟩ := wd.ex
        have gn : G1 D = none := si1.le.none hD
        have sw := si1.wipe (vs := vs)
        have nO : ¬ Owns (wipeS S1 vs) (L2.wipe σ vs) D := fun o => by
          obtain ⟨_, u, hu⟩ := sw.ownFree o
          rw [hD] at hu; cases hu
        have x0 : Ext H1 (upd H1 D (.lst [])) G1 G1 := .own si1.le hD
        refine lc_it wk (g := gD z ix g) (tt := tDT z W0 ft) (te := tD z W0 fe) (LcInv z vs g ft fe ds out S1 S2 σ H1 G1 D) ⟨wipeS S1 vs, G1, [], [], sw.ext x0, x0.go, upd_same, gn, nO, .nil, Nat.zero_le _, by rw [List.drop_zero, el]; rfl⟩
          (fun i H' _ ⟨S', G', acc, outs, _, g', _⟩ => stay H' fun a o q1 q2 q3 => (g'.fr a o q1 fun q4 => q3 q4.wiped).eq q2) ?_ ?_
        · rintro i x Ha Hb hi ⟨S', G', acc, outs, si', g', hd', gn', no', rl, hlen, eq⟩ y
          have hdi : ds[i]? = some ds[i] := by simp [hi]
          obtain ⟨G2, ex, r⟩ := yl i _ Ha x Hb G' hdi g'.ge si'.le y
          rw [drop_get hdi] at eq
          obtain ⟨o1, S3, eq1, eq2⟩ := bind_inv eq
          have eq1 : (match g ds[i] S' with
            | none => Res.no
            | some S1 => (noEx (ft S1)).bind fun b S2 => if b = true then (noEx (fe S2)).bind fun r S3 => match valR S3 r with
                | none => .no
                | some (y, S4) => (lcL vs g ft fe (ds.drop (i + 1)) (wipeS S4 vs)).bind fun out S5 => .ok (y :: out) S5
              else lcL vs g ft fe (ds.drop (i + 1)) (wipeS S2 vs)) = .ok o1 S3 := eq1
          have g2 := g'.trans (ex.go (S := S') (σ := L2.wipe σ vs))
          have hd2 := ex.hh D _ hd'
          obtain ⟨hd2, gn2, no2⟩ := (ex.go (S := S') (σ := L2.wipe σ vs)).keep hd' gn' no'
          cases eg : g ds[i] S' with
          | none => rw [eg] at eq1; cases eq1
          | some S4 =>
            rw [eg] at eq1
            refine ⟨S', G2, _, S4, si'.ext ex, r, eg, fun σ3 H3 G3 si3 g3 k3 => ?_⟩
            have hw := wipe_eq (ix := ix) (σ := σ) (σ2 := σ3) (k3.2.trans (wipe_length _ _)) hix k3.1
            refine ⟨hw, ?_⟩
            · skip
              obtain ⟨b, S5, eb, eq3⟩ := bind_inv eq1
              have eb := noEx_ok eb
              obtain ⟨hd3, gn3, no3⟩ := g3.keep hd2 gn2 no2
              refine ⟨S4, G3, si3, ?_⟩
              rw [eb]
              intro H5 G5 si5 g5
              obtain ⟨hd5, gn5, no5⟩ := g5.keep hd3 gn3 no3
              cases b with
              | false =>
                rw [if_neg Bool.false_ne_true] at eq3 ⊢
                obtain ⟨s6, g6⟩ := si5.rewipe (σ := σ) hw
                obtain ⟨hd6, gn6, no6⟩ := g6.keep hd5 gn5 no5
                refine ⟨_, G5, acc, outs, s6, ((g2.trans g3).trans g5).trans g6, hd6, gn6, no6, rl.mono (ex.ge.trans (g3.ge.trans g5.ge)), Nat.le_succ_of_le hlen, ?_⟩
                rw [eq3]
                exact eq2
              | true =>
                rw [if_pos rfl] at eq3 ⊢
                obtain ⟨rr, S6, ee, eq4⟩ := bind_inv eq3
                have ee := noEx_ok ee
                refine ⟨S5, G5, si5, ?_⟩
                rw [ee]
                intro yv H6 G6 si6 g6 dn6
                cases ev : valR S6 rr with
                | none => rw [ev] at eq4; cases eq4
                | some p =>
                  obtain ⟨yd, S7⟩ := p
                  rw [ev] at eq4
                  obtain ⟨o2, S8, eq5, eq6⟩ := bind_inv eq4
                  obtain ⟨G7, si7, g7, r7⟩ := valR_go si6 g6 dn6 ev
                  obtain ⟨hd7, gn7, no7⟩ := g7.keep hd5 gn5 no5
                  obtain ⟨s8, g8⟩ := si7.rewipe (σ := σ) hw
                  obtain ⟨hd8, gn8, no8⟩ := g8.keep hd7 gn7 no7
                  have rl7 := rl.mono (ex.ge.trans (g3.ge.trans (g5.ge.trans g7.ge)))
                  have hz : acc.length < sizeLine := Nat.lt_of_le_of_lt (Nat.le_trans (by rw [rl.length]; exact hlen) (Nat.le_trans (Nat.le_of_lt hi) hsz)) (by rw [sizeLine_eq]; decide)
                  refine ⟨acc, hd8, hz, _, G7, acc ++ [yv], outs ++ [yd], s8.touch hd8 gn8 no8, ((((g2.trans g3).trans g5).trans g7).trans g8).touch hD, upd_same, gn8, no8, rl7.append (.cons r7 .nil), by simp; omega, ?_⟩
                  rw [eq5]
                  cases eq6
                  rw [bind_ok, List.append_assoc]
                  exact eq2
        · rintro Ha ⟨S', G', acc, outs, si', g', hd', gn', no', rl, hlen, eq⟩
          rw [List.drop_length] at eq
          have eq : (Res.ok (outs ++ []) S' : Res (List Dl.D)) = .ok out S2 := eq
          rw [List.append_nil] at eq
          cases eq
          obtain ⟨su, gu⟩ := SI.unwipe si1 si' g'
          refine h (.ref D) Ha G' su gu ⟨D, rfl, hD, gn', fun ⟨i, t, d, q1, q2⟩ => ?_, acc, hd', rl⟩
          rcases unwipe_get (by rw [si1.len, si'.len, wipe_length]) q1 with ⟨hi, q⟩ | ⟨hi, q⟩
          · obtain ⟨_, u, hu⟩ := si1.ownFree ⟨i, t, d, q, q2⟩
            rw [hD] at hu; cases hu
          · exact no' ⟨i, t, d, q, by rw [wipe_out hi]; exact q2⟩
    · rw [if_neg hsz] at h; exact h.elim
variable {X : Cx}
/-- the tests of a comprehension -/
structure Ts (X : Cx) (z : Dx) (W : WX) (ifs : List Expr) (f : M Bool) : Prop where
  pt : PTs X ifs (tDT z W f)
theorem PTs.le {ifs : List Expr} {t t' : TT} (h : PTs X ifs t) (w : ∀ σ H Q, t' σ H Q → t σ H Q) : PTs X ifs t' := ⟨fun pins s σ H Q I q => h.run pins s σ H Q I (w σ H Q q)⟩
def sYes : M Bool := fun S => .ok true S
theorem Ts_nil : Ts X z W [] sYes := ⟨PTs.le pts_nil fun σ H Q ⟨S, G, si, h⟩ => h H G si .refl⟩
theorem Ts_one {c : Expr} {ft : M Bool} (h : T X z W c ft) : Ts X z W [c] ft := ⟨pts_one h.pt⟩
/-- the context of a comprehension's block -/
theorem Ct.blk (c : Ct X z W) (s : Shared) (H : Hp) (scope : Scope) (cenv : Env) (fp : List Addr) : Ct (X.blk s H scope cenv fp) z W0 where
  hk := c.hk
  calm := c.calm
  hp := PassesOwn.never
  tk := takes0
  nd := c.nd
theorem E_lc {elt tg iter : Expr} {ifs : List Expr} {scope : Scope} {own : List (Str × Nat)} {pos : Pos} {fi : M (List D)} {ix : List Nat} {g : D → SS → Option SS} {ft : M Bool} {fe : M R} (c : Ct X z W) (hi : IT X z W tg iter fi) (ok : BlkOk X.N X.env.scope scope own)
    (hix : ∀ i ∈ ix, i ∈ own.map (·.2)) (hg : ∀ (s : Shared) (H : Hp) (C : Addr) (cl : List (Str × Addr)) (fp : List Addr), Tg (X.blk s H scope (compEnvC scope cl C X.env) fp) z tg ix g)
    (ht : ∀ (s : Shared) (H : Hp) (C : Addr) (cl : List (Str × Addr)) (fp : List Addr), Ts (X.blk s H scope (compEnvC scope cl C X.env) fp) z W0 ifs ft)
    (he : ∀ (s : Shared) (H : Hp) (C : Addr) (cl : List (Str × Addr)) (fp : List Addr), E (X.blk s H scope (compEnvC scope cl C X.env) fp) z W0 elt fe) (hs : ∀ x, foldedSetIterable iter X.env x = pure x := by intro _; rfl) :
    E X z W (.ListComp elt [⟨tg, iter, ifs, 0⟩] scope pos) (sLc (own.map (·.2)) fi g ft fe) :=
  ⟨PE.le (pe_lc c.calm c.nd hi.pi ok (fun s H C cl fp => (hg s H C cl fp).pg) (fun s H C cl fp => (ht s H C cl fp).pt) (fun s H C cl fp => (he s H C cl fp).pe) hs) fun σ H Q h => lc_run hix h, c.hk⟩
/-- name = [..], the name a local -/
theorem S_setLc {i : Nat} {y : Str} {py : Pos} {elt tg iter : Expr} {ifs : List Expr} {scope : Scope} {own : List (Str × Nat)} {pos spos : Pos} {fi : M (List D)} {ix : List Nat} {g : D → SS → Option SS} {ft : M Bool} {fe : M R} (c : Ct X z W) (hy : X.N[i]? = some y) (hyl : X.env.scope.names.lookup y = some .local)
    (hsw : swapsWith (.ListComp elt [⟨tg, iter, ifs, 0⟩] scope pos) (some (.Name y py)) spos.line X.env = pure true) (hi : IT X z W tg iter fi) (ok : BlkOk X.N X.env.scope scope own)
    (hix : ∀ i ∈ ix, i ∈ own.map (·.2)) (hg : ∀ (s : Shared) (H : Hp) (C : Addr) (cl : List (Str × Addr)) (fp : List Addr), Tg (X.blk s H scope (compEnvC scope cl C X.env) fp) z tg ix g)
    (ht : ∀ (s : Shared) (H : Hp) (C : Addr) (cl : List (Str × Addr)) (fp : List Addr), Ts (X.blk s H scope (compEnvC scope cl C X.env) fp) z W0 ifs ft)
    (he : ∀ (s : Shared) (H : Hp) (C : Addr) (cl : List (Str × Addr)) (fp : List Addr), E (X.blk s H scope (compEnvC scope cl C X.env) fp) z W0 elt fe) (hs : ∀ x, foldedSetIterable iter X.env x = pure x := by intro _; rfl) :
    Sm X z W (.Assign [.Name y py] (.ListComp elt [⟨tg, iter, ifs, 0⟩] scope pos) spos) (sAsg i (sLc (own.map (·.2)) fi g ft fe)) :=
  ⟨PS.le (ps_setLc c.calm c.nd hy hyl hsw hi.pi ok (fun s H C cl fp => (hg s H C cl fp).pg) (fun s H C cl fp => (ht s H C cl fp).pt) (fun s H C cl fp => (he s H C cl fp).pe) hs) fun D σ H ⟨S, G, si, h⟩ => lc_run hix (sAsg_run si h)⟩

/-! ### dict comprehensions -/
def putD {κ : Type} [DecidableEq κ] (kvs : List (κ × D)) (k : κ) (v : D) : List (κ × D) :=
  if (kvs.any fun kv => decide (kv.1 = k)) = true then kvs.map (fun kv => if kv.1 = k then (kv.1, v) else kv) else kvs ++ [(k, v)]
def keyOf : D → Option Key
  | .int i => some (.inl i)
  | .str s => some (.inr s)
  | _ => none
theorem keyOf_rep {v : V} {d : D} {k : Key} (h : keyOf d = some k) (r : Rep z G v d) : v = kV k := by
  cases d with
  | int i => cases h; cases r; rfl
  | str i => cases h; cases r; rfl
  | _ => cases h
/-- pairs told by data -/
def RepP {κ : Type} (z : Dx) (G : Hp) (vs : List (κ × V)) (l : List (κ × D)) : Prop := vs.map (·.1) = l.map (·.1) ∧ RepL z G (vs.map (·.2)) (l.map (·.2))
theorem RepP.nil {κ : Type} : RepP (κ := κ) z G [] [] := ⟨rfl, .nil⟩
theorem RepP.mono {κ : Type} {vs : List (κ × V)} {l : List (κ × D)} (h : RepP z G vs l) (g : GLe G G1) : RepP z G1 vs l := ⟨h.1, h.2.mono g⟩
theorem RepP.len {κ : Type} {vs : List (κ × V)} {l : List (κ × D)} (h : RepP z G vs l) : vs.length = l.length := by simpa using congrArg List.length h.1
theorem RepP.ind {κ : Type} {P : List (κ × V) → List (κ × D) → Prop} (h0 : P [] []) (hs : ∀ k v d vs l, Rep z G v d → RepP z G vs l → P vs l → P ((k, v) :: vs) ((k, d) :: l)) : ∀ {vs l}, RepP z G vs l → P vs l
  | [], [], _ => h0
  | (k, v) :: vs, (k', d) :: l, ⟨h1, h2⟩ => by
    simp only [List.map_cons, List.cons.injEq] at h1
    obtain ⟨rfl, h1⟩ := h1
    cases h2 with
    | cons a b => exact hs _ _ _ _ _ a ⟨h1, b⟩ (RepP.ind h0 hs ⟨h1, b⟩)
  | [], _ :: _, ⟨h1, _⟩ => by simp at h1
  | _ :: _, [], ⟨h1, _⟩ => by simp at h1
theorem RepP.put {κ : Type} [DecidableEq κ] {vs : List (κ × V)} {l : List (κ × D)} (h : RepP z G vs l) (k : κ) {v : V} {d : D} (r : Rep z G v d) : RepP z G (putK vs k v) (putD l k d) := by
  have ea : (vs.any fun kv => decide (kv.1 = k)) = (l.any fun kv => decide (kv.1 = k)) := by
    refine RepP.ind (P := fun vs l => (vs.any fun kv => decide (kv.1 = k)) = (l.any fun kv => decide (kv.1 = k))) rfl (fun k' v d vs l _ _ ih => ?_) h
    simp only [List.any_cons, ih]
  unfold putK putD
  rw [ea]
  split
  · refine RepP.ind (P := fun vs l => RepP z G (vs.map fun kv => if kv.1 = k then (kv.1, v) else kv) (l.map fun kv => if kv.1 = k then (kv.1, d) else kv)) .nil (fun k' v' d' vs l r' _ ih => ?_) h
    simp only [List.map_cons]
    by_cases e : k' = k
    · simp only [e, if_true]
      exact ⟨by simp only [List.map_cons]; rw [ih.1], .cons r ih.2⟩
    · simp only [if_neg e]
      exact ⟨by simp only [List.map_cons]; rw [ih.1], .cons r' ih.2⟩
  · exact ⟨by simp [h.1], by rw [List.map_append, List.map_append]; exact h.2.append (.cons r .nil)⟩
def valD {κ : Type} [DecidableEq κ] (l : List (κ × D)) (k : κ) : Option D := (l.find? fun kv => decide (kv.1 = k)).map (·.2)
theorem RepP.val {κ : Type} [DecidableEq κ] {vs : List (κ × V)} {l : List (κ × D)} (h : RepP z G vs l) (k : κ) : (valV vs k = none ∧ valD l k = none) ∨ ∃ v d, valV vs k = some v ∧ valD l k = some d ∧ Rep z G v d := by
  refine RepP.ind (P := fun vs l => (valV vs k = none ∧ valD l k = none) ∨ ∃ v d, valV vs k = some v ∧ valD l k = some d ∧ Rep z G v d) (.inl ⟨rfl, rfl⟩) (fun k' v' d' vs l r _ ih => ?_) h
  by_cases e : k' = k
  · exact .inr ⟨v', d', valV_pos e, by simp [valD, List.find?_cons, e], r⟩
  · rw [valV_neg (p := (k', v')) e]
    have : valD ((k', d') :: l) k = valD l k := by simp [valD, List.find?_cons, e]
    rw [this]
    exact ih
def dropD {κ : Type} [DecidableEq κ] (l : List (κ × D)) (k : κ) : List (κ × D) := l.filter fun kv => decide (kv.1 ≠ k)
theorem RepP.drop {κ : Type} [DecidableEq κ] {vs : List (κ × V)} {l : List (κ × D)} (h : RepP z G vs l) (k : κ) : RepP z G (dropK vs k) (dropD l k) := by
  refine RepP.ind (P := fun vs l => RepP z G (dropK vs k) (dropD l k)) .nil (fun k' v' d' vs l r _ ih => ?_) h
  unfold dropK dropD at *
  by_cases e : k' = k
  · simp only [List.filter_cons, e, ne_eq, not_true_eq_false, decide_false]
    exact ih
  · simp only [List.filter_cons, ne_eq, e, not_false_eq_true, decide_true, if_true]
    exact ⟨by simp only [List.map_cons]; rw [ih.1], .cons r ih.2⟩
def dcL (vs : List Nat) (g : D → SS → Option SS) (ft : M Bool) (fk fe : M R) : List (Key × D) → List D → M (List (Key × D))
  | acc, [], S => .ok acc S
  | acc, d :: ds, S => match g d S with
    | none => .no
    | some S1 => (noEx (ft S1)).bind fun b S2 => if b = true then (noEx (fk S2)).bind fun rk S3 => (noEx (fe S3)).bind fun r S4 => match (look S4 rk).bind keyOf with
        | none => .no
        | some k => match valR S4 r with
          | none => .no
          | some (y, S5) => dcL vs g ft fk fe (putD acc k y) ds (wipeS S5 vs)
      else dcL vs g ft fk fe acc ds (wipeS S2 vs)
def sDc (vs : List Nat) (fi : M (List D)) (g : D → SS → Option SS) (ft : M Bool) (fk fe : M R) : M R := fun S => (fi S).bind fun ds S1 => if ds.length ≤ 1000000 then (noEx (dcL vs g ft fk fe [] ds (wipeS S1 vs))).bind fun out S2 => .ok (.f (.dct out)) (unwipe S1 S2 vs) else .no
def DcInv (z : Dx) (vs : List Nat) (g : D → SS → Option SS) (ft : M Bool) (fk fe : M R) (ds : List D) (out : List (Key × D)) (S1 S2 : SS) (σ : L2.St) (H1 G1 : Hp) (D : Addr) (i : Nat) (H : Hp) : Prop :=
  ∃ S' G' acc outs, SI z S' (L2.wipe σ vs) H G' ∧ Go (wipeS S1 vs) S' (L2.wipe σ vs) (L2.wipe σ vs) H1 H G1 G' ∧ H D = some (.dK acc) ∧ G' D = none ∧ ¬ Owns S' (L2.wipe σ vs) D ∧ RepP z G' acc outs ∧ outs.length ≤ i ∧
    dcL vs g ft fk fe outs (ds.drop i) S' = .ok out S2
theorem length_putD {κ : Type} [DecidableEq κ] (kvs : List (κ × D)) (k : κ) (v : D) : (putD kvs k v).length ≤ kvs.length + 1 := by
  unfold putD
  split
  · rw [List.length_map]; exact Nat.le_succ _
  · simp
end
end L2.Dl
/-! Dict comprehensions. -/
namespace L2.Dl
open PySem PySem.Spec PyProof.Rows

/-- a dict comprehension over a walk -/
theorem dc_it {J : It} {n : Nat} {Gd : Hp → Prop} {Y : Nat → Hp → V → Hp → Prop} (w : Walk J n Gd Y) {g : TG} {tt : TT} {tk tv : TE} {vs : List Nat} {σ : L2.St} {H1 : Hp} {D : Addr} {Qd : Hp → Prop} (Pv : Nat → Hp → Prop) (h0 : Pv 0 (upd H1 D (.dK []))) (hG : ∀ i H, i ≤ n → Pv i H → Gd H)
    (hs : ∀ i x H H', i < n → Pv i H → Y i H x H' → g x (wipe σ vs) H' fun σ2 H2 => wipe σ2 vs = wipe σ vs ∧ tt σ2 H2 fun b H3 =>
      if b = true then tk σ2 H3 fun y H4 => tv σ2 H4 fun z H5 => ∃ kvs k, y = kV k ∧ H5 D = some (.dK kvs) ∧ kvs.length < sizeLine ∧ Pv (i + 1) (upd H5 D (.dK (putK kvs k z))) else Pv (i + 1) H3) (hd : ∀ H, Pv n H → Qd H) :
    ∃ W : Nat → Nat → Hp → Prop, (∃ m, W 0 m (upd H1 D (.dK []))) ∧ ∀ i m H, W i m H →
      (J.stop i H ∧ Qd H) ∨ (J.go i H ∧ ∃ Nx : Hp → Prop, (∀ H', Nx H' → ∃ m', m' < m ∧ W (i + 1) m' H') ∧ ∀ x H', J.yld i H x H' → g x (wipe σ vs) H' fun σ2 H2 => wipe σ2 vs = wipe σ vs ∧ tt σ2 H2 fun b H3 =>
        if b = true then tk σ2 H3 fun y H4 => tv σ2 H4 fun z H5 => ∃ kvs k, y = kV k ∧ H5 D = some (.dK kvs) ∧ kvs.length < sizeLine ∧ Nx (upd H5 D (.dK (putK kvs k z))) else Nx H3) := by
  refine ⟨fun i m H => m = n - i ∧ i ≤ n ∧ Pv i H, ⟨n, by simp, Nat.zero_le _, h0⟩, ?_⟩
  rintro i m H ⟨rfl, hi, p⟩
  have q := hG i H hi p
  by_cases hlt : i < n
  · refine .inr ⟨w.goes i H hlt q, Pv (i + 1), fun H' p' => ⟨n - (i + 1), by omega, rfl, hlt, p'⟩, fun x H' y => hs i x H H' hlt p (w.yields i H x H' hlt q y)⟩
  · have e : i = n := by omega
    subst e
    exact .inl ⟨w.stops H q, hd H p⟩
section
variable {z : Dx} {W : WX} {S S0 S1 S2 : SS} {G G1 G2 H H1 H2 : Hp} {σ σ1 : L2.St} {X : Cx}
theorem dc_run {vs ix : List Nat} {fi : M (List D)} {g : D → SS → Option SS} {ft : M Bool} {fk fe : M R} {Q : VK} (hix : ∀ i ∈ ix, i ∈ vs) (h : tD z W (sDc vs fi g ft fk fe) σ H Q) :
    tDc (tDI z W fi) (gD z ix g) (tDT z W0 ft) (tD z W0 fk) (tD z W0 fe) vs σ H Q := by
  obtain ⟨S, G, si, h⟩ := h
  refine ⟨S, G, si, ?_⟩
  unfold sDc at h
  cases e : fi S with
  | no => rw [e] at h; exact h
  | ex c w S1 => rw [e] at h; exact h
  | ok ds S1 =>
    rw [e] at h
    intro J H1 G1 si1 g1 wd D hD
    have h := Post.from h g1
    rw [bind_ok] at h
    by_cases hsz : ds.length ≤ 1000000
    · rw [if_pos hsz] at h
      cases el : noEx (dcL vs g ft fk fe [] ds (wipeS S1 vs)) with
      | no => rw [el] at h; exact h.elim
      | ex c w S2 => cases q : dcL vs g ft fk fe [] ds (wipeS S1 vs) <;> rw [q] at el <;> cases el
      | ok out S2 =>
        rw [el, bind_ok] at h
        have el := noEx_ok el
        obtain ⟨Gd, Y, wk, stay, yl⟩ := wd.ex
        have gn : G1 D = none := si1.le.none hD
        have sw := si1.wipe (vs := vs)
        have nO : ¬ Owns (wipeS S1 vs) (L2.wipe σ vs) D := fun o => by
          obtain ⟨_, u, hu⟩ := sw.ownFree o
          rw [hD] at hu; cases hu
        have x0 : Ext H1 (upd H1 D (.dK [])) G1 G1 := .own si1.le hD
        refine dc_it wk (g := gD z ix g) (tt := tDT z W0 ft) (tk := tD z W0 fk) (tv := tD z W0 fe) (DcInv z vs g ft fk fe ds out S1 S2 σ H1 G1 D) ⟨wipeS S1 vs, G1, [], [], sw.ext x0, x0.go, upd_same, gn, nO, .nil, Nat.zero_le _, by rw [List.drop_zero]; exact el⟩
          (fun i H' _ ⟨S', G', acc, outs, _, g', _⟩ => stay H' fun a o q1 q2 q3 => (g'.fr a o q1 fun q4 => q3 q4.wiped).eq q2) ?_ ?_
        · rintro i x Ha Hb hi ⟨S', G', acc, outs, si', g', hd', gn', no', rl, hlen, eq⟩ y
          have hdi : ds[i]? = some ds[i] := by simp [hi]
          obtain ⟨G2, ex, r⟩ := yl i _ Ha x Hb G' hdi g'.ge si'.le y
          rw [drop_get hdi] at eq
          have eq1 : (match g ds[i] S' with
            | none => Res.no
            | some S1 => (noEx (ft S1)).bind fun b S2 => if b = true then (noEx (fk S2)).bind fun rk S3 => (noEx (fe S3)).bind fun r S4 => match (look S4 rk).bind keyOf with
                | none => .no
                | some k => match valR S4 r with
                  | none => .no
                  | some (y, S5) => dcL vs g ft fk fe (putD outs k y) (ds.drop (i + 1)) (wipeS S5 vs)
              else dcL vs g ft fk fe outs (ds.drop (i + 1)) (wipeS S2 vs)) = .ok out S2 := eq
          have g2 := g'.trans (ex.go (S := S') (σ := L2.wipe σ vs))
          obtain ⟨hd2, gn2, no2⟩ := (ex.go (S := S') (σ := L2.wipe σ vs)).keepK hd' gn' no'
          cases eg : g ds[i] S' with
          | none => rw [eg] at eq1; cases eq1
          | some S4 =>
            rw [eg] at eq1
            refine ⟨S', G2, _, S4, si'.ext ex, r, eg, fun σ3 H3 G3 si3 g3 k3 => ?_⟩
            have hw := wipe_eq (ix := ix) (σ := σ) (σ2 := σ3) (k3.2.trans (wipe_length _ _)) hix k3.1
            refine ⟨hw, ?_⟩
            obtain ⟨b, S5, eb, eq3⟩ := bind_inv eq1
            have eb := noEx_ok eb
            obtain ⟨hd3, gn3, no3⟩ := g3.keepK hd2 gn2 no2
            refine ⟨S4, G3, si3, ?_⟩
            rw [eb]
            intro H5 G5 si5 g5
            obtain ⟨hd5, gn5, no5⟩ := g5.keepK hd3 gn3 no3
            cases b with
            | false =>
              rw [if_neg Bool.false_ne_true] at eq3 ⊢
              obtain ⟨s6, g6⟩ := si5.rewipe (σ := σ) hw
              obtain ⟨hd6, gn6, no6⟩ := g6.keepK hd5 gn5 no5
              exact ⟨_, G5, acc, outs, s6, ((g2.trans g3).trans g5).trans g6, hd6, gn6, no6, rl.mono (ex.ge.trans (g3.ge.trans g5.ge)), Nat.le_succ_of_le hlen, eq3⟩
            | true =>
              rw [if_pos rfl] at eq3 ⊢
              obtain ⟨rk, S6, ek, eq4⟩ := bind_inv eq3
              have ek := noEx_ok ek
              obtain ⟨rr, S7, ee, eq5⟩ := bind_inv eq4
              have ee := noEx_ok ee
              refine ⟨S5, G5, si5, ?_⟩
              rw [ek]
              intro kv H6 G6 si6 g6 dn6
              obtain ⟨G6', si6', g6', ge6, dk6⟩ := settle si6 g6 dn6
              obtain ⟨hd6, gn6, no6⟩ := g6'.keepK hd5 gn5 no5
              refine ⟨S6, G6', si6', ?_⟩
              rw [ee]
              intro yv H7 G7 si7 g7 dn7
              cases elk : look S7 rk with
              | none => rw [elk] at eq5; cases eq5
              | some kd =>
                rw [elk] at eq5
                have eq5 : (match keyOf kd with
                  | none => Res.no
                  | some k => match valR S7 rr with
                    | none => .no
                    | some (y, S5) => dcL vs g ft fk fe (putD outs k y) (ds.drop (i + 1)) (wipeS S5 vs)) = .ok out S2 := eq5
                cases ekk : keyOf kd with
                | none => rw [ekk] at eq5; cases eq5
                | some k =>
                  rw [ekk] at eq5
                  have eq5 : (match valR S7 rr with
                    | none => Res.no
                    | some (y, S5) => dcL vs g ft fk fe (putD outs k y) (ds.drop (i + 1)) (wipeS S5 vs)) = .ok out S2 := eq5
                  cases ev : valR S7 rr with
                  | none => rw [ev] at eq5; cases eq5
                  | some p =>
                    obtain ⟨yd, S8⟩ := p
                    rw [ev] at eq5
                    have vk := (dk6.mono g7.ge).view si7 elk
                    have ekv : kv = kV k := by
                      cases kd with
                      | int i => cases ekk; exact vk.int
                      | str i => cases ekk; exact vk.str
                      | _ => cases ekk
                    obtain ⟨G8, si8, g8, r8⟩ := valR_go si7 g7 dn7 ev
                    obtain ⟨hd8, gn8, no8⟩ := g8.keepK hd6 gn6 no6
                    obtain ⟨s9, g9⟩ := si8.rewipe (σ := σ) hw
                    obtain ⟨hd9, gn9, no9⟩ := g9.keepK hd8 gn8 no8
                    have rl8 := rl.mono (ex.ge.trans (g3.ge.trans (g5.ge.trans (g6'.ge.trans g8.ge))))
                    have hz : acc.length < sizeLine := Nat.lt_of_le_of_lt (Nat.le_trans (by rw [rl.len]; exact hlen) (Nat.le_trans (Nat.le_of_lt hi) hsz)) (by rw [sizeLine_eq]; decide)
                    exact ⟨acc, k, ekv, hd9, hz, _, G8, putK acc k yv, putD outs k yd, s9.touch hd9 gn9 no9, (((((g2.trans g3).trans g5).trans g6').trans g8).trans g9).touch hD, upd_same, gn9, no9, rl8.put k r8, Nat.le_trans (length_putD _ _ _) (by omega), eq5⟩
        · rintro Ha ⟨S', G', acc, outs, si', g', hd', gn', no', rl, hlen, eq⟩
          rw [List.drop_length] at eq
          have eq : (Res.ok outs S' : Res (List (Key × Dl.D))) = .ok out S2 := eq
          cases eq
          obtain ⟨su, gu⟩ := SI.unwipe si1 si' g'
          refine h (.ref D) Ha G' su gu ⟨D, rfl, hD, gn', fun ⟨i, t, d, q1, q2⟩ => ?_, acc, hd', rl.1, rl.2⟩
          rcases unwipe_get (by rw [si1.len, si'.len, wipe_length]) q1 with ⟨hi, q⟩ | ⟨hi, q⟩
          · obtain ⟨_, u, hu⟩ := si1.ownFree ⟨i, t, d, q, q2⟩
            rw [hD] at hu; cases hu
          · exact no' ⟨i, t, d, q, by rw [wipe_out hi]; exact q2⟩
    · rw [if_neg hsz] at h; exact h.elim
theorem E_dc {kx vx tg iter : Expr} {ifs : List Expr} {scope : Scope} {own : List (Str × Nat)} {pos : Pos} {fi : M (List D)} {ix : List Nat} {g : D → SS → Option SS} {ft : M Bool} {fk fe : M R} (c : Ct X z W) (hi : IT X z W tg iter fi) (ok : BlkOk X.N X.env.scope scope own)
    (hix : ∀ i ∈ ix, i ∈ own.map (·.2)) (hg : ∀ (s : Shared) (H : Hp) (C : Addr) (cl : List (Str × Addr)) (fp : List Addr), Tg (X.blk s H scope (compEnvC scope cl C X.env) fp) z tg ix g)
    (ht : ∀ (s : Shared) (H : Hp) (C : Addr) (cl : List (Str × Addr)) (fp : List Addr), Ts (X.blk s H scope (compEnvC scope cl C X.env) fp) z W0 ifs ft)
    (hk : ∀ (s : Shared) (H : Hp) (C : Addr) (cl : List (Str × Addr)) (fp : List Addr), E (X.blk s H scope (compEnvC scope cl C X.env) fp) z W0 kx fk)
    (he : ∀ (s : Shared) (H : Hp) (C : Addr) (cl : List (Str × Addr)) (fp : List Addr), E (X.blk s H scope (compEnvC scope cl C X.env) fp) z W0 vx fe) (hs : ∀ x, foldedSetIterable iter X.env x = pure x := by intro _; rfl) :
    E X z W (.DictComp kx vx [⟨tg, iter, ifs, 0⟩] scope pos) (sDc (own.map (·.2)) fi g ft fk fe) :=
  ⟨PE.le (pe_dc c.calm c.nd hi.pi ok (fun s H C cl fp => (hg s H C cl fp).pg) (fun s H C cl fp => (ht s H C cl fp).pt) (fun s H C cl fp => (hk s H C cl fp).pe) (fun s H C cl fp => (he s H C cl fp).pe) hs) fun σ H Q h => dc_run hix h, c.hk⟩
end
end L2.Dl
/-! Operators and built-ins by data. -/
namespace L2.Dl
open PySem PySem.Spec PyProof.Rows

section
variable {X : Cx} {z : Dx} {W : WX}
/-! ### arithmetic -/
def addD : D → D → Option R
  | .int i, .int j => some (.v (.int (i + j)))
  | .str a, .str b => if a.length + b.length ≤ 1000000 then some (.v (.str (a ++ b))) else none
  | .lst a, .lst b => if a.length + b.length ≤ 1000000 then some (.f (.lst (a ++ b))) else none
  | .tup a, .tup b => if a.isEmpty = false ∧ b.isEmpty = false ∧ a.length + b.length ≤ 1000000 then some (.v (.tup (a ++ b))) else none
  | _, _ => none
theorem op_addD (hk : z.K = X.K) : OpR X (binaryOp .Add) (rD2 z addD) := by
  intro pins s σ H x y v u Q I rx ry h
  obtain ⟨G, da, db, r, le, va, vb, e, q⟩ := h
  unfold addD at e
  split at e
  · cases e
    obtain rfl := va.int; obtain rfl := vb.int
    exact op_add pins s σ H _ _ v u Q I rx ry ⟨_, _, rfl, rfl, q.rep le (.int _)⟩
  · split at e
    · rename_i hz
      cases e
      obtain rfl := va.str; obtain rfl := vb.str
      exact op_add_str pins s σ H _ _ v u Q I rx ry ⟨_, _, rfl, rfl, line1 hz, q.rep le (.str _)⟩
    · cases e
  · split at e
    · rename_i hz
      cases e
      obtain ⟨a, xs, rfl, ha, r1⟩ := va.lst le
      obtain ⟨b, ys, rfl, hb, r2⟩ := vb.lst le
      exact op_cat pins s σ H _ _ v u Q I rx ry ⟨a, b, xs, ys, rfl, rfl, ha, hb, by rw [r1.length, r2.length]; exact line1 hz, fun p hp => q.new le hp ⟨_, upd_same, r1.append r2⟩⟩
    · cases e
  · split at e
    · rename_i hz
      cases e
      obtain ⟨a, xs, rfl, ha, r1⟩ := va.tup le
      obtain ⟨b, ys, rfl, hb, r2⟩ := vb.tup le
      rw [hk] at ha hb
      have nex : xs ≠ [] := fun q => by subst q; cases r1; simp at hz
      have ney : ys ≠ [] := fun q => by subst q; cases r2; simp at hz
      exact op_catT pins s σ H _ _ v u Q I rx ry ⟨a, b, xs, ys, rfl, rfl, ha, hb, nex, by rw [r1.length, r2.length]; exact line1 hz.2.2, fun q' => absurd q' ney, fun _ p hp => q.newV le hp (.tup (SqT.of upd_same) ((r1.append r2).mono (upd_le (le.none hp))))⟩
    · cases e
  · cases e
def intD (C : Int → Int → Bool) (g : Int → Int → Int) : D → D → Option R
  | .int i, .int j => if C i j = true then some (.v (.int (g i j))) else none
  | _, _ => none
theorem opIntD {f : Value → Value → Sem Value} {C : Int → Int → Bool} {P : Int → Int → Prop} {g : Int → Int → Int} (h : OpR X f (rI P fun i j => .int (g i j))) (hc : ∀ i j, C i j = true → P i j) : OpR X f (rD2 z (intD C g)) := by
  intro pins s σ H x y v u Q I rx ry hh
  obtain ⟨G, da, db, r, le, va, vb, e, q⟩ := hh
  unfold intD at e
  split at e
  · split at e
    · rename_i hz
      cases e
      obtain rfl := va.int; obtain rfl := vb.int
      exact h pins s σ H _ _ v u Q I rx ry ⟨_, _, rfl, rfl, hc _ _ hz, q.rep le (.int _)⟩
    · cases e
  · cases e
def subD : D → D → Option R := intD (fun _ _ => true) fun i j => i - j
theorem op_subD : OpR X (binaryOp .Sub) (rD2 z subD) := opIntD (P := fun _ _ => True) (fun pins s σ H x y v u Q I rx ry ⟨i, j, e1, e2, _, q⟩ => op_sub pins s σ H x y v u Q I rx ry ⟨i, j, e1, e2, q⟩) fun _ _ _ => trivial
def mulD : D → D → Option R := intD (fun i j => decide ((-(2 ^ 64) < i ∧ i < 2 ^ 64) ∨ (-(2 ^ 64) < j ∧ j < 2 ^ 64))) fun i j => i * j
theorem op_mulD : OpR X (binaryOp .Mult) (rD2 z mulD) := opIntD op_mul fun _ _ h => by have q := of_decide_eq_true h; exact q
def fdivD : D → D → Option R := intD (fun _ j => decide (0 < j ∧ j < 1073741824)) fun i j => i / j
theorem op_fdivD : OpR X (binaryOp .FloorDiv) (rD2 z fdivD) := opIntD op_fdiv fun _ _ h => by have q := of_decide_eq_true h; exact q
def modD : D → D → Option R := intD (fun _ j => decide (0 < j)) fun i j => i % j
theorem op_modD : OpR X (binaryOp .Mod) (rD2 z modD) := opIntD op_mod fun _ _ h => of_decide_eq_true h
def powD : D → D → Option R := intD (fun i j => decide (0 ≤ j ∧ j ≤ 1000000 ∧ i.natAbs < 2 ^ 64)) fun i j => i ^ j.toNat
theorem op_powD : OpR X (binaryOp .Pow) (rD2 z powD) := opIntD op_pow fun _ _ h => by have q := of_decide_eq_true h; exact q
def negD : D → Option R
  | .int i => some (.v (.int (-i)))
  | _ => none
theorem un_negD : UnR X (unaryOp .USub) (rD1 z negD) := by
  intro pins s σ H x v Q I rx h
  obtain ⟨G, da, r, le, va, e, q⟩ := h
  cases da with
  | int i =>
    cases e
    obtain rfl := va.int
    exact un_neg pins s σ H _ v Q I rx ⟨i, rfl, q.rep le (.int _)⟩
  | _ => cases e

/-! ### order -/
def ordD (g : Int → Int → Bool) (h : List Nat → List Nat → Bool) : D → D → Option Bool
  | .int i, .int j => some (g i j)
  | .str i, .str j => some (h i.cps.toList j.cps.toList)
  | _, _ => none
theorem op_ordD {f : Value → Value → Sem Value} {g : Int → Int → Bool} {h : List Nat → List Nat → Bool} (hi : OpR X f (rI0 fun i j => .bl (g i j)))
    (hs : OpR X f (fun x y H Q => ∃ i j, x = .str i ∧ y = .str j ∧ Q (.bl (h i.cps.toList j.cps.toList)) H)) : OpR X f (rD2 z (toB (ordD g h))) := by
  intro pins s σ H x y v u Q I rx ry hh
  obtain ⟨G, da, db, r, le, va, vb, e, q⟩ := hh
  unfold toB ordD at e
  split at e
  · cases e
    obtain rfl := va.int; obtain rfl := vb.int
    exact hi pins s σ H _ _ v u Q I rx ry ⟨_, _, rfl, rfl, q.rep le (.bl _)⟩
  · cases e
    obtain rfl := va.str; obtain rfl := vb.str
    exact hs pins s σ H _ _ v u Q I rx ry ⟨_, _, rfl, rfl, q.rep le (.bl _)⟩
  · cases e
def ltD : D → D → Option Bool := ordD (fun i j => decide (i < j)) fun a b => decide (a < b)
def leD : D → D → Option Bool := ordD (fun i j => decide (i ≤ j)) fun a b => !decide (b < a)
def gtD : D → D → Option Bool := ordD (fun i j => decide (j < i)) fun a b => decide (b < a)
def geD : D → D → Option Bool := ordD (fun i j => decide (j ≤ i)) fun a b => !decide (a < b)
theorem op_ltD : OpR X (compareOp .Lt) (rD2 z (toB ltD)) := op_ordD op_lt op_lt_str
theorem op_leD : OpR X (compareOp .LtE) (rD2 z (toB leD)) := op_ordD op_le op_le_str
theorem op_gtD : OpR X (compareOp .Gt) (rD2 z (toB gtD)) := op_ordD op_gt op_gt_str
theorem op_geD : OpR X (compareOp .GtE) (rD2 z (toB geD)) := op_ordD op_ge op_ge_str

/-! ### is -/
def isD (neg : Bool) : D → D → Option Bool
  | a, .non => match a with
    | .non => some (!neg)
    | .scr _ => none
    | _ => some neg
  | .bl a, .bl b => some (if neg then !(a == b) else a == b)
  | _, _ => none
theorem isN_view {G H : Hp} {x : V} {d : D} (le : LeH G H) (va : View z G H x d) : (∀ l, d ≠ .scr l) → decide (x = .non) = (match d with | .non => true | _ => false) := by
  intro hs
  cases d with
  | non => obtain rfl := va.non; rfl
  | bl b => obtain rfl := va.bl; rfl
  | int i => obtain rfl := va.int; rfl
  | str i => obtain rfl := va.str; rfl
  | lst l => obtain ⟨_, _, rfl, _⟩ := va.lst le; rfl
  | tup l => obtain ⟨_, _, rfl, _⟩ := va.tup le; rfl
  | dct l => obtain ⟨_, _, rfl, _⟩ := va.dct le; rfl
  | dtt l => obtain ⟨_, _, rfl, _⟩ := va.dtt le; rfl
  | scr l => exact absurd rfl (hs l)
  | ins c l => obtain ⟨_, _, _, rfl, _⟩ := va.ins le; rfl
theorem op_isD : OpR X (compareOp .Is) (rD2 z (toB (isD false))) := by
  intro pins s σ H x y v u Q I rx ry hh
  obtain ⟨G, da, db, r, le, va, vb, e, q⟩ := hh
  cases db with
  | non =>
    obtain rfl := vb.non
    refine op_isN pins s σ H _ _ v u Q I rx ry ⟨rfl, ?_⟩
    cases da with
    | scr l => cases e
    | _ => cases e; rw [isN_view le va (fun _ z => nomatch z)]; exact q.rep le (.bl _)
  | bl b =>
    cases da with
    | bl a =>
      cases e
      obtain rfl := va.bl; obtain rfl := vb.bl
      exact op_isBl pins s σ H _ _ v u Q I rx ry ⟨a, b, rfl, rfl, q.rep le (.bl _)⟩
    | _ => cases e
  | _ => cases da <;> cases e
theorem op_isnotD : OpR X (compareOp .IsNot) (rD2 z (toB (isD true))) := by
  intro pins s σ H x y v u Q I rx ry hh
  obtain ⟨G, da, db, r, le, va, vb, e, q⟩ := hh
  cases db with
  | non =>
    obtain rfl := vb.non
    refine op_notN pins s σ H _ _ v u Q I rx ry ⟨rfl, ?_⟩
    cases da with
    | scr l => cases e
    | _ => cases e; rw [isN_view le va (fun _ z => nomatch z)]; exact q.rep le (.bl _)
  | bl b =>
    cases da with
    | bl a =>
      cases e
      obtain rfl := va.bl; obtain rfl := vb.bl
      exact op_notBl pins s σ H _ _ v u Q I rx ry ⟨a, b, rfl, rfl, q.rep le (.bl _)⟩
    | _ => cases e
  | _ => cases da <;> cases e
/-! ### subscripts -/
def ixD : D → D → Option R
  | .lst l, .int i => (atI l i).map .v
  | .tup l, .int i => (atI l i).map .v
  | .str y, .int i => if y.length ≤ 1000000 then (atI y.cps.toList i).map fun c => .v (.str ⟨#[c]⟩) else none
  | .scr l, .int i => (atI l i).map fun n => .v (.int n)
  | _, _ => none
theorem atI_rep {G : Hp} {xs : List V} {l : List D} {i : Int} {d : D} (r : RepL z G xs l) (h : atI l i = some d) : ∃ v, atI xs i = some v ∧ Rep z G v d := by
  unfold atI at h ⊢
  rw [r.length]
  cases e : ixN l.length i with
  | none => rw [e] at h; cases h
  | some j =>
    rw [e] at h
    obtain ⟨v, h1, h2⟩ := r.get (show l[j]? = some d from h)
    exact ⟨v, h1, h2⟩
theorem atI_map {α β : Type} (f : α → β) (l : List α) (i : Int) : atI (l.map f) i = (atI l i).map f := by
  unfold atI
  rw [List.length_map]
  cases ixN l.length i with
  | none => rfl
  | some j => simp
theorem ix_D (hk : z.K = X.K) : IxR X (rD2 z ixD) := by
  intro value slice pins s σ H x y v u Q I rx ry hh hs
  obtain ⟨G, da, db, r, le, va, vb, e, q⟩ := hh
  unfold ixD at e
  split at e
  · rename_i l i
    cases ea : atI l i with
    | none => rw [ea] at e; cases e
    | some d =>
      rw [ea] at e
      cases e
      obtain rfl := vb.int
      obtain ⟨a, xs, rfl, ha, r1⟩ := va.lst le
      obtain ⟨w, h1, h2⟩ := atI_rep r1 ea
      exact ix_list value slice pins s σ H _ _ v u Q I rx ry ⟨a, xs, i, w, rfl, rfl, SqL.of ha, h1, q.rep le h2⟩ hs
  · rename_i l i
    cases ea : atI l i with
    | none => rw [ea] at e; cases e
    | some d =>
      rw [ea] at e
      cases e
      obtain rfl := vb.int
      obtain ⟨a, xs, rfl, ha, r1⟩ := va.tup le
      rw [hk] at ha
      obtain ⟨w, h1, h2⟩ := atI_rep r1 ea
      exact ix_tup value slice pins s σ H _ _ v u Q I rx ry ⟨a, xs, i, w, rfl, rfl, ha, h1, q.rep le h2⟩ hs
  · rename_i l i
    split at e
    · rename_i hz
      cases ea : atI l.cps.toList i with
      | none => rw [ea] at e; cases e
      | some d =>
        rw [ea] at e
        cases e
        obtain rfl := vb.int
        obtain rfl := va.str
        exact ix_str value slice pins s σ H _ _ v u Q I rx ry ⟨l, i, d, rfl, rfl, line1 hz, ea, q.rep le (.str _)⟩ hs
    · cases e
  · rename_i l i
    cases ea : atI l i with
    | none => rw [ea] at e; cases e
    | some d =>
      rw [ea] at e
      cases e
      obtain rfl := vb.int
      obtain ⟨a, rfl, ha⟩ := va.scr le
      rw [hk] at ha
      exact ix_list value slice pins s σ H _ _ v u Q I rx ry ⟨a, _, i, .int d, rfl, rfl, ha, by rw [atI_map, ea]; rfl, q.rep le (.int _)⟩ hs
  · cases e
/-- d[k] -/
def keysOf : List D → Option (List Key)
  | [] => some []
  | d :: ds => match keyOf d, keysOf ds with
    | some k, some ks => some (k :: ks)
    | _, _ => none
def getD : D → D → Option D
  | .dct l, k => (keyOf k).bind fun k => valD l k
  | .dtt l, .tup ks => (keysOf ks).bind fun k => valD l k
  | _, _ => none
def dgetD (a b : D) : Option R := (getD a b).map .v
theorem key_view {G H : Hp} {v : V} {d : D} {k : Key} (h : keyOf d = some k) (r : View z G H v d) : v = kV k := by
  cases d with
  | int i => cases h; exact r.int
  | str i => cases h; exact r.str
  | _ => cases h
theorem keysOf_rep {G : Hp} : ∀ {xs : List V} {ds : List D} {ks : List Key}, RepL z G xs ds → keysOf ds = some ks → xs = ks.map kV
  | _, [], _, r, e => by cases r; cases e; rfl
  | _, d :: ds, ks, r, e => by
    cases r with
    | cons a b =>
      unfold keysOf at e
      split at e
      · rename_i k ks' e1 e2
        cases e
        rw [keyOf_rep e1 a, keysOf_rep b e2]
        rfl
      · cases e
/-- what a dict holds at a key, by data (a tuple as a key: tracked) -/
theorem get_view (hk : z.K = X.K) {G H : Hp} {x y : V} {da db : D} (le : LeH G H) (va : View z G H x da) (vb : View z G H y db) :
    match da, db with
    | .dct l, k => ∀ k', keyOf k = some k' → ∃ a o, x = .ref a ∧ IsD H a ∧ DGet H a y o ∧ ((o = none ∧ valD l k' = none) ∨ ∃ v d, o = some v ∧ valD l k' = some d ∧ Rep z G v d)
    | _, _ => True := by
  cases da with
  | dct l =>
    intro k' ek
    obtain ⟨a, vs, rfl, ha, kk, rl⟩ := va.dct le
    obtain rfl := key_view ek vb
    refine ⟨a, valV vs k', rfl, .inl ⟨vs, ha⟩, .inl ⟨vs, k', ha, rfl, rfl⟩, ?_⟩
    rcases RepP.val (z := z) (G := G) ⟨kk, rl⟩ k' with ⟨h1, h2⟩ | ⟨v, d, h1, h2, h3⟩
    · exact .inl ⟨h1, h2⟩
    · exact .inr ⟨v, d, h1, h2, h3⟩
  | _ => trivial
end
end L2.Dl
/-! Subscripts, membership, built-in calls by data. -/
namespace L2.Dl
open PySem PySem.Spec PyProof.Rows

section
variable {X : Cx} {z : Dx} {W : WX}
/-! ### subscripts: a sequence or a dict -/
def subscD : D → D → Option R
  | .dct l, k => match keyOf k with
    | none => none
    | some k => match valD l k with
      | none => none
      | some d => some (.v d)
  | a, k => ixD a k
theorem dget_at {G H : Hp} {x y : V} {l : List (Key × D)} {dk : D} {k : Key} (le : LeH G H) (va : View z G H x (.dct l)) (vb : View z G H y dk) (ek : keyOf dk = some k) :
    ∃ a o, x = .ref a ∧ IsD H a ∧ DGet H a y o ∧ ((o = none ∧ valD l k = none) ∨ ∃ v d, o = some v ∧ valD l k = some d ∧ Rep z G v d) := by
  obtain ⟨a, vs, rfl, ha, kk, rl⟩ := va.dct le
  obtain rfl := key_view ek vb
  refine ⟨a, valV vs k, rfl, .inl ⟨vs, ha⟩, .inl ⟨vs, k, ha, rfl, rfl⟩, ?_⟩
  rcases RepP.val (z := z) (G := G) ⟨kk, rl⟩ k with ⟨h1, h2⟩ | ⟨v, d, h1, h2, h3⟩
  · exact .inl ⟨h1, h2⟩
  · exact .inr ⟨v, d, h1, h2, h3⟩
theorem ix_dct (hu : X.A.units + 1 < cLine) : IxR X (rD2 z fun a b => match a with | .dct _ => subscD a b | _ => none) := by
  intro value slice pins s σ H x y v u Q I rx ry hh hs
  obtain ⟨G, da, db, r, le, va, vb, e, q⟩ := hh
  cases da with
  | dct l =>
    have e : (match keyOf db with
      | none => none
      | some k => match valD l k with
        | none => none
        | some d => some (R.v d)) = some r := e
    cases ek : keyOf db with
    | none => rw [ek] at e; cases e
    | some k =>
      rw [ek] at e
      cases ev : valD l k with
      | none => simp only [ev] at e; cases e
      | some d =>
        simp only [ev] at e
        cases e
        obtain ⟨a, o, rfl, isd, g, h⟩ := dget_at le va vb ek
        rcases h with ⟨_, h⟩ | ⟨v1, d1, rfl, h2, h3⟩
        · rw [ev] at h; cases h
        · rw [ev] at h2; cases h2
          obtain rfl : v = Value.ref a := rx
          exact tail_any (isD_at I isd).1 PySem.F.slot_dict_getitem.lookup (d_getItem hu I g ry fun w' s3 I3 rw' => ⟨v1, H, I3, rw', q.rep le h3⟩) hs
  | _ => cases e
theorem ix_sub (hk : z.K = X.K) (hu : X.A.units + 1 < cLine) : IxR X (rD2 z subscD) := by
  intro value slice pins s σ H x y v u Q I rx ry hh hs
  obtain ⟨G, da, db, r, le, va, vb, e, q⟩ := hh
  cases da with
  | dct l => exact ix_dct hu value slice pins s σ H x y v u Q I rx ry ⟨G, _, db, r, le, va, vb, e, q⟩ hs
  | _ => exact ix_D hk value slice pins s σ H x y v u Q I rx ry ⟨G, _, db, r, le, va, vb, e, q⟩ hs

/-! ### membership -/
def scV : D → V
  | .non => .non
  | .bl b => .bl b
  | .int i => .int i
  | .str s => .str s
  | _ => .non
/-- == of plain values -/
def eqS : D → D → Bool
  | .non, .non => true
  | .bl a, .bl b => a == b
  | .bl a, .int b => (if a then 1 else 0) == b
  | .int a, .bl b => a == (if b then 1 else 0)
  | .int a, .int b => a == b
  | .str a, .str b => a == b
  | _, _ => false
theorem sc_rep {G : Hp} {v : V} {d : D} (h : d.sc = true) (r : Rep z G v d) : v = scV d ∧ flatV v = true := by
  cases d with
  | non => cases r; exact ⟨rfl, rfl⟩
  | bl b => cases r; exact ⟨rfl, rfl⟩
  | int i => cases r; exact ⟨rfl, rfl⟩
  | str s => cases r; exact ⟨rfl, rfl⟩
  | _ => cases h
theorem sc_view {G H : Hp} {v : V} {d : D} (h : d.sc = true) (r : View z G H v d) : v = scV d ∧ flatV v = true := by
  rcases r with r | ⟨a, _, o⟩
  · exact sc_rep h r
  · cases d with
    | non => exact o.elim
    | bl b => exact o.elim
    | int i => exact o.elim
    | str s => exact o.elim
    | _ => cases h
theorem eqS_V {a b : D} (ha : a.sc = true) (hb : b.sc = true) : eqV (scV a) (scV b) = eqS a b := by
  cases a <;> cases b <;> first | rfl | exact absurd ha Bool.false_ne_true | exact absurd hb Bool.false_ne_true
theorem scs_rep {G : Hp} : ∀ {xs : List V} {l : List D}, l.all D.sc = true → RepL z G xs l → xs = l.map scV ∧ xs.all flatV = true
  | _, [], _, r => by cases r; exact ⟨rfl, rfl⟩
  | _, d :: l, h, r => by
    cases r with
    | cons a b =>
      simp only [List.all_cons, Bool.and_eq_true] at h
      obtain ⟨h1, h2⟩ := sc_rep h.1 a
      obtain ⟨h3, h4⟩ := scs_rep h.2 b
      exact ⟨by rw [List.map_cons, ← h1, ← h3], by rw [List.all_cons, h2, h4]; rfl⟩
theorem inV_sc {d : D} (hd : d.sc = true) : ∀ {l : List D}, l.all D.sc = true → inV (scV d) (l.map scV) = l.any fun y => eqS y d
  | [], _ => rfl
  | y :: l, h => by
    simp only [List.all_cons, Bool.and_eq_true] at h
    have ih := inV_sc hd (l := l) h.2
    unfold inV at ih ⊢
    rw [List.map_cons, List.any_cons, List.any_cons, ih, eqS_V h.1 hd]
def seqMem (x : D) (l : List D) : Option Bool := if x.sc = true ∧ l.all D.sc = true then some (l.any fun y => eqS y x) else none
def memD : D → D → Option Bool
  | x, .lst l => seqMem x l
  | x, .tup l => seqMem x l
  | x, .dct l => (keyOf x).map fun k => (valD l k).isSome
  | .str a, .str b => if a.length = 1 then some (decide (a.cps.getD 0 0 ∈ b.cps.toList)) else some (!(Builtin.Str.occurrences b a 0 b.length 1).isEmpty)
  | _, _ => none
def nmemD (x y : D) : Option Bool := (memD x y).map (!·)
theorem one_sign {a : Str} (h : a.length = 1) : a = ⟨#[a.cps.getD 0 0]⟩ := by
  obtain ⟨c⟩ := a
  have h : c.size = 1 := h
  congr
  apply Array.ext
  · rw [h]; rfl
  · intro i h1 h2
    have : i = 0 := by omega
    subst this
    simp [Array.getD, h]
theorem mem_run (neg : Bool) (hk : z.K = X.K) (hu : X.A.units + 1 < cLine) : OpR X (compareOp (if neg then .NotIn else .In)) (rD2 z (toB (if neg then nmemD else memD))) := by
  intro pins s σ H x y v u Q I rx ry hh
  obtain ⟨G, da, db, r, le, va, vb, e, q⟩ := hh
  have e : toB (if neg = true then nmemD else memD) da db = some r := e
  -- the answer
  have key : ∃ k, memD da db = some k ∧ r = .v (.bl (if neg then !k else k)) := by
    unfold toB at e
    cases neg with
    | true =>
      simp only [if_true] at e
      unfold nmemD at e
      cases em : memD da db with
      | none => rw [em] at e; cases e
      | some k => rw [em] at e; cases e; exact ⟨k, rfl, rfl⟩
    | false =>
      simp only [Bool.false_eq_true, if_false] at e
      cases em : memD da db with
      | none => rw [em] at e; cases e
      | some k => rw [em] at e; cases e; exact ⟨k, rfl, rfl⟩
  obtain ⟨k, em, rfl⟩ := key
  have fin : Q (.bl (if neg then !k else k)) H := q.rep le (.bl _)
  have seq : ∀ {p : Addr} {xs : List V} {l : List D}, y = .ref p → (SqL X.K H p xs ∨ SqT X.K H p xs) → RepL z G xs l → seqMem da l = some k → wpAny (model X.prog X.w) X.A (compareOp (if neg then .NotIn else .In) v u) (EP X pins σ Q) X.xe s := by
    intro p xs l ey hq rl hs
    unfold seqMem at hs
    split at hs
    · rename_i hz
      cases hs
      obtain ⟨h1, h2⟩ := sc_view hz.1 va
      obtain ⟨h3, h4⟩ := scs_rep hz.2 rl
      have ein : inV x xs = l.any fun y => eqS y da := by rw [h1, h3]; exact inV_sc hz.1 hz.2
      cases neg with
      | true => exact op_notIn_seq pins s σ H x y v u Q I rx ry ⟨p, xs, ey, hq, h2, h4, by rw [if_pos rfl, ein]; exact fin⟩
      | false => exact op_in_seq pins s σ H x y v u Q I rx ry ⟨p, xs, ey, hq, h2, h4, by rw [if_neg Bool.false_ne_true, ein]; exact fin⟩
    · cases hs
  cases db with
  | lst l =>
    obtain ⟨p, xs, ey, hp, rl⟩ := vb.lst le
    have em : seqMem da l = some k := by cases da <;> exact em
    exact seq ey (.inl (SqL.of hp)) rl em
  | tup l =>
    obtain ⟨p, xs, ey, hp, rl⟩ := vb.tup le
    have em : seqMem da l = some k := by cases da <;> exact em
    exact seq ey (.inr (hk ▸ hp)) rl em
  | dct l =>
    have em : (keyOf da).map (fun k => (valD l k).isSome) = some k := by cases da <;> exact em
    cases ek : keyOf da with
    | none => rw [ek] at em; cases em
    | some kk =>
      rw [ek] at em
      have em : (valD l kk).isSome = k := Option.some.inj em
      obtain ⟨a, o, rfl, isd, g, h⟩ := dget_at le vb va ek
      obtain rfl : u = Value.ref a := ry
      have eo : o.isSome = k := by
        rcases h with ⟨h1, h2⟩ | ⟨v1, d1, h1, h2, _⟩
        · rw [h2] at em; rw [h1]; exact em
        · rw [h2] at em; rw [h1]; exact em
      subst eo
      cases neg with
      | true => exact d_notIn hu I g rx fun s3 I3 => ⟨.bl (!o.isSome), H, I3, rfl, fin⟩
      | false => exact d_in hu I g rx fun s3 I3 => ⟨.bl o.isSome, H, I3, rfl, fin⟩
  | str b =>
    cases da with
    | str a =>
      obtain rfl := va.str; obtain rfl := vb.str
      have em : (if a.length = 1 then some (decide (a.cps.getD 0 0 ∈ b.cps.toList)) else some (!(Builtin.Str.occurrences b a 0 b.length 1).isEmpty)) = some k := em
      by_cases h1 : a.length = 1
      · rw [if_pos h1] at em
        have em := Option.some.inj em
        cases neg with
        | true => exact op_notIn_sign pins s σ H _ _ v u Q I rx ry ⟨a.cps.getD 0 0, b, by rw [← one_sign h1], rfl, by rw [em]; exact fin⟩
        | false => exact op_in_sign pins s σ H _ _ v u Q I rx ry ⟨a.cps.getD 0 0, b, by rw [← one_sign h1], rfl, by rw [em]; exact fin⟩
      · rw [if_neg h1] at em
        have em := Option.some.inj em
        cases neg with
        | true => exact op_notIn_str pins s σ H _ _ v u Q I rx ry ⟨a, b, rfl, rfl, by rw [em]; exact fin⟩
        | false => exact op_in_str pins s σ H _ _ v u Q I rx ry ⟨a, b, rfl, rfl, by rw [em]; exact fin⟩
    | _ => cases em
  | _ => cases da <;> cases em
theorem op_memD (hk : z.K = X.K) (hu : X.A.units + 1 < cLine) : OpR X (compareOp .In) (rD2 z (toB memD)) := mem_run false hk hu
theorem op_nmemD (hk : z.K = X.K) (hu : X.A.units + 1 < cLine) : OpR X (compareOp .NotIn) (rD2 z (toB nmemD)) := mem_run true hk hu

/-! ### calls -/
def gLen : List D → Option R
  | [.lst l] => some (.v (.int l.length))
  | [.tup l] => some (.v (.int l.length))
  | [.scr l] => some (.v (.int l.length))
  | [.dct l] => some (.v (.int l.length))
  | [.str s] => if s.length ≤ 1000000 then some (.v (.int s.length)) else none
  | _ => none
theorem view1 {G H : Hp} {xs : List V} {d : D} (h : ViewL z G H xs [d]) : ∃ x, xs = [x] ∧ View z G H x d := by
  cases h with
  | cons a b => cases b; exact ⟨_, rfl, a⟩
theorem view2 {G H : Hp} {xs : List V} {d e : D} (h : ViewL z G H xs [d, e]) : ∃ x y, xs = [x, y] ∧ View z G H x d ∧ View z G H y e := by
  cases h with
  | cons a b =>
    cases b with
    | cons b c => cases c; exact ⟨_, _, rfl, a, b⟩
theorem cr_lenD (hk : z.K = X.K) : CallR X (.builtin "len") (rDL z gLen) := by
  intro pins s σ H xs us Q I rs hh
  obtain ⟨G, ds, r, le, vw, e, q⟩ := hh
  unfold gLen at e
  split at e
  · rename_i l
    cases e
    obtain ⟨x, rfl, v⟩ := view1 vw
    obtain ⟨a, ys, rfl, ha, rl⟩ := v.lst le
    exact call_len_seq pins s σ H _ us Q I rs ⟨a, ys, rfl, .inl (SqL.of ha), by rw [rl.length]; exact q.rep le (.int _)⟩
  · rename_i l
    cases e
    obtain ⟨x, rfl, v⟩ := view1 vw
    obtain ⟨a, ys, rfl, ha, rl⟩ := v.tup le
    exact call_len_seq pins s σ H _ us Q I rs ⟨a, ys, rfl, .inr (hk ▸ ha), by rw [rl.length]; exact q.rep le (.int _)⟩
  · rename_i l
    cases e
    obtain ⟨x, rfl, v⟩ := view1 vw
    obtain ⟨a, rfl, ha⟩ := v.scr le
    exact call_len_seq pins s σ H _ us Q I rs ⟨a, _, rfl, .inl (hk ▸ ha), by rw [List.length_map]; exact q.rep le (.int _)⟩
  · rename_i l
    cases e
    obtain ⟨x, rfl, v⟩ := view1 vw
    obtain ⟨a, vs, rfl, ha, kk, rl⟩ := v.dct le
    obtain ⟨u, rfl, rx⟩ := vals1 rs
    cases rx
    have hl : vs.length = l.length := by have := congrArg List.length kk; simpa using this
    exact d_len I ha fun t s' I' => ⟨.int vs.length, H, I', ⟨t, rfl⟩, by rw [hl]; exact q.rep le (.int _)⟩
  · rename_i y
    split at e
    · rename_i hz
      cases e
      obtain ⟨x, rfl, v⟩ := view1 vw
      obtain rfl := v.str
      exact call_len_str pins s σ H _ us Q I rs ⟨y, rfl, line1 hz, q.rep le (.int _)⟩
    · cases e
  · cases e
/-- list(x) -/
def gList : List D → Option R
  | [.lst l] => some (.f (.lst l))
  | [.tup l] => some (.f (.lst l))
  | [.scr l] => some (.f (.lst (l.map .int)))
  | [.dct l] => some (.f (.lst (l.map fun p => keyD p.1)))
  | _ => none
theorem keysL_rep {G : Hp} : ∀ {vs : List (Key × V)} {l : List (Key × D)}, vs.map (·.1) = l.map (·.1) → RepL z G (vs.map fun kv => kV kv.1) (l.map fun p => keyD p.1)
  | [], [], _ => .nil
  | [], _ :: _, h => by simp at h
  | _ :: _, [], h => by simp at h
  | a :: vs, b :: l, h => by
    simp only [List.map_cons, List.cons.injEq] at h
    exact .cons (by show Rep z G (kV a.1) (keyD b.1); rw [h.1]; exact rep_key _) (keysL_rep h.2)
theorem cr_listD (hk : z.K = X.K) (hc : X.calm = true) : CallR X (.type "list") (rDL z gList) := by
  intro pins s σ H xs us Q I rs hh
  obtain ⟨G, ds, r, le, vw, e, q⟩ := hh
  unfold gList at e
  split at e
  · rename_i l
    cases e
    obtain ⟨x, rfl, v⟩ := view1 vw
    obtain ⟨a, ys, rfl, ha, rl⟩ := v.lst le
    exact call_list_of pins s σ H _ us Q I rs ⟨a, ys, rfl, .inl (SqL.of ha), fun p hp => q.new le hp ⟨_, upd_same, rl⟩⟩
  · rename_i l
    cases e
    obtain ⟨x, rfl, v⟩ := view1 vw
    obtain ⟨a, ys, rfl, ha, rl⟩ := v.tup le
    exact call_list_of pins s σ H _ us Q I rs ⟨a, ys, rfl, .inr (hk ▸ ha), fun p hp => q.new le hp ⟨_, upd_same, rl⟩⟩
  · rename_i l
    cases e
    obtain ⟨x, rfl, v⟩ := view1 vw
    obtain ⟨a, rfl, ha⟩ := v.scr le
    exact call_list_of pins s σ H _ us Q I rs ⟨a, _, rfl, .inl (hk ▸ ha), fun p hp => q.new le hp ⟨_, upd_same, ints_rep l⟩⟩
  · rename_i l
    cases e
    obtain ⟨x, rfl, v⟩ := view1 vw
    obtain ⟨a, vs, rfl, ha, kk, rl⟩ := v.dct le
    exact call_listD hc pins s σ H _ us Q I rs ⟨a, vs, rfl, ha, fun p hp => q.new le hp ⟨_, upd_same, keysL_rep kk⟩⟩
  · cases e
/-- tuple(x) -/
def gTuple : List D → Option R
  | [.lst l] => some (.v (.tup l))
  | [.tup l] => some (.v (.tup l))
  | _ => none
theorem cr_tupleD (hk : z.K = X.K) : CallR X (.type "tuple") (rDL z gTuple) := by
  intro pins s σ H xs us Q I rs hh
  obtain ⟨G, ds, r, le, vw, e, q⟩ := hh
  unfold gTuple at e
  split at e
  · rename_i l
    cases e
    obtain ⟨x, rfl, v⟩ := view1 vw
    obtain ⟨a, ys, rfl, ha, rl⟩ := v.lst le
    exact call_tuple_of pins s σ H _ us Q I rs ⟨a, ys, rfl, .inl ⟨SqL.of ha, fun p hp => q.newV le hp (.tup (SqT.of upd_same) (rl.mono (upd_le (le.none hp))))⟩⟩
  · rename_i l
    cases e
    obtain ⟨x, rfl, v⟩ := view1 vw
    rcases v with r | ⟨_, _, o⟩
    · cases r with
      | tup e rl => exact call_tuple_of pins s σ H _ us Q I rs ⟨_, _, rfl, .inr ⟨hk ▸ le.sqT e, q.rep le (.tup e rl)⟩⟩
    · exact o.elim
  · cases e
/-- dict(d) -/
def gDict : List D → Option R
  | [.dct l] => some (.f (.dct l))
  | _ => none
theorem cr_dictD : CallR X (.type "dict") (rDL z gDict) := by
  intro pins s σ H xs us Q I rs hh
  obtain ⟨G, ds, r, le, vw, e, q⟩ := hh
  unfold gDict at e
  split at e
  · rename_i l
    cases e
    obtain ⟨x, rfl, v⟩ := view1 vw
    obtain ⟨a, vs, rfl, ha, kk, rl⟩ := v.dct le
    exact call_dictD pins s σ H _ us Q I rs ⟨a, vs, rfl, ha, fun p hp => q.new le hp ⟨_, upd_same, kk, rl⟩⟩
  · cases e
def gInt : List D → Option R
  | [.int i] => some (.v (.int i))
  | [.bl b] => some (.v (.int (if b then 1 else 0)))
  | _ => none
theorem cr_intD : CallR X (.type "int") (rDL z gInt) := by
  intro pins s σ H xs us Q I rs hh
  obtain ⟨G, ds, r, le, vw, e, q⟩ := hh
  unfold gInt at e
  split at e
  · cases e
    obtain ⟨x, rfl, v⟩ := view1 vw
    obtain rfl := v.int
    exact call_int1 pins s σ H _ us Q I rs (.inl ⟨_, rfl, q.rep le (.int _)⟩)
  · cases e
    obtain ⟨x, rfl, v⟩ := view1 vw
    obtain rfl := v.bl
    exact call_int1 pins s σ H _ us Q I rs (.inr ⟨_, rfl, q.rep le (.int _)⟩)
  · cases e
def gAbs : List D → Option R
  | [.int i] => some (.v (.int (if i < 0 then -i else i)))
  | _ => none
theorem cr_absD : CallR X (.builtin "abs") (rDL z gAbs) := by
  intro pins s σ H xs us Q I rs hh
  obtain ⟨G, ds, r, le, vw, e, q⟩ := hh
  unfold gAbs at e
  split at e
  · cases e
    obtain ⟨x, rfl, v⟩ := view1 vw
    obtain rfl := v.int
    exact call_abs pins s σ H _ us Q I rs ⟨_, rfl, q.rep le (.int _)⟩
  · cases e
def gStr : List D → Option R
  | [.int i] => if i.natAbs < 2 ^ 64 then some (.v (.str (toString i))) else none
  | _ => none
theorem cr_strD : CallR X (.type "str") (rDL z gStr) := by
  intro pins s σ H xs us Q I rs hh
  obtain ⟨G, ds, r, le, vw, e, q⟩ := hh
  unfold gStr at e
  split at e
  · rename_i i
    split at e
    · rename_i hz
      cases e
      obtain ⟨x, rfl, v⟩ := view1 vw
      obtain rfl := v.int
      refine call_str_int pins s σ H _ us Q I rs ⟨_, rfl, ?_, q.rep le (.str _)⟩
      by_cases h0 : i.natAbs = 0
      · rw [h0]; decide
      · exact Nat.lt_of_lt_of_le ((Nat.log2_lt h0).mpr hz) (by decide)
    · cases e
  · cases e
def gOrd : List D → Option R
  | [.str x] => if x.length = 1 then some (.v (.int (x.cps.getD 0 0 : Nat))) else none
  | _ => none
theorem cr_ordD : CallR X (.builtin "ord") (rDL z gOrd) := by
  intro pins s σ H xs us Q I rs hh
  obtain ⟨G, ds, r, le, vw, e, q⟩ := hh
  unfold gOrd at e
  split at e
  · split at e
    · rename_i hz
      cases e
      obtain ⟨x, rfl, v⟩ := view1 vw
      obtain rfl := v.str
      exact call_ord pins s σ H _ us Q I rs ⟨_, rfl, hz, q.rep le (.int _)⟩
    · cases e
  · cases e
/-- the ints of a list -/
def intsOf : List D → Option (List Int)
  | [] => some []
  | .int i :: l => match intsOf l with
    | none => none
    | some r => some (i :: r)
  | _ => none
theorem intsOf_rep {G : Hp} : ∀ {xs : List V} {l : List D} {ns : List Int}, intsOf l = some ns → RepL z G xs l → xs = ns.map V.int
  | _, [], _, e, r => by cases r; cases e; rfl
  | _, d :: l, ns, e, r => by
    cases r with
    | cons a b =>
      cases d with
      | int i =>
        unfold intsOf at e
        cases el : intsOf l with
        | none => rw [el] at e; cases e
        | some rr =>
          rw [el] at e; cases e
          cases a
          rw [intsOf_rep el b]; rfl
      | _ => cases e
theorem intsOf_eq : ∀ {l : List D} {ns : List Int}, intsOf l = some ns → l = ns.map .int
  | [], _, e => by cases e; rfl
  | d :: l, ns, e => by
    cases d with
    | int i =>
      unfold intsOf at e
      cases el : intsOf l with
      | none => rw [el] at e; cases e
      | some rr => rw [el] at e; cases e; rw [intsOf_eq el]; rfl
    | _ => cases e
theorem intsOf_map : ∀ ns : List Int, intsOf (ns.map .int) = some ns
  | [] => rfl
  | i :: ns => by show (match intsOf (ns.map .int) with | none => none | some r => some (i :: r)) = _; rw [intsOf_map ns]
def gSum : List D → Option R
  | [.lst l] => (intsOf l).map fun ns => .v (.int ns.sum)
  | _ => none
theorem cr_sumD (hc : X.calm = true) : CallR X (.builtin "sum") (rDL z gSum) := by
  intro pins s σ H xs us Q I rs hh
  obtain ⟨G, ds, r, le, vw, e, q⟩ := hh
  unfold gSum at e
  split at e
  · rename_i l
    cases el : intsOf l with
    | none => rw [el] at e; cases e
    | some ns =>
      rw [el] at e; cases e
      obtain ⟨x, rfl, v⟩ := view1 vw
      obtain ⟨a, ys, rfl, ha, rl⟩ := v.lst le
      have h1 := intsOf_rep el rl
      subst h1
      exact cr_sum hc pins s σ H _ us Q I rs ⟨a, ns, rfl, SqL.of ha, q.rep le (.int _)⟩
  · cases e
/-- max, min -/
def lmax : Int → List Int → Int
  | m, [] => m
  | m, i :: l => lmax (if i > m then i else m) l
def lmin : Int → List Int → Int
  | m, [] => m
  | m, i :: l => lmin (if i < m then i else m) l
theorem lmax_mem : ∀ (l : List Int) (m : Int), lmax m l = m ∨ lmax m l ∈ l
  | [], m => .inl rfl
  | i :: l, m => by
    unfold lmax
    rcases lmax_mem l (if i > m then i else m) with h | h
    · split at h
      · exact .inr (by rw [if_pos (by assumption)]; rw [h]; exact List.mem_cons_self)
      · exact .inl (by rw [if_neg (by assumption)]; exact h)
    · exact .inr (List.mem_cons_of_mem _ h)
theorem lmax_le : ∀ (l : List Int) (m : Int), m ≤ lmax m l ∧ ∀ y ∈ l, y ≤ lmax m l
  | [], m => ⟨Int.le_refl _, fun _ h => by simp at h⟩
  | i :: l, m => by
    unfold lmax
    obtain ⟨h1, h2⟩ := lmax_le l (if i > m then i else m)
    refine ⟨?_, fun y hy => ?_⟩
    · refine Int.le_trans ?_ h1
      split <;> omega
    · rcases List.mem_cons.mp hy with rfl | hy
      · refine Int.le_trans ?_ h1
        split <;> omega
      · exact h2 y hy
theorem lmin_mem : ∀ (l : List Int) (m : Int), lmin m l = m ∨ lmin m l ∈ l
  | [], m => .inl rfl
  | i :: l, m => by
    unfold lmin
    rcases lmin_mem l (if i < m then i else m) with h | h
    · split at h
      · exact .inr (by rw [if_pos (by assumption)]; rw [h]; exact List.mem_cons_self)
      · exact .inl (by rw [if_neg (by assumption)]; exact h)
    · exact .inr (List.mem_cons_of_mem _ h)
theorem lmin_le : ∀ (l : List Int) (m : Int), lmin m l ≤ m ∧ ∀ y ∈ l, lmin m l ≤ y
  | [], m => ⟨Int.le_refl _, fun _ h => by simp at h⟩
  | i :: l, m => by
    unfold lmin
    obtain ⟨h1, h2⟩ := lmin_le l (if i < m then i else m)
    refine ⟨?_, fun y hy => ?_⟩
    · refine Int.le_trans h1 ?_
      split <;> omega
    · rcases List.mem_cons.mp hy with rfl | hy
      · refine Int.le_trans h1 ?_
        split <;> omega
      · exact h2 y hy
def gMax : List D → Option R
  | [.int i, .int j] => some (.v (.int (if j > i then j else i)))
  | [.lst l] => match intsOf l with
    | some (i :: ns) => some (.v (.int (lmax i ns)))
    | _ => none
  | _ => none
def gMin : List D → Option R
  | [.int i, .int j] => some (.v (.int (if j < i then j else i)))
  | [.lst l] => match intsOf l with
    | some (i :: ns) => some (.v (.int (lmin i ns)))
    | _ => none
  | _ => none
theorem cr_maxD (hc : X.calm = true) : CallR X (.builtin "max") (rDL z gMax) := by
  intro pins s σ H xs us Q I rs hh
  obtain ⟨G, ds, r, le, vw, e, q⟩ := hh
  unfold gMax at e
  split at e
  · cases e
    obtain ⟨x, y, rfl, v1, v2⟩ := view2 vw
    obtain rfl := v1.int; obtain rfl := v2.int
    exact call_max2 hc pins s σ H _ us Q I rs ⟨_, _, rfl, q.rep le (.int _)⟩
  · rename_i l
    split at e
    · rename_i i ns el
      cases e
      obtain ⟨x, rfl, v⟩ := view1 vw
      obtain ⟨a, ys, rfl, ha, rl⟩ := v.lst le
      have h1 := intsOf_rep el rl
      subst h1
      refine cr_max hc pins s σ H _ us Q I rs ⟨a, i :: ns, rfl, SqL.of ha, Nat.succ_pos _, fun m hm hy => ?_⟩
      have : m = lmax i ns := by
        apply Int.le_antisymm
        · rcases List.mem_cons.mp hm with rfl | hm
          · exact (lmax_le ns m).1
          · exact (lmax_le ns i).2 m hm
        · rcases lmax_mem ns i with h | h
          · rw [h]; exact hy i List.mem_cons_self
          · exact hy _ (List.mem_cons_of_mem _ h)
      rw [this]
      exact q.rep le (.int _)
    · cases e
  · cases e
theorem cr_minD (hc : X.calm = true) : CallR X (.builtin "min") (rDL z gMin) := by
  intro pins s σ H xs us Q I rs hh
  obtain ⟨G, ds, r, le, vw, e, q⟩ := hh
  unfold gMin at e
  split at e
  · cases e
    obtain ⟨x, y, rfl, v1, v2⟩ := view2 vw
    obtain rfl := v1.int; obtain rfl := v2.int
    exact call_min2 hc pins s σ H _ us Q I rs ⟨_, _, rfl, q.rep le (.int _)⟩
  · rename_i l
    split at e
    · rename_i i ns el
      cases e
      obtain ⟨x, rfl, v⟩ := view1 vw
      obtain ⟨a, ys, rfl, ha, rl⟩ := v.lst le
      have h1 := intsOf_rep el rl
      subst h1
      refine cr_min hc pins s σ H _ us Q I rs ⟨a, i :: ns, rfl, SqL.of ha, Nat.succ_pos _, fun m hm hy => ?_⟩
      have : m = lmin i ns := by
        apply Int.le_antisymm
        · rcases lmin_mem ns i with h | h
          · rw [h]; exact hy i List.mem_cons_self
          · exact hy _ (List.mem_cons_of_mem _ h)
        · rcases List.mem_cons.mp hm with rfl | hm
          · exact (lmin_le ns m).1
          · exact (lmin_le ns i).2 m hm
      rw [this]
      exact q.rep le (.int _)
    · cases e
  · cases e
/-- the truth values of a list -/
def blsOf : List D → Option (List Bool)
  | [] => some []
  | .bl i :: l => match blsOf l with
    | none => none
    | some r => some (i :: r)
  | _ => none
theorem blsOf_rep {G : Hp} : ∀ {xs : List V} {l : List D} {ns : List Bool}, blsOf l = some ns → RepL z G xs l → xs = ns.map V.bl
  | _, [], _, e, r => by cases r; cases e; rfl
  | _, d :: l, ns, e, r => by
    cases r with
    | cons a b =>
      cases d with
      | bl i =>
        unfold blsOf at e
        cases el : blsOf l with
        | none => rw [el] at e; cases e
        | some rr =>
          rw [el] at e; cases e
          cases a
          rw [blsOf_rep el b]; rfl
      | _ => cases e
theorem blsOf_map : ∀ ns : List Bool, blsOf (ns.map .bl) = some ns
  | [] => rfl
  | i :: ns => by show (match blsOf (ns.map .bl) with | none => none | some r => some (i :: r)) = _; rw [blsOf_map ns]
def gAny : List D → Option R
  | [.lst l] => (blsOf l).map fun ns => .v (.bl (ns.any id))
  | _ => none
def gAll : List D → Option R
  | [.lst l] => (blsOf l).map fun ns => .v (.bl (ns.all id))
  | _ => none
theorem cr_anyD (hc : X.calm = true) : CallR X (.builtin "any") (rDL z gAny) := by
  intro pins s σ H xs us Q I rs hh
  obtain ⟨G, ds, r, le, vw, e, q⟩ := hh
  unfold gAny at e
  split at e
  · rename_i l
    cases el : blsOf l with
    | none => rw [el] at e; cases e
    | some ns =>
      rw [el] at e; cases e
      obtain ⟨x, rfl, v⟩ := view1 vw
      obtain ⟨a, ys, rfl, ha, rl⟩ := v.lst le
      have h1 := blsOf_rep el rl
      subst h1
      exact cr_any hc pins s σ H _ us Q I rs ⟨a, ns, rfl, SqL.of ha, q.rep le (.bl _)⟩
  · cases e
theorem cr_allD (hc : X.calm = true) : CallR X (.builtin "all") (rDL z gAll) := by
  intro pins s σ H xs us Q I rs hh
  obtain ⟨G, ds, r, le, vw, e, q⟩ := hh
  unfold gAll at e
  split at e
  · rename_i l
    cases el : blsOf l with
    | none => rw [el] at e; cases e
    | some ns =>
      rw [el] at e; cases e
      obtain ⟨x, rfl, v⟩ := view1 vw
      obtain ⟨a, ys, rfl, ha, rl⟩ := v.lst le
      have h1 := blsOf_rep el rl
      subst h1
      exact cr_all hc pins s σ H _ us Q I rs ⟨a, ns, rfl, SqL.of ha, q.rep le (.bl _)⟩
  · cases e
end
end L2.Dl
/-! Changes of own objects: methods of lists, stores, augmented stores, deletions; dict methods. -/
namespace L2.Dl
open PySem PySem.Spec PyProof.Rows

section
variable {z : Dx} {W : WX} {S S1 S2 : SS} {G G1 H H1 : Hp} {σ : L2.St} {Q : VK}
/-- an own object is changed -/
theorem SI.mut {i : Nat} {t : Option Nat} {d d' : D} {a : Addr} {o u : HO} (si : SI z S σ H G) (e : S[i]? = some (.own t d)) (ea : σ[i]? = some (some (.ref a))) (ho : H a = some o) (ow : OwnAt z G (upd H a u) a d') :
    SI z (S.set i (.own t d')) σ (upd H a u) G ∧ Go S (S.set i (.own t d')) σ σ H (upd H a u) G G := by
  obtain ⟨b, eb, ga, ow0, _⟩ := si.own i t d e
  rw [ea] at eb; cases eb
  have pl := own_pl ow0 ho
  have ar : Around' [a] H (upd H a u) G G := by
    refine ⟨.refl _, fun b v q => ?_, fun b o' q n => ?_, fun b q => ?_, fun b v q => .inl q⟩
    · have nb : b ≠ a := fun z => by subst z; rw [ga] at q; cases q
      exact (si.le b v q).imp (fun q => ⟨by rw [upd_ne nb]; exact q.1, q.2⟩) (Or.imp (fun q => by rw [upd_ne nb]; exact q) fun q => q.keep fun c o' ec np => by
        have nc : c ≠ a := fun z => by subst z; rw [ho] at ec; cases ec; exact np pl
        rw [upd_ne nc]; exact ec)
    · have nb : b ≠ a := fun z => n (by rw [z]; exact List.mem_cons_self)
      exact .inl (by rw [upd_ne nb]; exact q)
    · by_cases nb : b = a
      · subst nb; rw [upd_same] at q; cases q
      · rw [upd_ne nb] at q; exact q
  have h := around_si (io := [i]) (iod := [d']) si ar (.cons ⟨⟨t, d, e⟩, ea⟩ .nil) (by simp) (.cons ow .nil)
  have es : setIO S [i] [d'] = S.set i (.own t d') := by
    unfold setIO
    rw [e]
    rfl
  rw [es] at h
  exact h
end

/-! ### methods that change a list -/
def ownL (S : SS) (i : Nat) : Option (Option Nat × List D) := match S[i]? with
  | some (.own t (.lst l)) => some (t, l)
  | _ => none
def ownK (S : SS) (i : Nat) : Option (Option Nat × List (Key × D)) := match S[i]? with
  | some (.own t (.dct l)) => some (t, l)
  | _ => none
theorem ownL_eq {S : SS} {i : Nat} {t : Option Nat} {l : List D} (h : ownL S i = some (t, l)) : S[i]? = some (.own t (.lst l)) := by
  unfold ownL at h
  split at h
  · rename_i e; cases h; exact e
  · cases h
theorem ownK_eq {S : SS} {i : Nat} {t : Option Nat} {l : List (Key × D)} (h : ownK S i = some (t, l)) : S[i]? = some (.own t (.dct l)) := by
  unfold ownK at h
  split at h
  · rename_i e; cases h; exact e
  · cases h
/-- x.m(..): x an own list -/
def mutL (i : Nat) (g : List D → List D → Option (List D × D)) (fl : M (List R)) : M R := fun S => match ownL S i with
  | none => .no
  | some _ => (fl S).bind fun rs S1 => match valsR S1 rs with
    | none => .no
    | some (ds, S2) => match ownL S2 i with
      | none => .no
      | some (t, l) => match g l ds with
        | none => .no
        | some (l', d) => .ok (.v d) (S2.set i (.own t (.lst l')))
/-- .. by the kit's reading -/
def MutL (z : Dx) (g : List D → List D → Option (List D × D)) (r : V → List V → Hp → VK → Prop) : Prop :=
  ∀ (G H : Hp) (a : Addr) (xs : List V) (l : List D) (vs : List V) (ds : List D) (l' : List D) (d : D) (Q : VK), LeH G H → H a = some (.lst xs) → RepL z G xs l → RepL z G vs ds → g l ds = some (l', d) →
    (∀ v xs', RepL z G xs' l' → Rep z G v d → Q v (upd H a (.lst xs'))) → r (.ref a) vs H Q
section
variable {X : Cx} {z : Dx} {W : WX} {S S1 S2 : SS} {G G1 H H1 : Hp} {σ : L2.St} {Q : VK}
theorem own_list {i : Nat} {t : Option Nat} {l : List D} (si : SI z S σ H G) (h : ownL S i = some (t, l)) : ∃ a xs, σ[i]? = some (some (.ref a)) ∧ H a = some (.lst xs) ∧ RepL z G xs l ∧ S[i]? = some (.own t (.lst l)) := by
  have e := ownL_eq h
  obtain ⟨a, ea, _, ⟨xs, h1, h2⟩, _⟩ := si.own i t _ e
  exact ⟨a, xs, ea, h1, h2, e⟩
theorem own_dict {i : Nat} {t : Option Nat} {l : List (Key × D)} (si : SI z S σ H G) (h : ownK S i = some (t, l)) : ∃ a vs, σ[i]? = some (some (.ref a)) ∧ H a = some (.dK vs) ∧ RepP z G vs l ∧ S[i]? = some (.own t (.dct l)) := by
  have e := ownK_eq h
  obtain ⟨a, ea, _, ⟨xs, h1, h2, h3⟩, _⟩ := si.own i t _ e
  exact ⟨a, xs, ea, h1, ⟨h2, h3⟩, e⟩

theorem mutL_run {i : Nat} {g : List D → List D → Option (List D × D)} {r : V → List V → Hp → VK → Prop} {fl : M (List R)} (hm : MutL z g r) (si : SI z S σ H G) (h : Post z W S G H σ Q (mutL i g fl S)) :
    ∃ a xs, σ[i]? = some (some (.ref a)) ∧ H a = some (.lst xs) ∧ tDL z W fl σ H fun vs H1 => r (.ref a) vs H1 Q := by
  unfold mutL at h
  cases eo : ownL S i with
  | none => rw [eo] at h; exact h.elim
  | some q =>
    obtain ⟨t, l⟩ := q
    rw [eo] at h
    simp only at h
    obtain ⟨a, xs, ea, ha, rl, es⟩ := own_list si eo
    refine ⟨a, xs, ea, ha, (stepL si h).mono fun vs H1 ⟨rs, S1, G1, si1, _, dl, h1⟩ => ?_⟩
    cases ev : valsR S1 rs with
    | none => rw [ev] at h1; exact h1.elim
    | some q =>
      obtain ⟨ds, S2⟩ := q
      rw [ev] at h1
      simp only at h1
      obtain ⟨G2, si2, g2, rv⟩ := valsR_run dl si1 ev
      cases eo2 : ownL S2 i with
      | none => rw [eo2] at h1; exact h1.elim
      | some q =>
        obtain ⟨t2, l2⟩ := q
        rw [eo2] at h1
        simp only at h1
        obtain ⟨a2, xs2, ea2, ha2, rl2, es2⟩ := own_list si2 eo2
        rw [ea] at ea2; cases ea2
        cases eg : g l2 ds with
        | none => rw [eg] at h1; exact h1.elim
        | some q =>
          obtain ⟨l', d⟩ := q
          rw [eg] at h1
          refine hm G2 H1 a xs2 l2 vs ds l' d Q si2.le ha2 rl2 rv eg fun v xs' rl' rd => ?_
          obtain ⟨si3, g3⟩ := si2.mut (u := .lst xs') (d' := .lst l') es2 ea ha2 ⟨xs', upd_same, rl'⟩
          exact h1 v _ G2 si3 (g2.trans g3) rd
variable {x name : Str} {p apos cpos : Pos} {id : String} {r : V → List V → Hp → VK → Prop} {g : List D → List D → Option (List D × D)} {e : Expr} {es : List Expr} {fl : M (List R)}
theorem E_mutL (hk : z.K = X.K) (i : Nat) (slot : Slot "list" name id) (hty : typeOf (.builtin id) = pure (.type "method_descriptor")) (hm : MtR X id r) (hr : MutL z g r) (hl : L X z W (e :: es) fl) (hN : X.N[i]? = some x := by rfl)
    (hv : Vis X.env.scope x := by first | exact Or.inl rfl | exact Or.inr (Or.inl rfl) | exact Or.inr (Or.inr rfl)) (hd : (x == ("__debug__" : Str)) = false := by decide) (hcd : (x == ("__classdict__" : Str)) = false := by decide)
    (hbase : attributeBase (.Name x p) name X.env (eval (.Name x p) X.env) = eval (.Name x p) X.env := by rfl)
    (hfew : ((backTo cpos (starEach (e :: es) X.env)).all (fun x => !x.1) && (backToKw cpos (keywordEach [] X.env)).all (fun x => x.1.isSome)
      && decide ((e :: es).length + ([] : List Keyword).length + (if ([] : List Keyword).isEmpty then 0 else 1) < 30)) = true := by rfl)
    (hline : (apos.endLine == cpos.line) = true := by rfl) (hs : starEach (e :: es) X.env = (false, eval e X.env) :: starEach es X.env := by rfl) (hplain : (backTo cpos (starEach es X.env)).any (·.1) = false := by rfl) :
    E X z W (.Call (.Attribute (.Name x p) name apos) (e :: es) [] cpos) (mutL i g fl) := by
  refine ⟨PE.le (pe_bm F.plainAttrs_list slot hty hm (pe_var hN hv hd hcd) hl.pa hbase hfew hline hs hplain) fun σ H Q ⟨S, G, si, h⟩ => ?_, hk⟩
  obtain ⟨a, xs, ea, ha, q⟩ := mutL_run hr si h
  exact ⟨.ref a, ea, .inl ⟨rfl, xs, SqL.of ha⟩, q⟩
theorem E_mutL0 (hk : z.K = X.K) (i : Nat) (slot : Slot "list" name id) (hty : typeOf (.builtin id) = pure (.type "method_descriptor")) (hm : MtR X id r) (hr : MutL z g r) (hN : X.N[i]? = some x := by rfl)
    (hv : Vis X.env.scope x := by first | exact Or.inl rfl | exact Or.inr (Or.inl rfl) | exact Or.inr (Or.inr rfl)) (hd : (x == ("__debug__" : Str)) = false := by decide) (hcd : (x == ("__classdict__" : Str)) = false := by decide)
    (hbase : attributeBase (.Name x p) name X.env (eval (.Name x p) X.env) = eval (.Name x p) X.env := by rfl) (hline : (apos.endLine == cpos.line) = true := by rfl) :
    E X z W (.Call (.Attribute (.Name x p) name apos) [] [] cpos) (mutL i g sNil) := by
  refine ⟨PE.le (pe_bm0 F.plainAttrs_list slot hty hm (pe_var hN hv hd hcd) hbase hline) fun σ H Q ⟨S, G, si, h⟩ => ?_, hk⟩
  obtain ⟨a, xs, ea, ha, S', G', si', q⟩ := mutL_run hr si h
  exact ⟨.ref a, ea, .inl ⟨rfl, xs, SqL.of ha⟩, q [] H G' si' .refl .nil⟩
def gApp (l ds : List D) : Option (List D × D) := match ds with
  | [d] => if l.length < 1000000 then some (l ++ [d], .non) else none
  | _ => none
theorem m_app : MutL z gApp rAppend := by
  intro G H a xs l vs ds l' d Q le ha rl rv e k
  unfold gApp at e
  split at e
  · rename_i d0
    split at e
    · rename_i hz
      cases e
      cases rv with
      | cons r0 rn =>
        cases rn
        exact ⟨a, xs, _, rfl, rfl, ha, by rw [rl.length]; rw [sizeLine_eq]; omega, k _ _ (rl.append (.cons r0 .nil)) .non⟩
    · cases e
  · cases e
def gPop (l ds : List D) : Option (List D × D) := match ds with
  | [] => match l[l.length - 1]? with
    | some d => some (l.dropLast, d)
    | none => none
  | _ => none
theorem RepL.dropLast {xs : List V} {l : List D} (r : RepL z G xs l) : RepL z G xs.dropLast l.dropLast := by
  rw [List.dropLast_eq_take, List.dropLast_eq_take, r.length]
  exact RepL.of_get (by simp [r.length]) fun i v d h1 h2 => by
    rw [List.getElem?_take] at h1 h2
    split at h1
    · rename_i hi
      rw [if_pos hi] at h2
      obtain ⟨d', e', q⟩ := r.got h1
      rw [h2] at e'; cases e'; exact q
    · cases h1
theorem RepL.erase {xs : List V} {l : List D} (r : RepL z G xs l) (k : Nat) : RepL z G (xs.eraseIdx k) (l.eraseIdx k) := by
  induction l generalizing xs k with
  | nil => cases r; exact .nil
  | cons d l ih =>
    cases r with
    | cons a b =>
      cases k with
      | zero => exact b
      | succ k => exact .cons a (ih b k)
theorem RepL.rev {xs : List V} {l : List D} (r : RepL z G xs l) : RepL z G xs.reverse l.reverse := by
  induction l generalizing xs with
  | nil => cases r; exact .nil
  | cons d l ih =>
    cases r with
    | cons a b => rw [List.reverse_cons, List.reverse_cons]; exact (ih b).append (.cons a .nil)
theorem RepL.take {xs : List V} {l : List D} (r : RepL z G xs l) (k : Nat) : RepL z G (xs.take k) (l.take k) := by
  induction l generalizing xs k with
  | nil => cases r; rw [List.take_nil, List.take_nil]; exact .nil
  | cons d l ih =>
    cases r with
    | cons a b =>
      cases k with
      | zero => exact .nil
      | succ k => exact .cons a (ih b k)
theorem RepL.drop {xs : List V} {l : List D} (r : RepL z G xs l) (k : Nat) : RepL z G (xs.drop k) (l.drop k) := by
  induction l generalizing xs k with
  | nil => cases r; rw [List.drop_nil, List.drop_nil]; exact .nil
  | cons d l ih =>
    cases r with
    | cons a b =>
      cases k with
      | zero => exact .cons a b
      | succ k => exact ih b k
theorem m_pop : MutL z gPop rPop := by
  intro G H a xs l vs ds l' d Q le ha rl rv e k
  unfold gPop at e
  split at e
  · split at e
    · rename_i d0 ed
      cases e
      cases rv
      obtain ⟨v, ev, r0⟩ := rl.get ed
      exact ⟨a, xs, v, rfl, rfl, ha, by rw [rl.length]; exact ev, k _ _ rl.dropLast r0⟩
    · cases e
  · cases e
def gPopAt (l ds : List D) : Option (List D × D) := match ds with
  | [.int i] => if -(2 ^ 63) ≤ i ∧ i < 2 ^ 63 then match seqIndex? i l.length with
    | some k => match l[k]? with
      | some d => some (l.eraseIdx k, d)
      | none => none
    | none => none else none
  | _ => none
theorem m_popAt : MutL z gPopAt rPopAt := by
  intro G H a xs l vs ds l' d Q le ha rl rv e k
  unfold gPopAt at e
  split at e
  · rename_i i
    split at e
    · rename_i hi
      split at e
      · rename_i j ej
        split at e
        · rename_i d0 ed
          cases e
          cases rv with
          | cons r0 rn =>
            cases rn
            cases r0
            obtain ⟨v, ev, r0⟩ := rl.get ed
            exact ⟨a, xs, i, j, v, rfl, rfl, ha, hi.1, hi.2, by rw [rl.length]; exact ej, ev, k _ _ (rl.erase j) r0⟩
        · cases e
      · cases e
    · cases e
  · cases e
def gRev (l ds : List D) : Option (List D × D) := match ds with
  | [] => some (l.reverse, .non)
  | _ => none
theorem m_rev : MutL z gRev rReverse := by
  intro G H a xs l vs ds l' d Q le ha rl rv e k
  unfold gRev at e
  split at e
  · cases e
    cases rv
    exact ⟨a, xs, rfl, rfl, ha, k _ _ rl.rev .non⟩
  · cases e
def gExt (l ds : List D) : Option (List D × D) := match ds with
  | [.lst m] => if l.length + m.length ≤ 1000000 then some (l ++ m, .non) else none
  | _ => none
theorem m_ext : MutL z gExt rExtend := by
  intro G H a xs l vs ds l' d Q le ha rl rv e k
  unfold gExt at e
  split at e
  · rename_i m
    split at e
    · rename_i hz
      cases e
      cases rv with
      | cons r0 rn =>
        cases rn
        cases r0 with
        | lst e0 r0 =>
          exact ⟨a, _, xs, _, rfl, rfl, ha, le.lst e0, by rw [rl.length, r0.length]; exact line1 hz, k _ _ (rl.append r0) .non⟩
    · cases e
  · cases e
def gIns (l ds : List D) : Option (List D × D) := match ds with
  | [.int i, d] => if l.length < 1000000 ∧ 0 ≤ i ∧ i < 1000000 then some (l.take i.toNat ++ [d] ++ l.drop i.toNat, .non) else none
  | _ => none
theorem E_append (hk : z.K = X.K) (i : Nat) (hl : L X z W [e] fl) (hN : X.N[i]? = some x := by rfl)
    (hv : Vis X.env.scope x := by first | exact Or.inl rfl | exact Or.inr (Or.inl rfl) | exact Or.inr (Or.inr rfl)) (hd : (x == ("__debug__" : Str)) = false := by decide) (hcd : (x == ("__classdict__" : Str)) = false := by decide)
    (hbase : attributeBase (.Name x p) "append" X.env (eval (.Name x p) X.env) = eval (.Name x p) X.env := by rfl)
    (hfew : ((backTo cpos (starEach [e] X.env)).all (fun x => !x.1) && (backToKw cpos (keywordEach [] X.env)).all (fun x => x.1.isSome)
      && decide ([e].length + ([] : List Keyword).length + (if ([] : List Keyword).isEmpty then 0 else 1) < 30)) = true := by rfl)
    (hline : (apos.endLine == cpos.line) = true := by rfl) (hs : starEach [e] X.env = (false, eval e X.env) :: starEach [] X.env := by rfl) (hplain : (backTo cpos (starEach [] X.env)).any (·.1) = false := by rfl) :
    E X z W (.Call (.Attribute (.Name x p) "append" apos) [e] [] cpos) (mutL i gApp fl) :=
  E_mutL hk i F.slot_list_append F.type_list_append mt_append m_app hl hN hv hd hcd hbase hfew hline hs hplain
theorem E_pop (hk : z.K = X.K) (i : Nat) (hN : X.N[i]? = some x := by rfl)
    (hv : Vis X.env.scope x := by first | exact Or.inl rfl | exact Or.inr (Or.inl rfl) | exact Or.inr (Or.inr rfl)) (hd : (x == ("__debug__" : Str)) = false := by decide) (hcd : (x == ("__classdict__" : Str)) = false := by decide)
    (hbase : attributeBase (.Name x p) "pop" X.env (eval (.Name x p) X.env) = eval (.Name x p) X.env := by rfl) (hline : (apos.endLine == cpos.line) = true := by rfl) :
    E X z W (.Call (.Attribute (.Name x p) "pop" apos) [] [] cpos) (mutL i gPop sNil) :=
  E_mutL0 hk i F.slot_list_pop F.type_list_pop mt_pop m_pop hN hv hd hcd hbase hline
theorem E_popAt (hk : z.K = X.K) (i : Nat) (hl : L X z W [e] fl) (hN : X.N[i]? = some x := by rfl)
    (hv : Vis X.env.scope x := by first | exact Or.inl rfl | exact Or.inr (Or.inl rfl) | exact Or.inr (Or.inr rfl)) (hd : (x == ("__debug__" : Str)) = false := by decide) (hcd : (x == ("__classdict__" : Str)) = false := by decide)
    (hbase : attributeBase (.Name x p) "pop" X.env (eval (.Name x p) X.env) = eval (.Name x p) X.env := by rfl)
    (hfew : ((backTo cpos (starEach [e] X.env)).all (fun x => !x.1) && (backToKw cpos (keywordEach [] X.env)).all (fun x => x.1.isSome)
      && decide ([e].length + ([] : List Keyword).length + (if ([] : List Keyword).isEmpty then 0 else 1) < 30)) = true := by rfl)
    (hline : (apos.endLine == cpos.line) = true := by rfl) (hs : starEach [e] X.env = (false, eval e X.env) :: starEach [] X.env := by rfl) (hplain : (backTo cpos (starEach [] X.env)).any (·.1) = false := by rfl) :
    E X z W (.Call (.Attribute (.Name x p) "pop" apos) [e] [] cpos) (mutL i gPopAt fl) :=
  E_mutL hk i F.slot_list_pop F.type_list_pop mt_popAt m_popAt hl hN hv hd hcd hbase hfew hline hs hplain
theorem E_extend (hk : z.K = X.K) (i : Nat) (hl : L X z W [e] fl) (hN : X.N[i]? = some x := by rfl)
    (hv : Vis X.env.scope x := by first | exact Or.inl rfl | exact Or.inr (Or.inl rfl) | exact Or.inr (Or.inr rfl)) (hd : (x == ("__debug__" : Str)) = false := by decide) (hcd : (x == ("__classdict__" : Str)) = false := by decide)
    (hbase : attributeBase (.Name x p) "extend" X.env (eval (.Name x p) X.env) = eval (.Name x p) X.env := by rfl)
    (hfew : ((backTo cpos (starEach [e] X.env)).all (fun x => !x.1) && (backToKw cpos (keywordEach [] X.env)).all (fun x => x.1.isSome)
      && decide ([e].length + ([] : List Keyword).length + (if ([] : List Keyword).isEmpty then 0 else 1) < 30)) = true := by rfl)
    (hline : (apos.endLine == cpos.line) = true := by rfl) (hs : starEach [e] X.env = (false, eval e X.env) :: starEach [] X.env := by rfl) (hplain : (backTo cpos (starEach [] X.env)).any (·.1) = false := by rfl) :
    E X z W (.Call (.Attribute (.Name x p) "extend" apos) [e] [] cpos) (mutL i gExt fl) :=
  E_mutL hk i F.slot_list_extend F.type_list_extend mt_extend m_ext hl hN hv hd hcd hbase hfew hline hs hplain
theorem E_reverse (hk : z.K = X.K) (i : Nat) (hN : X.N[i]? = some x := by rfl)
    (hv : Vis X.env.scope x := by first | exact Or.inl rfl | exact Or.inr (Or.inl rfl) | exact Or.inr (Or.inr rfl)) (hd : (x == ("__debug__" : Str)) = false := by decide) (hcd : (x == ("__classdict__" : Str)) = false := by decide)
    (hbase : attributeBase (.Name x p) "reverse" X.env (eval (.Name x p) X.env) = eval (.Name x p) X.env := by rfl) (hline : (apos.endLine == cpos.line) = true := by rfl) :
    E X z W (.Call (.Attribute (.Name x p) "reverse" apos) [] [] cpos) (mutL i gRev sNil) :=
  E_mutL0 hk i F.slot_list_reverse F.type_list_reverse mt_reverse m_rev hN hv hd hcd hbase hline

/-! ### stores: x[i] = e, d[k] = e -/
def getAt : D → D → Option D
  | .lst l, .int j => atI l j
  | .dct l, k => match keyOf k with
    | none => none
    | some k => valD l k
  | _, _ => none
def putAt : D → D → D → Option D
  | .lst l, .int j, d => match ixN l.length j with
    | none => none
    | some n => some (.lst (l.set n d))
  | .dct l, k, d => match keyOf k with
    | none => none
    | some k => if l.length < 1000000 then some (.dct (putD l k d)) else none
  | _, _, _ => none
def ownC (S : SS) (i : Nat) : Option (Option Nat × D) := match S[i]? with
  | some (.own t (.lst l)) => some (t, .lst l)
  | some (.own t (.dct l)) => some (t, .dct l)
  | _ => none
def sPut (i : Nat) (fv fk : M R) : M Fl := fun S => (fv S).bind fun rv S1 => match valR S1 rv with
  | none => .no
  | some (d, S2) => match ownC S2 i with
    | none => .no
    | some _ => (fk S2).bind fun rk S3 => match look S3 rk, ownC S3 i with
      | some k, some (t, c) => match putAt c k d with
        | none => .no
        | some c' => .ok .nx (S3.set i (.own t c'))
      | _, _ => .no
end
end L2.Dl
/-! Stores at x[k], augmented ones, deletions; names with op=; get, setdefault. -/
namespace L2.Dl
open PySem PySem.Spec PyProof.Rows

section
variable {X : Cx} {z : Dx} {W : WX} {S S1 S2 : SS} {G G1 H H1 : Hp} {σ : L2.St} {Q : VK}
/-! ### by values -/
def rSetB : V → V → V → Hp → (Hp → Prop) → Prop := fun o i v H Q => rSetL o i v H Q ∨ ∃ a H', o = .ref a ∧ DPut H a i v H' ∧ Q H'
theorem set_any (hu : X.A.units + 1 < cLine) : PSet X rSetB := by
  intro pins s σ H o i v ov iv u Q I ro ri rv h
  rcases h with h | ⟨a, H', rfl, g, q⟩
  · exact set_list pins s σ H o i v ov iv u Q I ro ri rv h
  · obtain rfl : ov = Value.ref a := ro
    exact d_setItem hu I g ri rv fun s3 I3 => ⟨H', I3, q⟩
def rGetB : V → V → Hp → VK → Prop := fun o i H Q => (∃ p xs j v, o = .ref p ∧ i = .int j ∧ H p = some (.lst xs) ∧ atI xs j = some v ∧ Q v H) ∨ ∃ a v, o = .ref a ∧ DGet H a i (some v) ∧ Q v H
theorem get_any (hu : X.A.units + 1 < cLine) : PGet X rGetB := by
  intro pins s σ H o i ov iv Q I ro ri h
  rcases h with ⟨p, xs, j, v, rfl, rfl, hp, hj, q⟩ | ⟨a, v, rfl, g, q⟩
  · obtain rfl : ov = Value.ref p := ro
    obtain ⟨t, rfl⟩ := ri
    obtain ⟨its, r, pl, hz⟩ := I.list (SqL.of (K := X.K) hp)
    obtain ⟨n, h1, h2, h3, h4, h5⟩ := atI_get hj
    obtain ⟨w, ew, rw'⟩ := r.get h2
    have hl := r.length
    have hn := line63
    have fin : EP X pins σ Q w s := ⟨v, H, I, rw', q⟩
    by_cases h0 : 0 ≤ j
    · have hj : j.toNat = n := by
        rw [seqIndex_of h0 h5] at h1
        exact Option.some.inj h1
      exact wpAny_getItem_list pl.isList h0 (by omega) (by rw [hj]; simpa using ew) fin
    · have hj : (j + (its.toArray.size : Int)).toNat = n := by
        rw [seqIndex_neg (by omega) h4] at h1
        rw [List.size_toArray, ← hl]
        exact Option.some.inj h1
      exact wpAny_getItem_list_neg pl.isList (by omega) (by rw [List.size_toArray] <;> omega) (by omega) (by rw [hj]; simpa using ew) fin
  · obtain rfl : ov = Value.ref a := ro
    exact d_getItem hu I g ri fun w' s3 I3 rw' => ⟨v, H, I3, rw', q⟩

theorem own_cont {i : Nat} {t : Option Nat} {c : D} (si : SI z S σ H G) (h : ownC S i = some (t, c)) :
    ∃ a, σ[i]? = some (some (.ref a)) ∧ OwnAt z G H a c ∧ S[i]? = some (.own t c) ∧ ((∃ l, c = .lst l) ∨ ∃ l, c = .dct l) := by
  unfold ownC at h
  split at h
  · rename_i t' l e
    cases h
    obtain ⟨a, ea, _, o, _⟩ := si.own i _ _ e
    exact ⟨a, ea, o, e, .inl ⟨l, rfl⟩⟩
  · rename_i t' l e
    cases h
    obtain ⟨a, ea, _, o, _⟩ := si.own i _ _ e
    exact ⟨a, ea, o, e, .inr ⟨l, rfl⟩⟩
  · cases h
/-- the store by data -/
theorem put_run {i : Nat} {t : Option Nat} {c c' dk d : D} {a : Addr} {y v : V} {K : Hp → Prop} (si : SI z S σ H G) (eo : ownC S i = some (t, c)) (ea : σ[i]? = some (some (.ref a))) (vy : View z G H y dk) (rv : Rep z G v d) (ep : putAt c dk d = some c')
    (k : ∀ H', SI z (S.set i (.own t c')) σ H' G → Go S (S.set i (.own t c')) σ σ H H' G G → K H') : rSetB (.ref a) y v H K := by
  obtain ⟨a', ea', ow, es, hc⟩ := own_cont si eo
  rw [ea] at ea'; cases ea'
  rcases hc with ⟨l, rfl⟩ | ⟨l, rfl⟩
  · obtain ⟨xs, h1, rl⟩ := ow
    cases dk with
    | int j =>
      have ep : (match ixN l.length j with | none => none | some n => some (.lst (l.set n d))) = some c' := ep
      cases ei : ixN l.length j with
      | none => rw [ei] at ep; cases ep
      | some n =>
        rw [ei] at ep
        cases ep
        obtain rfl := vy.int
        obtain ⟨s2, g2⟩ := si.mut (u := .lst (xs.set n v)) (d' := .lst (l.set n d)) es ea h1 ⟨_, upd_same, rl.set n rv⟩
        exact .inl ⟨a, xs, j, n, rfl, rfl, h1, by rw [rl.length]; exact ei, k _ s2 g2⟩
    | _ => cases ep
  · obtain ⟨vs, h1, kk, rl⟩ := ow
    have ep : (match keyOf dk with | none => none | some k => if l.length < 1000000 then some (.dct (putD l k d)) else none) = some c' := ep
    cases ek : keyOf dk with
    | none => rw [ek] at ep; cases ep
    | some kk' =>
      rw [ek] at ep
      simp only at ep
      split at ep
      · rename_i hz
        cases ep
        obtain rfl := key_view ek vy
        have rp : RepP z G vs l := ⟨kk, rl⟩
        have rp2 := rp.put kk' rv
        obtain ⟨s2, g2⟩ := si.mut (u := .dK (putK vs kk' v)) (d' := .dct (putD l kk' d)) es ea h1 ⟨_, upd_same, rp2.1, rp2.2⟩
        exact .inr ⟨a, _, rfl, .inl ⟨vs, kk', h1, rfl, by rw [rp.len]; rw [sizeLine_eq]; omega, rfl⟩, k _ s2 g2⟩
      · cases ep
theorem ownC_addr {i : Nat} {q : Option Nat × D} (si : SI z S σ H G) (h : ownC S i = some q) : ∃ a, σ[i]? = some (some (.ref a)) := by
  obtain ⟨t, c⟩ := q
  obtain ⟨a, ea, _⟩ := own_cont si h
  exact ⟨a, ea⟩
variable {x : Str} {o e value idx : Expr} {p pos pos' tpos : Pos} {fv fk fe : M R}
theorem S_put (c : Ct X z W) (hu : X.A.units + 1 < cLine) (i : Nat) (hv : E X z W value fv) (hi : E X z W idx fk) (hN : X.N[i]? = some x := by rfl)
    (hvis : Vis X.env.scope x := by first | exact Or.inl rfl | exact Or.inr (Or.inl rfl) | exact Or.inr (Or.inr rfl)) (hd : (x == ("__debug__" : Str)) = false := by decide) (hcd : (x == ("__classdict__" : Str)) = false := by decide)
    (ha : ∀ v, assign (.Subscript (.Name x p) idx pos') X.env v = (do
      let ov ← holding [v] (eval (.Name x p) X.env)
      let iv ← holding [v, ov] (eval idx X.env)
      standAt pos'
      holding [v, ov, iv] (setItem ov iv v)
      release [v, ov, iv] []) := by intro _; rfl)
    (hs : swapsWithSole [.Subscript (.Name x p) idx pos'] value pos.line X.env = pure false := by rfl) (hw : swappedStores [.Subscript (.Name x p) idx pos'] value X.env = pure none := by rfl)
    (h1 : (assignEach [.Subscript (.Name x p) idx pos'] X.env).map (·.2) = [assign (.Subscript (.Name x p) idx pos') X.env] := by rfl) :
    Sm X z W (.Assign [.Subscript (.Name x p) idx pos'] value pos) (sPut i fv fk) := by
  refine ⟨PS.le (ps_asg hv.pe (pg_sub (pe_var (i := i) hN hvis hd hcd) hi.pe (set_any hu) ha) hs hw h1) fun D σ H ⟨S, G, si, h⟩ => ?_⟩
  refine (stepS si h).mono fun v H1 ⟨rv, S1, G1, si1, _, dv, h1⟩ => ?_
  cases ev : valR S1 rv with
  | none => rw [ev] at h1; exact h1.elim
  | some q =>
    obtain ⟨d, S2⟩ := q
    rw [ev] at h1
    simp only at h1
    obtain ⟨G2, si2, g2, r2⟩ := valR_run si1 dv ev
    cases eo : ownC S2 i with
    | none => rw [eo] at h1; exact h1.elim
    | some q =>
      rw [eo] at h1
      simp only at h1
      obtain ⟨a, ea⟩ := ownC_addr si2 eo
      refine ⟨.ref a, ea, (stepS si2 (PostS.from h1 g2)).mono fun y H2 ⟨rk, S3, G3, si3, g3, dk, h3⟩ => ?_⟩
      cases el : look S3 rk with
      | none => rw [el] at h3; exact h3.elim
      | some k =>
        cases eo3 : ownC S3 i with
        | none => rw [el, eo3] at h3; exact h3.elim
        | some q =>
          obtain ⟨t, c⟩ := q
          rw [el, eo3] at h3
          simp only at h3
          cases ep : putAt c k d with
          | none => rw [ep] at h3; exact h3.elim
          | some c' =>
            rw [ep] at h3
            exact put_run si3 eo3 ea (dk.view si3 el) (r2.mono g3.ge) ep fun H' s4 g4 => h3 σ H' G3 s4 g4
/-- x[k] op= e -/
def sAugS (i : Nat) (fk fe : M R) (g : D → D → Option R) : M Fl := fun S => match ownC S i with
  | none => .no
  | some _ => (fk S).bind fun rk S1 => match look S1 rk, ownC S1 i with
    | some k, some (_, c) => match getAt c k with
      | none => .no
      | some d0 => (fe S1).bind fun re S2 => match look S2 re, look S2 rk, ownC S2 i with
        | some d1, some k2, some (t, c2) => match g d0 d1 with
          | some (.v d2) => match putAt c2 k2 d2 with
            | none => .no
            | some c' => .ok .nx (S2.set i (.own t c'))
          | _ => .no
        | _, _, _ => .no
    | _, _ => .no
theorem get_run {i : Nat} {t : Option Nat} {c dk d : D} {a : Addr} {y : V} (si : SI z S σ H G) (eo : ownC S i = some (t, c)) (ea : σ[i]? = some (some (.ref a))) (vy : View z G H y dk) (eg : getAt c dk = some d) :
    ∃ v, Rep z G v d ∧ ∀ K : VK, K v H → rGetB (.ref a) y H K := by
  obtain ⟨a', ea', ow, es, hc⟩ := own_cont si eo
  rw [ea] at ea'; cases ea'
  rcases hc with ⟨l, rfl⟩ | ⟨l, rfl⟩
  · obtain ⟨xs, h1, rl⟩ := ow
    cases dk with
    | int j =>
      obtain rfl := vy.int
      obtain ⟨v, e1, r1⟩ := atI_rep rl (show atI l j = some d from eg)
      exact ⟨v, r1, fun K k => .inl ⟨a, xs, j, v, rfl, rfl, h1, e1, k⟩⟩
    | _ => cases eg
  · obtain ⟨vs, h1, kk, rl⟩ := ow
    have eg : (match keyOf dk with | none => none | some k => valD l k) = some d := eg
    cases ek : keyOf dk with
    | none => rw [ek] at eg; cases eg
    | some kk' =>
      rw [ek] at eg
      have eg : valD l kk' = some d := eg
      obtain rfl := key_view ek vy
      rcases RepP.val (z := z) (G := G) ⟨kk, rl⟩ kk' with ⟨_, h2⟩ | ⟨v, d', h2, h3, h4⟩
      · rw [eg] at h2; cases h2
      · rw [eg] at h3; cases h3
        exact ⟨v, h4, fun K k => .inr ⟨a, v, rfl, .inl ⟨vs, kk', .inl h1, rfl, h2.symm⟩, k⟩⟩
theorem S_augS (c : Ct X z W) (hu : X.A.units + 1 < cLine) (i : Nat) {op : Operator} {g : D → D → Option R} (ho : OpR X (inplaceOp op) (rD2 z g)) (hi : E X z W idx fk) (he : E X z W e fe) (hN : X.N[i]? = some x := by rfl)
    (hvis : Vis X.env.scope x := by first | exact Or.inl rfl | exact Or.inr (Or.inl rfl) | exact Or.inr (Or.inr rfl)) (hd : (x == ("__debug__" : Str)) = false := by decide) (hcd : (x == ("__classdict__" : Str)) = false := by decide)
    (ha : ∀ ov iv new, augStore idx ov iv new = (do holding [new, ov, iv] (setItem ov iv new); release [new, ov, iv] []; pure .next) := by intros; rfl) :
    Sm X z W (.AugAssign (.Subscript (.Name x p) idx tpos) op e pos) (sAugS i fk fe g) := by
  refine ⟨PS.le (ps_augS (pe_var (i := i) hN hvis hd hcd) hi.pe (get_any hu) he.pe (tip := rD2 z g) ho (set_any hu) ha) fun D σ H ⟨S, G, si, h⟩ => ?_⟩
  unfold sAugS at h
  cases eo : ownC S i with
  | none => rw [eo] at h; exact h.elim
  | some q =>
    rw [eo] at h
    simp only at h
    obtain ⟨a, ea⟩ := ownC_addr si eo
    refine ⟨.ref a, ea, (stepS si h).mono fun y H1 ⟨rk, S1, G1, si1, _, dk, h1⟩ => ?_⟩
    cases el : look S1 rk with
    | none => rw [el] at h1; exact h1.elim
    | some k =>
      cases eo1 : ownC S1 i with
      | none => rw [el, eo1] at h1; exact h1.elim
      | some q =>
        obtain ⟨t1, c1⟩ := q
        rw [el, eo1] at h1
        simp only at h1
        cases eg : getAt c1 k with
        | none => rw [eg] at h1; exact h1.elim
        | some d0 =>
          rw [eg] at h1
          simp only at h1
          obtain ⟨v0, r0, kg⟩ := get_run si1 eo1 ea (dk.view si1 el) eg
          refine kg _ ((stepS si1 h1).mono fun w H2 ⟨re, S2, G2, si2, g2, de, h2⟩ => ?_)
          cases el1 : look S2 re with
          | none => rw [el1] at h2; exact h2.elim
          | some d1 =>
            cases el2 : look S2 rk with
            | none => rw [el1, el2] at h2; exact h2.elim
            | some k2 =>
              cases eo2 : ownC S2 i with
              | none => rw [el1, el2, eo2] at h2; exact h2.elim
              | some q =>
                obtain ⟨t, c2⟩ := q
                rw [el1, el2, eo2] at h2
                simp only at h2
                cases er : g d0 d1 with
                | none => rw [er] at h2; exact h2.elim
                | some r =>
                  cases r with
                  | v d2 =>
                    rw [er] at h2
                    simp only at h2
                    cases ep : putAt c2 k2 d2 with
                    | none => rw [ep] at h2; exact h2.elim
                    | some c' =>
                      rw [ep] at h2
                      refine ⟨G2, d0, d1, .v d2, si2.le, .inl (r0.mono g2.ge), de.view si2 el1, er, fun v2 H3 G3 x3 r3 => ?_⟩
                      have si3 := si2.ext x3
                      exact put_run (z := z) si3 eo2 ea ((dk.mono (g2.ge.trans x3.ge)).view si3 el2) r3 ep fun H' s4 g4 => h2 σ H' G3 s4 (x3.go.trans g4)
                  | f d => rw [er] at h2; exact h2.elim
                  | «at» j => rw [er] at h2; exact h2.elim
/-- del x[k] -/
def sDel (i : Nat) (fk : M R) : M Fl := fun S => match ownK S i with
  | none => .no
  | some _ => (fk S).bind fun rk S1 => match look S1 rk, ownK S1 i with
    | some k, some (t, l) => match keyOf k with
      | none => .no
      | some k => if (valD l k).isSome = true then .ok .nx (S1.set i (.own t (.dct (dropD l k)))) else .no
    | _, _ => .no
theorem S_del (i : Nat) (hi : E X z W idx fk) (hN : X.N[i]? = some x := by rfl)
    (hvis : Vis X.env.scope x := by first | exact Or.inl rfl | exact Or.inr (Or.inl rfl) | exact Or.inr (Or.inr rfl)) (hd : (x == ("__debug__" : Str)) = false := by decide) (hcd : (x == ("__classdict__" : Str)) = false := by decide) :
    Sm X z W (.Delete [.Subscript (.Name x p) idx tpos] pos) (sDel i fk) := by
  refine ⟨PS.le (ps_ddel (pe_var (i := i) hN hvis hd hcd) hi.pe) fun D σ H ⟨S, G, si, h⟩ => ?_⟩
  unfold sDel at h
  cases eo : ownK S i with
  | none => rw [eo] at h; exact h.elim
  | some q =>
    obtain ⟨t0, l0⟩ := q
    rw [eo] at h
    simp only at h
    obtain ⟨a, vs0, ea, _⟩ := own_dict si eo
    refine ⟨.ref a, ea, (stepS si h).mono fun y H1 ⟨rk, S1, G1, si1, _, dk, h1⟩ => ?_⟩
    cases el : look S1 rk with
    | none => rw [el] at h1; exact h1.elim
    | some k =>
      cases eo1 : ownK S1 i with
      | none => rw [el, eo1] at h1; exact h1.elim
      | some q =>
        obtain ⟨t, l⟩ := q
        rw [el, eo1] at h1
        simp only at h1
        cases ek : keyOf k with
        | none => rw [ek] at h1; exact h1.elim
        | some kk =>
          rw [ek] at h1
          simp only at h1
          split at h1
          · rename_i hs
            obtain ⟨a', vs, ea', ha, rp, es⟩ := own_dict si1 eo1
            rw [ea] at ea'; cases ea'
            obtain rfl := key_view ek (dk.view si1 el)
            have rp2 := rp.drop kk
            obtain ⟨s2, g2⟩ := si1.mut (u := .dK (dropK vs kk)) (d' := .dct (dropD l kk)) es ea ha ⟨_, upd_same, rp2.1, rp2.2⟩
            refine ⟨a, vs, kk, rfl, ha, rfl, ?_, h1 σ _ G1 s2 g2⟩
            rcases rp.val kk with ⟨_, h2⟩ | ⟨v, d, h2, h3, _⟩
            · rw [h2] at hs; cases hs
            · rw [h2]; rfl
          · exact h1.elim

/-! ### name op= e -/
def sAugN (i : Nat) (fe : M R) (g : D → D → Option R) : M Fl := fun S => match S[i]? with
  | some (.shr d0) => (fe S).bind fun re S1 => match look S1 re with
    | none => .no
    | some d1 => match g d0 d1 with
      | some (.v d) => .ok .nx (S1.set i (.shr d))
      | _ => .no
  | _ => .no
theorem S_augN (c : Ct X z W) (i : Nat) {op : Operator} {g : D → D → Option R} (ho : OpR X (inplaceOp op) (rD2 z g)) (he : E X z W e fe) (hi : X.N[i]? = some x) (hx : Loc X.env.scope x)
    (hf : X.fn x = true ∨ X.env.scope.names.lookup x = some .local := by first | exact .inl rfl | exact .inr rfl | assumption) : Sm X z W (.AugAssign (.Name x pos') op e pos) (sAugN i fe g) := by
  refine ⟨PS.le (ps_aug c.nd hi hx he.pe (ti := rD2 z g) ho hf) fun D σ H ⟨S, G, si, h⟩ => ?_⟩
  unfold sAugN at h
  split at h
  · rename_i d0 e0
    obtain ⟨v0, ev0, r0⟩ := si.shr i d0 e0
    refine ⟨v0, ev0, (stepS si h).mono fun y H1 ⟨re, S1, G1, si1, g1, de, h1⟩ => ?_⟩
    cases el : look S1 re with
    | none => rw [el] at h1; exact h1.elim
    | some d1 =>
      rw [el] at h1
      simp only at h1
      cases er : g d0 d1 with
      | none => rw [er] at h1; exact h1.elim
      | some r =>
        cases r with
        | v d =>
          rw [er] at h1
          refine ⟨G1, d0, d1, .v d, si1.le, .inl (r0.mono g1.ge), de.view si1 el, er, fun v2 H3 G3 x3 r3 => ?_⟩
          obtain ⟨s4, g4⟩ := (si1.ext x3).setV (i := i) r3
          exact h1 _ H3 G3 s4 (x3.go.trans g4)
        | f d => rw [er] at h1; exact h1.elim
        | «at» j => rw [er] at h1; exact h1.elim
  · exact h.elim
def iaddD : D → D → Option R
  | .int i, .int j => some (.v (.int (i + j)))
  | .str a, .str b => if a.length + b.length ≤ 1000000 then some (.v (.str (a ++ b))) else none
  | _, _ => none
theorem op_iaddD : OpR X (inplaceOp .Add) (rD2 z iaddD) := by
  intro pins s σ H x y v u Q I rx ry h
  obtain ⟨G, da, db, r, le, va, vb, e, q⟩ := h
  unfold iaddD at e
  split at e
  · cases e
    obtain rfl := va.int; obtain rfl := vb.int
    exact iop_add pins s σ H _ _ v u Q I rx ry ⟨_, _, rfl, rfl, q.rep le (.int _)⟩
  · split at e
    · rename_i hz
      cases e
      obtain rfl := va.str; obtain rfl := vb.str
      exact iop_add_str pins s σ H _ _ v u Q I rx ry ⟨_, _, rfl, rfl, line1 hz, q.rep le (.str _)⟩
    · cases e
  · cases e
theorem op_isubD : OpR X (inplaceOp .Sub) (rD2 z subD) := opIntD (P := fun _ _ => True) (fun pins s σ H x y v u Q I rx ry ⟨i, j, e1, e2, _, q⟩ => iop_sub pins s σ H x y v u Q I rx ry ⟨i, j, e1, e2, q⟩) fun _ _ _ => trivial

/-! ### get, setdefault -/
def isDct : D → Bool
  | .dct _ => true
  | _ => false
def lookD (S : SS) (r : R) : Option (List (Key × D)) := match look S r with
  | some (.dct l) => some l
  | _ => none
def sGet1 (fa fk : M R) : M R := fun S => (fa S).bind fun ra S1 => match lookD S1 ra with
  | none => .no
  | some _ => (fk S1).bind fun rk S2 => match lookD S2 ra, look S2 rk with
    | some l, some k => match keyOf k with
      | none => .no
      | some k => .ok (.v ((valD l k).getD .non)) S2
    | _, _ => .no
theorem lookD_eq {r : R} {l : List (Key × D)} (h : lookD S r = some l) : look S r = some (.dct l) := by
  unfold lookD at h
  split at h
  · rename_i l' e; cases h; exact e
  · cases h
theorem lookD_is {v : V} {r : R} {l : List (Key × D)} (si : SI z S σ H G) (dn : DenS z σ G v r) (h : lookD S r = some l) : ∃ a vs, v = .ref a ∧ Rd H a (.dK vs) ∧ RepP z G vs l := by
  obtain ⟨a, vs, e, h1, h2, h3⟩ := (dn.view si (lookD_eq h)).dct si.le
  exact ⟨a, vs, e, h1, h2, h3⟩
theorem E_get1 (hu : X.A.units + 1 < cLine) (ha : E X z W o fv) (hk : E X z W e fk) {apos cpos : Pos} (m : M1 X o "get" apos e cpos) : E X z W (.Call (.Attribute o "get" apos) [e] [] cpos) (sGet1 fv fk) := by
  refine ⟨PE.le (pe_dget1 hu ha.pe hk.pe m) fun σ H Q ⟨S, G, si, h⟩ => ?_, ha.k⟩
  refine (step si h).mono fun x H1 ⟨ra, S1, G1, si1, _, da, h1⟩ => ?_
  cases el : lookD S1 ra with
  | none => rw [el] at h1; exact h1.elim
  | some l0 =>
    rw [el] at h1
    simp only at h1
    obtain ⟨a, vs, rfl, hr, _⟩ := lookD_is si1 da el
    refine ⟨a, rfl, .inl ⟨vs, hr⟩, (step si1 h1).mono fun y H2 ⟨rk, S2, G2, si2, g2, dk, h2⟩ => ?_⟩
    cases el2 : lookD S2 ra with
    | none => rw [el2] at h2; exact h2.elim
    | some l =>
      cases ek : look S2 rk with
      | none => rw [el2, ek] at h2; exact h2.elim
      | some k =>
        rw [el2, ek] at h2
        simp only at h2
        cases ekk : keyOf k with
        | none => rw [ekk] at h2; exact h2.elim
        | some kk =>
          rw [ekk] at h2
          simp only at h2
          obtain ⟨a', o', e', _, g, hcase⟩ := dget_at si2.le ((da.mono g2.ge).view si2 (lookD_eq el2)) (dk.view si2 ek) ekk
          cases e'
          refine ⟨o', g, ?_⟩
          rcases hcase with ⟨h3, h4⟩ | ⟨v, d, h3, h4, h5⟩
          · rw [h3]
            rw [h4] at h2
            exact h2 .non H2 G2 si2 .refl .non
          · rw [h3]
            rw [h4] at h2
            exact h2 v H2 G2 si2 .refl h5
def sGet2 (fa fk ff : M R) : M R := fun S => (fa S).bind fun ra S1 => match lookD S1 ra with
  | none => .no
  | some _ => (fk S1).bind fun rk S2 => (ff S2).bind fun rf S3 => match valR S3 rf with
    | none => .no
    | some (df, S4) => match lookD S4 ra, look S4 rk with
      | some l, some k => match keyOf k with
        | none => .no
        | some k => .ok (.v ((valD l k).getD df)) S4
      | _, _ => .no
theorem E_get2 (hu : X.A.units + 1 < cLine) {f : Expr} {ff : M R} (ha : E X z W o fv) (hk : E X z W e fk) (hf : E X z W f ff) {apos cpos : Pos} (m : M2 X o "get" apos e f cpos) : E X z W (.Call (.Attribute o "get" apos) [e, f] [] cpos) (sGet2 fv fk ff) := by
  refine ⟨PE.le (pe_dget2 hu ha.pe hk.pe hf.pe m) fun σ H Q ⟨S, G, si, h⟩ => ?_, ha.k⟩
  refine (step si h).mono fun x H1 ⟨ra, S1, G1, si1, _, da, h1⟩ => ?_
  cases el : lookD S1 ra with
  | none => rw [el] at h1; exact h1.elim
  | some l0 =>
    rw [el] at h1
    simp only at h1
    obtain ⟨a, vs, rfl, hr, _⟩ := lookD_is si1 da el
    refine ⟨a, rfl, .inl ⟨vs, hr⟩, (step si1 h1).mono fun y H2 ⟨rk, S2, G2, si2, g2, dk, h2⟩ => ?_⟩
    refine (step si2 h2).mono fun w H3 ⟨rf, S3, G3, si3, g3, df, h3⟩ => ?_
    cases ev : valR S3 rf with
    | none => rw [ev] at h3; exact h3.elim
    | some q =>
      obtain ⟨dd, S4⟩ := q
      rw [ev] at h3
      simp only at h3
      obtain ⟨G4, si4, g4, r4⟩ := valR_run si3 df ev
      cases el2 : lookD S4 ra with
      | none => rw [el2] at h3; exact h3.elim
      | some l =>
        cases ek : look S4 rk with
        | none => rw [el2, ek] at h3; exact h3.elim
        | some k =>
          rw [el2, ek] at h3
          simp only at h3
          cases ekk : keyOf k with
          | none => rw [ekk] at h3; exact h3.elim
          | some kk =>
            rw [ekk] at h3
            simp only at h3
            obtain ⟨a', o', e', _, g, hcase⟩ := dget_at si4.le ((da.mono (g2.ge.trans (g3.ge.trans g4.ge))).view si4 (lookD_eq el2)) ((dk.mono (g3.ge.trans g4.ge)).view si4 ek) ekk
            cases e'
            refine ⟨o', g, ?_⟩
            rcases hcase with ⟨h5, h6⟩ | ⟨v, d, h5, h6, h7⟩
            · rw [h5]
              rw [h6] at h3
              exact h3 w H3 G4 si4 g4 r4
            · rw [h5]
              rw [h6] at h3
              exact h3 v H3 G4 si4 g4 h7
/-- x.setdefault(k, e), x an own dict -/
def sSetd (i : Nat) (fk ff : M R) : M R := fun S => match ownK S i with
  | none => .no
  | some _ => (fk S).bind fun rk S1 => (ff S1).bind fun rf S2 => match valR S2 rf with
    | none => .no
    | some (df, S3) => match look S3 rk, ownK S3 i with
      | some k, some (t, l) => match keyOf k with
        | none => .no
        | some k => if l.length < 1000000 then match valD l k with
            | some d => .ok (.v d) S3
            | none => .ok (.v df) (S3.set i (.own t (.dct (putD l k df))))
          else .no
      | _, _ => .no
theorem E_setd {f : Expr} {ff : M R} (i : Nat) (hk : E X z W e fk) (hf : E X z W f ff) {apos cpos : Pos} (m : M2 X (.Name x p) "setdefault" apos e f cpos) (hN : X.N[i]? = some x := by rfl)
    (hvis : Vis X.env.scope x := by first | exact Or.inl rfl | exact Or.inr (Or.inl rfl) | exact Or.inr (Or.inr rfl)) (hd : (x == ("__debug__" : Str)) = false := by decide) (hcd : (x == ("__classdict__" : Str)) = false := by decide) :
    E X z W (.Call (.Attribute (.Name x p) "setdefault" apos) [e, f] [] cpos) (sSetd i fk ff) := by
  refine ⟨PE.le (pe_dsetd (pe_var (i := i) hN hvis hd hcd) hk.pe hf.pe m) fun σ H Q ⟨S, G, si, h⟩ => ?_, hk.k⟩
  unfold sSetd at h
  cases eo : ownK S i with
  | none => rw [eo] at h; exact h.elim
  | some q =>
    obtain ⟨t0, l0⟩ := q
    rw [eo] at h
    simp only at h
    obtain ⟨a, vs0, ea, ha0, _⟩ := own_dict si eo
    refine ⟨.ref a, ea, a, rfl, .inl ⟨vs0, .inl ha0⟩, (step si h).mono fun y H1 ⟨rk, S1, G1, si1, _, dk, h1⟩ => (step si1 h1).mono fun w H2 ⟨rf, S2, G2, si2, g2, df, h2⟩ => ?_⟩
    cases ev : valR S2 rf with
    | none => rw [ev] at h2; exact h2.elim
    | some q =>
      obtain ⟨dd, S3⟩ := q
      rw [ev] at h2
      simp only at h2
      obtain ⟨G3, si3, g3, r3⟩ := valR_run si2 df ev
      cases ek : look S3 rk with
      | none => rw [ek] at h2; exact h2.elim
      | some k =>
        cases eo2 : ownK S3 i with
        | none => rw [ek, eo2] at h2; exact h2.elim
        | some q =>
          obtain ⟨t, l⟩ := q
          rw [ek, eo2] at h2
          simp only at h2
          cases ekk : keyOf k with
          | none => rw [ekk] at h2; exact h2.elim
          | some kk =>
            rw [ekk] at h2
            simp only at h2
            split at h2
            · rename_i hz
              obtain ⟨a', vs, ea', ha, rp, es⟩ := own_dict si3 eo2
              rw [ea] at ea'; cases ea'
              obtain rfl := key_view ekk ((dk.mono (g2.ge.trans g3.ge)).view si3 ek)
              refine ⟨vs, kk, ha, rfl, by rw [rp.len]; rw [sizeLine_eq]; omega, fun v hv => ?_, fun hv => ?_⟩
              · rcases rp.val kk with ⟨h3, _⟩ | ⟨v', d, h3, h4, h5⟩
                · rw [hv] at h3; cases h3
                · rw [hv] at h3; cases h3
                  rw [h4] at h2
                  exact h2 v H2 G3 si3 g3 h5
              · rcases rp.val kk with ⟨_, h4⟩ | ⟨v', d, h3, _⟩
                · rw [h4] at h2
                  have rp2 := rp.put kk r3
                  obtain ⟨s4, g4⟩ := si3.mut (u := .dK (putK vs kk w)) (d' := .dct (putD l kk dd)) es ea ha ⟨_, upd_same, rp2.1, rp2.2⟩
                  exact h2 w _ G3 s4 (g3.trans g4) r3
                · rw [hv] at h3; cases h3
            · exact h2.elim
end
end L2.Dl
/-! == and != by data. -/
namespace L2.Dl
open PySem PySem.Spec PyProof.Rows

/-! ### data without dicts, as the kit's -/
mutual
def toPy : D → Option PyData
  | .non => some .none
  | .bl b => some (.bool b)
  | .int i => some (.int i)
  | .str s => some (.str s)
  | .lst l => match toPyL l with
    | some r => some (.list r)
    | none => none
  | .tup l => match toPyL l with
    | some r => some (.tuple r)
    | none => none
  | _ => none
def toPyL : List D → Option (List PyData)
  | [] => some []
  | d :: l => match toPy d, toPyL l with
    | some p, some r => some (p :: r)
    | _, _ => none
end
section
variable {X : Cx} {z : Dx} {W : WX} {G H : Hp} {pins : List (Addr × Obj)} {σ : L2.St} {s : Shared}
mutual
theorem rep_Dp (hk : z.K = X.K) (le : LeH G H) : ∀ (d : D) (v : V) (p : PyData), Rep z G v d → toPy d = some p → Dp X.K H v p
  | .non, _, _, r, e => by cases r; cases e; exact .non
  | .bl b, _, _, r, e => by cases r; cases e; exact .bl b
  | .int i, _, _, r, e => by cases r; cases e; exact .int i
  | .str y, _, _, r, e => by cases r; cases e; exact .str y
  | .lst l, _, p, r, e => by
    cases r with
    | lst e0 rl =>
      unfold toPy at e
      cases el : toPyL l with
      | none => rw [el] at e; cases e
      | some q => rw [el] at e; cases e; exact .lst (SqL.of (le.lst e0)) (repL_Dp hk le l _ q rl el)
  | .tup l, _, p, r, e => by
    cases r with
    | tup e0 rl =>
      unfold toPy at e
      cases el : toPyL l with
      | none => rw [el] at e; cases e
      | some q => rw [el] at e; cases e; exact .tup (hk ▸ le.sqT e0) (repL_Dp hk le l _ q rl el)
  | .dct _, _, _, _, e => by cases e
  | .dtt _, _, _, _, e => by cases e
  | .scr _, _, _, _, e => by cases e
  | .ins _ _, _, _, _, e => by cases e
theorem repL_Dp (hk : z.K = X.K) (le : LeH G H) : ∀ (l : List D) (vs : List V) (q : List PyData), RepL z G vs l → toPyL l = some q → DpAll X.K H vs q
  | [], _, _, r, e => by cases r; cases e; exact .nil
  | d :: l, _, q, r, e => by
    cases r with
    | cons a b =>
      unfold toPyL at e
      cases e1 : toPy d with
      | none => rw [e1] at e; cases e
      | some p =>
        cases e2 : toPyL l with
        | none => rw [e1, e2] at e; cases e
        | some r => rw [e1, e2] at e; cases e; exact .cons (rep_Dp hk le d _ p a e1) (repL_Dp hk le l _ r b e2)
end
theorem view_Dp (hk : z.K = X.K) (le : LeH G H) {v : V} {d : D} {p : PyData} (r : View z G H v d) (e : toPy d = some p) : Dp X.K H v p := by
  rcases r with r | ⟨a, rfl, o⟩
  · exact rep_Dp hk le d v p r e
  · cases d with
    | lst l =>
      obtain ⟨xs, h1, h2⟩ := o
      unfold toPy at e
      cases el : toPyL l with
      | none => rw [el] at e; cases e
      | some q => rw [el] at e; cases e; exact .lst (SqL.of h1) (repL_Dp hk le l _ q h2 el)
    | dct l => cases e
    | dtt l => cases e
    | ins c l => cases e
    | _ => exact o.elim

/-! ### equality -/
def pyEq (a b : D) : Option Bool := match toPy a, toPy b with
  | some p, some q => if (SeqAt.shaped p && SeqAt.shaped q) = true then some (PyData.eqv p q) else none
  | _, _ => none
def hitsD (f : D → D → Option Bool) (m : List (Key × D)) : List (Key × D) → Option Bool
  | [] => some true
  | kv :: l => match valD m kv.1 with
    | none => some false
    | some u => match f kv.2 u, hitsD f m l with
      | some e, some b => some (e && b)
      | _, _ => none
def allD (f : D → D → Option Bool) : List D → List D → Option (List Bool)
  | a :: l, b :: m => match f a b, allD f l m with
    | some e, some r => some (e :: r)
    | _, _ => none
  | [], [] => some []
  | _, _ => none
/-- below: dicts of plain data; lists of these -/
def eq0 (a b : D) : Option Bool := match a, b with
  | .dct l, .dct m => if l.length = m.length then hitsD pyEq m l else some false
  | a, b => pyEq a b
def deq (a b : D) : Option Bool := match pyEq a b with
  | some r => some r
  | none => match a, b with
    | .dct l, .dct m => if l.length = m.length then hitsD eq0 m l else some false
    | .lst l, .lst m => if l.length = m.length then (allD eq0 l m).map fun r => r.all id else some false
    | _, _ => none
def dne (a b : D) : Option Bool := (deq a b).map (!·)

theorem pyEq_run (I : Inv X pins σ H s) (hk : z.K = X.K) (le : LeH G H) {A : Around} (hu : A.units + 64 < cLine) {a b : D} {r : Bool} (e : pyEq a b = some r) {x y : V} {u w : Value} (rx : View z G H x a) (ry : View z G H y b) (ru : RelV x u) (rw' : RelV y w) :
    SeqAt.EqAt A s u w r := by
  unfold pyEq at e
  split at e
  · rename_i p q e1 e2
    split at e
    · rename_i hs
      cases e
      rw [Bool.and_eq_true] at hs
      obtain ⟨as, r1⟩ := Dp.reads I p x u (view_Dp hk le rx e1) ru
      obtain ⟨bs, r2⟩ := Dp.reads I q y w (view_Dp hk le ry e2) rw'
      exact SeqAt.eqAt_reads p q A s u w as bs r1 r2 (SeqAt.canLay_of_shaped hs.1) (SeqAt.canLay_of_shaped hs.2) (SeqAt.room_of_shaped hs.1 hu)
    · cases e
  · cases e
/-- the values of a tracked dict -/
theorem dict_of (I : Inv X pins σ H s) {a : Addr} {vs : List (Key × V)} (h : Rd H a (.dK vs)) : (a == sysModules) = false ∧ ∃ va : List (Key × Value), KV vs va ∧ s.heap.DictOf (mixKind X.prog X.w) a va := by
  obtain ⟨_, hd, va, rel, dd⟩ := dk_rd I.hok h
  exact ⟨hd, va, rel, dd⟩
theorem hits_runD {A : Around} {f : D → D → Option Bool} (hf : ∀ a b r x y u w, f a b = some r → Rep z G x a → Rep z G y b → RelV x u → RelV y w → SeqAt.EqP X.prog X.w A s u w r)
    {ms : List (Key × V)} {m : List (Key × D)} {vb : List (Key × Value)} (rm : RepP z G ms m) (rb : KV ms vb) :
    ∀ {ls : List (Key × V)} {l : List (Key × D)} {va : List (Key × Value)} {r : Bool}, RepP z G ls l → KV ls va → hitsD f m l = some r → PySem.W.KeqHitsP X.prog X.w A s vb va r := by
  intro ls l va r rl ra
  unfold KV at ra
  induction ra generalizing l r with
  | nil =>
    intro e
    have : l = [] := by have := rl.len; simpa using this.symm
    subst this
    cases e
    exact .nil
  | @cons p q ps qs h t ih =>
    intro e
    cases l with
    | nil => have := rl.len; simp at this
    | cons kd l =>
      obtain ⟨k1, rl2⟩ := rl
      simp only [List.map_cons, List.cons.injEq] at k1
      cases rl2 with
      | cons a b =>
        obtain ⟨h1, h2⟩ := h
        obtain ⟨key, v⟩ := q
        have h1 : p.1 = key := h1
        have kk : kd.1 = key := by rw [← k1.1]; exact h1
        unfold hitsD at e
        have rr := rb.val kd.1
        rcases rm.val kd.1 with ⟨n1, n2⟩ | ⟨v1, d1, n1, n2, n3⟩
        · rw [n2] at e
          cases e
          rw [n1] at rr
          refine .miss ?_
          rw [← kk]
          exact RelO.none_of rr
        · rw [n2] at e
          simp only at e
          cases ef : f kd.2 d1 with
          | none => rw [ef] at e; cases e
          | some r1 =>
            cases eh : hitsD f m l with
            | none => rw [ef, eh] at e; cases e
            | some r2 =>
              rw [ef, eh] at e
              cases e
              rw [n1] at rr
              obtain ⟨w1, hw, rw1⟩ := RelO.some_of rr
              exact .hit (by rw [← kk]; exact hw) (hf _ _ _ _ _ _ _ ef a n3 h2 rw1) (ih ⟨k1.2, b⟩ eh)
theorem dict_cmp {neg : Bool} (I : Inv X pins σ H s) {A : Around} (hu : A.units < cLine) {f : D → D → Option Bool} (hf : ∀ a b r x y u w, f a b = some r → Rep z G x a → Rep z G y b → RelV x u → RelV y w → SeqAt.EqP X.prog X.w A.in1 s u w r)
    {a b : Addr} {l m : List (Key × D)} {ls ms : List (Key × V)} (ha : Rd H a (.dK ls)) (hb : Rd H b (.dK ms)) (rl : RepP z G ls l) (rm : RepP z G ms m) {r : Bool} (e : (if l.length = m.length then hitsD f m l else some false) = some r)
    (E Q : Value → Shared → Prop) (q : Q (.bool r) s) : wpAny (model X.prog X.w) A (richCompare .Eq (.ref a) (.ref b)) Q E s := by
  obtain ⟨ya, va, ra, da⟩ := dict_of I ha
  obtain ⟨yb, vb, rb, db⟩ := dict_of I hb
  have l1 : va.length = l.length := by rw [← ra.length]; exact rl.len
  have l2 : vb.length = m.length := by rw [← rb.length]; exact rm.len
  by_cases hl : l.length = m.length
  · rw [if_pos hl] at e
    refine PySem.W.rcP_dicts (knd := mixKind X.prog X.w) (r := r) ya yb da db hu (fun _ => hits_runD hf rm rb rl ra e) E Q ?_
    rw [show (va.length == vb.length && r) = r from by rw [l1, l2, hl]; simp]
    exact q
  · rw [if_neg hl] at e
    cases e
    refine PySem.W.rcP_dicts (knd := mixKind X.prog X.w) (r := false) ya yb da db hu (fun h => absurd (by rw [← l1, ← l2]; exact h) hl) E Q ?_
    rw [Bool.and_false]
    exact q
theorem pyEq_same {d d' : D} {r : Bool} {v : V} (hk : z.K = X.K) (I : Inv X pins σ H s) (le : LeH G H) (r1 : Rep z G v d) (r2 : Rep z G v d') {u : Value} (ru : RelV v u) (e : pyEq d d' = some r) : r = true := by
  unfold pyEq at e
  split at e
  · rename_i p q e1 e2
    split at e
    · rename_i hs
      cases e
      rw [Bool.and_eq_true] at hs
      obtain ⟨as, q1⟩ := Dp.reads I p v u (rep_Dp hk le _ _ _ r1 e1) ru
      obtain ⟨bs, q2⟩ := Dp.reads I q v u (rep_Dp hk le _ _ _ r2 e2) ru
      have h1 := SeqAt.readOf_eq (SeqAt.canLay_of_shaped hs.1) q1
      have h2 := SeqAt.readOf_eq (SeqAt.canLay_of_shaped hs.2) q2
      rw [← h1.symm.trans h2]
      exact SeqAt.eqv_refl p (SeqAt.canLay_of_shaped hs.1)
    · cases e
  · cases e
theorem KV.keys : ∀ {vs : List (Key × V)} {va : List (Key × Value)}, KV vs va → vs.map (·.1) = va.map (·.1)
  | _, _, .nil => rfl
  | p :: vs, q :: va, .cons h t => by
    rw [List.map_cons, List.map_cons, KV.keys t]
    have h1 : p.1 = q.1 := h.1
    rw [h1]
theorem valV_nodup : ∀ {vs : List (Key × V)}, (vs.map (·.1)).Nodup → ∀ p ∈ vs, valV vs p.1 = some p.2
  | [], _, p, h => by simp at h
  | q :: vs, nd, p, h => by
    rw [List.map_cons, List.nodup_cons] at nd
    unfold valV
    rw [List.find?_cons]
    by_cases e : q.1 = p.1
    · rw [decide_eq_true e]
      rcases List.mem_cons.mp h with rfl | h
      · rfl
      · exact absurd (by rw [e]; exact List.mem_map_of_mem h) nd.1
    · rw [decide_eq_false e]
      rcases List.mem_cons.mp h with rfl | h
      · exact absurd rfl e
      · exact valV_nodup nd.2 p h
theorem hits_same (hk : z.K = X.K) (I : Inv X pins σ H s) (le : LeH G H) {vs : List (Key × V)} {va : List (Key × Value)} {m : List (Key × D)} (rv : KV vs va) (nd : (vs.map (·.1)).Nodup) (rm : RepP z G vs m) :
    ∀ {ls : List (Key × V)} {l : List (Key × D)} {la : List (Key × Value)} {r : Bool}, (∀ p ∈ ls, p ∈ vs) → RepP z G ls l → KV ls la → hitsD pyEq m l = some r → r = true := by
  intro ls l la r sub rl ra
  unfold KV at ra
  induction ra generalizing l r with
  | nil =>
    intro e
    have : l = [] := by have := rl.len; simpa using this.symm
    subst this
    cases e
    rfl
  | @cons p q ps qs h t ih =>
    intro e
    cases l with
    | nil => have := rl.len; simp at this
    | cons kd l =>
      obtain ⟨k1, rl2⟩ := rl
      simp only [List.map_cons, List.cons.injEq] at k1
      cases rl2 with
      | cons a b =>
        have hv := valV_nodup nd p (sub p List.mem_cons_self)
        rw [k1.1] at hv
        unfold hitsD at e
        rcases rm.val kd.1 with ⟨n1, _⟩ | ⟨v1, d1, n1, n2, n3⟩
        · rw [hv] at n1; cases n1
        · rw [hv] at n1; cases n1
          rw [n2] at e
          simp only at e
          cases ef : pyEq kd.2 d1 with
          | none => rw [ef] at e; cases e
          | some r1 =>
            cases eh : hitsD pyEq m l with
            | none => rw [ef, eh] at e; cases e
            | some r2 =>
              rw [ef, eh] at e
              cases e
              rw [pyEq_same hk I le a n3 h.2 ef, ih (fun p' hp' => sub p' (List.mem_cons_of_mem _ hp')) ⟨k1.2, b⟩ eh]
              rfl
theorem pyEqP (I : Inv X pins σ H s) (hk : z.K = X.K) (le : LeH G H) {A : Around} (hu : A.units + 64 < cLine) : ∀ a b r x y u w, pyEq a b = some r → Rep z G x a → Rep z G y b → RelV x u → RelV y w → SeqAt.EqP X.prog X.w A s u w r :=
  fun _ _ _ _ _ _ _ e rx ry ru rw' => (pyEq_run I hk le hu e (.inl rx) (.inl ry) ru rw').eqP
theorem eq0P (I : Inv X pins σ H s) (hk : z.K = X.K) (le : LeH G H) {A : Around} (hu : A.units + 65 < cLine) : ∀ a b r x y u w, eq0 a b = some r → Rep z G x a → Rep z G y b → RelV x u → RelV y w → SeqAt.EqP X.prog X.w A s u w r := by
  intro a b r x y u w e rx ry ru rw'
  unfold eq0 at e
  split at e
  · rename_i l m
    cases rx with
    | dct e1 k1 r1 =>
      rename_i p ls
      cases ry with
      | dct e2 k2 r2 =>
        rename_i q ms
        obtain rfl : u = Value.ref p := ru
        obtain rfl : w = Value.ref q := rw'
        by_cases hpq : p = q
        · subst hpq
          rw [e1] at e2
          cases e2
          have hl : l.length = m.length := by rw [← RepP.len (z := z) (G := G) ⟨k1, r1⟩, ← RepP.len (z := z) (G := G) ⟨k2, r2⟩]
          rw [if_pos hl] at e
          obtain ⟨_, va, rv, dd⟩ := dict_of I (le.rd e1)
          have nd : (ls.map (·.1)).Nodup := by
            obtain ⟨_, _, _, _, _, _, _, _, nd⟩ := dd
            rw [KV.keys rv]; exact nd
          rw [hits_same hk I le rv nd ⟨k2, r2⟩ (fun _ h => h) ⟨k1, r1⟩ rv e]
          exact (SeqAt.EqAt.same _).eqP
        · exact SeqAt.eqP_refs hpq fun E Q hq => dict_cmp (neg := false) I (A := A) (by omega) (pyEqP I hk le (by show A.units + 1 + 64 < cLine; omega)) (le.rd e1) (le.rd e2) ⟨k1, r1⟩ ⟨k2, r2⟩ e E Q hq
  · exact pyEqP I hk le (by omega) _ _ _ _ _ _ _ e rx ry ru rw'

theorem allD_get {f : D → D → Option Bool} : ∀ {l m : List D} {rs : List Bool}, allD f l m = some rs → ∀ (j : Nat) a b, l[j]? = some a → m[j]? = some b → ∃ r, rs[j]? = some r ∧ f a b = some r
  | [], _, _, _, j, a, b, h, _ => by simp at h
  | _ :: _, [], _, _, j, a, b, _, h => by simp at h
  | x :: l, y :: m, rs, e, j, a, b, h1, h2 => by
    unfold allD at e
    cases e1 : f x y with
    | none => rw [e1] at e; cases e
    | some r0 =>
      cases e2 : allD f l m with
      | none => rw [e1, e2] at e; cases e
      | some r =>
        rw [e1, e2] at e
        cases e
        cases j with
        | zero => simp at h1 h2; subst h1; subst h2; exact ⟨r0, rfl, e1⟩
        | succ j => exact allD_get e2 j a b (by simpa using h1) (by simpa using h2)
theorem allD_len {f : D → D → Option Bool} : ∀ {l m : List D} {rs : List Bool}, allD f l m = some rs → rs.length = l.length
  | [], [], _, e => by cases e; rfl
  | [], _ :: _, _, e => by cases e
  | _ :: _, [], _, e => by cases e
  | x :: l, y :: m, rs, e => by
    unfold allD at e
    cases e1 : f x y with
    | none => rw [e1] at e; cases e
    | some r0 =>
      cases e2 : allD f l m with
      | none => rw [e1, e2] at e; cases e
      | some r => rw [e1, e2] at e; cases e; rw [List.length_cons, List.length_cons, allD_len e2]
theorem all_ix (rs : List Bool) : (List.range rs.length).all (fun j => rs.getD j true) = rs.all id := by
  rw [Bool.eq_iff_iff, List.all_eq_true, List.all_eq_true]
  constructor
  · intro h b hb
    obtain ⟨j, hj⟩ := List.mem_iff_getElem?.mp hb
    have hl := (List.getElem?_eq_some_iff.mp hj).1
    have q := h j (List.mem_range.mpr hl)
    rw [List.getD_eq_getElem?_getD, hj] at q
    exact q
  · intro h j hj
    have hl := List.mem_range.mp hj
    rw [List.getD_eq_getElem?_getD, List.getElem?_eq_getElem hl]
    exact h _ (List.getElem_mem hl)
/-- the items of two lists, compared -/
theorem items_eqP (I : Inv X pins σ H s) (hk : z.K = X.K) (le : LeH G H) {A : Around} (hu : A.units + 65 < cLine) {xs ys : List V} {l m : List D} {us ws : List Value} {rs : List Bool} (rx : RepL z G xs l) (ry : RepL z G ys m) (ru : Vals xs us) (rw' : Vals ys ws) (e : allD eq0 l m = some rs) :
    ∀ j (h1 : j < us.toArray.size) (h2 : j < ws.toArray.size), SeqAt.EqP X.prog X.w A s us.toArray[j] ws.toArray[j] (rs.getD j true) := by
  intro j h1 h2
  have h1' : j < us.length := by simpa using h1
  have h2' : j < ws.length := by simpa using h2
  have l1 := ru.length
  have l2 := rw'.length
  obtain ⟨a, ea, ra⟩ := rx.got (i := j) (v := xs[j]'(by omega)) (List.getElem?_eq_getElem (by omega))
  obtain ⟨b, eb, rb⟩ := ry.got (i := j) (v := ys[j]'(by omega)) (List.getElem?_eq_getElem (by omega))
  obtain ⟨r, er, ef⟩ := allD_get e j a b ea eb
  obtain ⟨u', eu, ru'⟩ := ru.get (i := j) (x := xs[j]'(by omega)) (List.getElem?_eq_getElem (by omega))
  obtain ⟨w', ew, rw''⟩ := rw'.get (i := j) (x := ys[j]'(by omega)) (List.getElem?_eq_getElem (by omega))
  rw [List.getElem?_eq_getElem h1'] at eu
  rw [List.getElem?_eq_getElem h2'] at ew
  cases eu; cases ew
  rw [List.getD_eq_getElem?_getD, er]
  simpa using eq0P I hk le hu a b r _ _ _ _ ef ra rb ru' rw''

theorem top_dct (I : Inv X pins σ H s) (hk : z.K = X.K) (le : LeH G H) (hu : X.A.units + 70 < cLine) {a b : Addr} {l m : List (Key × D)} {ls ms : List (Key × V)} (ha : Rd H a (.dK ls)) (hb : Rd H b (.dK ms)) (rl : RepP z G ls l) (rm : RepP z G ms m) {r : Bool}
    (e : (if l.length = m.length then hitsD eq0 m l else some false) = some r) (E Q : Value → Shared → Prop) (q : Q (.bool r) s) : wpAny (model X.prog X.w) X.A (richCompare .Eq (.ref a) (.ref b)) Q E s :=
  dict_cmp (neg := false) I (by omega) (eq0P I hk le (by show X.A.units + 1 + 65 < cLine; omega)) ha hb rl rm e E Q q
theorem op_deq (hk : z.K = X.K) (hu : X.A.units + 70 < cLine) : OpR X (compareOp .Eq) (rD2 z (toB deq)) := by
  intro pins s σ H x y v u Q I rx ry hh
  obtain ⟨G, da, db, r, le, va, vb, e, q⟩ := hh
  unfold toB deq at e
  split at e
  · rename_i r0 e0
    cases e
    unfold pyEq at e0
    split at e0
    · rename_i p1 p2 e1 e2
      split at e0
      · rename_i hs
        cases e0
        rw [Bool.and_eq_true] at hs
        exact op_eqD (by omega) pins s σ H x y v u Q I rx ry ⟨p1, p2, view_Dp hk le va e1, view_Dp hk le vb e2, hs.1, hs.2, q.rep le (.bl _)⟩
      · cases e0
    · cases e0
  · split at e
    · rename_i l m _
      cases eh : (if l.length = m.length then hitsD eq0 m l else some false) with
      | none => rw [eh] at e; cases e
      | some r0 =>
        rw [eh] at e
        cases e
        obtain ⟨a, ls, rfl, ha, k1, r1⟩ := va.dct le
        obtain ⟨b, ms, rfl, hb, k2, r2⟩ := vb.dct le
        obtain rfl : v = Value.ref a := rx
        obtain rfl : u = Value.ref b := ry
        exact top_dct I hk le hu ha hb ⟨k1, r1⟩ ⟨k2, r2⟩ eh _ _ ⟨.bl r0, H, I, rfl, q.rep le (.bl _)⟩
    · rename_i l m _
      obtain ⟨a, xs, rfl, ha, r1⟩ := va.lst le
      obtain ⟨b, ys, rfl, hb, r2⟩ := vb.lst le
      obtain rfl : v = Value.ref a := rx
      obtain rfl : u = Value.ref b := ry
      obtain ⟨us, ru, p1, _⟩ := I.list (SqL.of (K := X.K) ha)
      obtain ⟨ws, rw', p2, _⟩ := I.list (SqL.of (K := X.K) hb)
      have l1 : us.toArray.size = l.length := by rw [List.size_toArray, ← ru.length, r1.length]
      have l2 : ws.toArray.size = m.length := by rw [List.size_toArray, ← rw'.length, r2.length]
      by_cases hl : l.length = m.length
      · rw [if_pos hl] at e
        cases ea : allD eq0 l m with
        | none => rw [ea] at e; cases e
        | some rs =>
          rw [ea] at e
          cases e
          refine SeqAt.rcP_lists (e := fun j => rs.getD j true) p1.isList p2.isList (by rw [l1, l2, hl]) (by omega) (items_eqP I hk le (by show X.A.units + 1 + 65 < cLine; omega) r1 r2 ru rw' ea) _ _ ?_
          rw [l1, ← allD_len ea, all_ix]
          exact ⟨.bl _, H, I, rfl, q.rep le (.bl _)⟩
      · rw [if_neg hl] at e
        cases e
        exact SeqAt.RcAt.lists_lengths p1.isList p2.isList (by rw [l1, l2]; simpa using hl) (by omega) X.prog X.w _ _ ⟨.bl false, H, I, rfl, q.rep le (.bl _)⟩
    · cases e

/-! ### != -/
end
end L2.Dl
namespace PySem.SeqAt
open AutoSeq1 (wpAny_loadPart')
open MeetsSeq MeetsSeq2 MeetsSeq3 SeqRoads2
section
variable {prog : Program} {w : World}
/-- the walk of != over two lists of one length, within one model -/
theorem dl_ne_walk (p q : Addr) (us ws : Array Value) (n m : Nat) (du dw : Option Addr) (su sw : Array (Option Value)) (hz : us.size = ws.size) (e : Nat → Bool) : ∀ (left i : Nat), us.size - i = left →
    MeetsIn prog w (Builtin.«list.__eq__.loop» ⟨[.ref p, .ref q, rawInt i, rawInt 3], []⟩) (fun A R s =>
      s.heap.get? p = some { cls := .type "list", dict := du, data := .seq us n, slots := su } ∧ s.heap.get? q = some { cls := .type "list", dict := dw, data := .seq ws m, slots := sw } ∧
      (∀ j (h1 : j < us.size) (h2 : j < ws.size), EqP prog w A.in1 s us[j] ws[j] (e j)) ∧ R (.ok (.ret (.bool (!((List.range us.size).drop i).all e)))) s) := by
  intro left
  induction left with
  | zero =>
    intro i hi A R s h
    obtain ⟨hp, g, d, tk, os⟩ := s
    obtain ⟨h1, h2, _, h3⟩ := h
    wp_walk using wpAny_loadPart' h1, wpAny_loadPart' h2
    have e1 : us[((i : Nat) : Int).toNat]? = none := by simp; omega
    have e2 : ws[((i : Nat) : Int).toNat]? = none := by simp; omega
    rw [show (List.range us.size).drop i = [] from by simp; omega] at h3
    rw [e1, e2]
    wp_walk using wpAny_loadPart' h1, wpAny_loadPart' h2
    show R (.ok (.ret (.bool (us.size != ws.size)))) _
    rw [hz]
    simpa using h3
  | succ left ih =>
    intro i hi A R s h
    obtain ⟨hp, g, d, tk, os⟩ := s
    obtain ⟨h1, h2, he, h3⟩ := h
    wp_walk using wpAny_loadPart' h1, wpAny_loadPart' h2
    have b1 : i < us.size := by omega
    have b2 : i < ws.size := by omega
    have e1 : us[((i : Nat) : Int).toNat]? = some us[i] := by simp [b1]
    have e2 : ws[((i : Nat) : Int).toNat]? = some ws[i] := by simp [b2]
    rw [show (List.range us.size).drop i = i :: (List.range us.size).drop (i + 1) from by simp [List.drop_eq_getElem_cons, b1], List.all_cons] at h3
    rw [e1, e2]
    refine wpAny_bind (he i b1 b2 _ _ ?_)
    cases ei : e i with
    | true =>
      rw [ei] at h3
      wp_walk
      rw [show ((i : Int) + 1) = ((i + 1 : Nat) : Int) from by push_cast; rfl]
      refine ⟨plainId_quiet plain_eq_loop _, codeAny_builtin entry_eq_loop ?_⟩
      rw [Around.under_plainId plain_eq_loop _]
      exact ih (i + 1) (by omega) A R _ ⟨h1, h2, he, by simpa using h3⟩
    | false =>
      rw [ei] at h3
      wp_walk using wpAny_loadPart' h1, wpAny_loadPart' h2
      rw [e1, e2]
      wp_walk
      simpa using h3
theorem dl_ne_list (p q : Addr) (us ws : Array Value) (n m : Nat) (du dw : Option Addr) (su sw : Array (Option Value)) (hz : us.size = ws.size) (e : Nat → Bool) :
    MeetsIn prog w (Builtin.«list.__ne__» ⟨[.ref p, .ref q], []⟩) (fun A R s =>
      s.heap.get? p = some { cls := .type "list", dict := du, data := .seq us n, slots := su } ∧ s.heap.get? q = some { cls := .type "list", dict := dw, data := .seq ws m, slots := sw } ∧
      (∀ j (h1 : j < us.size) (h2 : j < ws.size), EqP prog w A.in1 s us[j] ws[j] (e j)) ∧ R (.ok (.ret (.bool (!(List.range us.size).all e)))) s) := by
  intro A R s h
  obtain ⟨hp, g, d, tk, os⟩ := s
  obtain ⟨h1, h2, he, h3⟩ := h
  have f3 := AutoSeq1.sub_list_list
  have hne : ¬ (us.size != ws.size) = true := by simp [hz]
  wp_walk using wpAny_loadPart' h1, wpAny_loadPart' h2
  refine ⟨plainId_quiet plain_eq_loop _, codeAny_builtin entry_eq_loop ?_⟩
  rw [Around.under_plainId plain_eq_loop _]
  exact dl_ne_walk p q us ws n m du dw su sw hz e _ 0 rfl A R _ ⟨h1, h2, he, by simpa using h3⟩
theorem dl_ne_lists {A : Around} {s : Shared} {p q : Addr} {us ws : Array Value} {e : Nat → Bool} (h1 : s.heap.IsList p us) (h2 : s.heap.IsList q ws) (hz : us.size = ws.size) (hu : A.units < cLine)
    (he : ∀ j (b1 : j < us.size) (b2 : j < ws.size), EqP prog w A.in1 s us[j] ws[j] (e j)) (E Q : Value → Shared → Prop) (k : Q (.bool (!(List.range us.size).all e)) s) : wpAny (model prog w) A (richCompare .NotEq (.ref p) (.ref q)) Q E s := by
  obtain ⟨⟨c1, d1, t1, s1⟩, o1, hc1, n1, hd1⟩ := id h1
  obtain ⟨⟨c2, d2, t2, s2⟩, o2, hc2, n2, hd2⟩ := id h2
  simp only at hc1 hd1 hc2 hd2
  subst hc1 hd1 hc2 hd2
  have ta : s.TypeIs (.ref p) "list" := ⟨_, o1, rfl⟩
  have tb : s.TypeIs (.ref q) "list" := ⟨_, o2, rfl⟩
  refine wpAny_richCompare_same_room (op := .NotEq) ta tb F.slot_list_ne (call_meetsIn F.slot_list_ne ta F.entry_list_ne (F.args_list_ne_2 _ _) (dl_ne_list p q us ws n1 n2 d1 d2 s1 s2 hz e) ⟨o1, o2, he, ?_⟩) hu
  exact show Value.bool (!(List.range us.size).all e) ≠ Value.notImplemented ∧ Q (.bool (!(List.range us.size).all e)) s from ⟨(fun x => nomatch x), k⟩
end
end PySem.SeqAt
namespace PySem.W
open PySem PySem.Calls PyProof.Rows PyProof.V PySem.Spec
section
variable {prog : Program} {w : World} {K : Type} [DecidableEq K] {knd : KeyKind prog w K} {A : Around} {s : Shared}
theorem dl_ne_dicts {a b : Addr} {ka kb : List (K × Value)} {r : Bool} (ha : (a == sysModules) = false) (hb : (b == sysModules) = false) (da : s.heap.DictOf knd a ka) (db : s.heap.DictOf knd b kb) (hu : A.units < cLine)
    (hits : ka.length = kb.length → KeqHitsP prog w A.in1 s kb ka r) (E Q : Value → Shared → Prop) (h : Q (.bool (!(ka.length == kb.length && r))) s) : wpAny (model prog w) A (richCompare .NotEq (.ref a) (.ref b)) Q E s := by
  refine wpAny_richCompare_same_room (op := .NotEq) da.typeIs db.typeIs PySem.F.slot_dict_ne (wpAny_call_entry PySem.F.slot_dict_ne da.typeIs PySem.F.entry_dict_ne ?_ (PySem.F.args_dict_ne_2 _ _)) hu
  show wpAny _ _ (Builtin.Dict.dictSlotArgs "__ne__" ⟨[.ref a, .ref b], []⟩ >>= _) _ _ s
  refine wpAny_bind ?_
  unfold Builtin.Dict.dictSlotArgs
  refine wpAny_bind (wpAny_notOrdered_dict da.typeIs ?_)
  show wpAny _ _ (pure (Value.ref a, Value.ref b)) _ _ s
  refine wpAny_pure (wpAny_bind (wpAny_isInstance (T := "dict") db.typeIs PySem.F.sub_dict_dict ?_))
  simp only [Bool.not_true, Bool.false_eq_true, if_false]
  refine wpAny_bind (wpAny_pure (wpAny_bind (wpAny_pure (wpAny_bind (samePairsP ha hb da db hits ?_)))))
  refine wpAny_pure ⟨_, rfl, ?_, ?_⟩
  · intro x
    exact nomatch x
  · simpa using h
end
end PySem.W
namespace L2.Dl
open PySem PySem.Spec PyProof.Rows
section
variable {X : Cx} {z : Dx} {W : WX} {G H : Hp} {pins : List (Addr × Obj)} {σ : L2.St} {s : Shared}
theorem op_dne (hk : z.K = X.K) (hu : X.A.units + 70 < cLine) : OpR X (compareOp .NotEq) (rD2 z (toB dne)) := by
  intro pins s σ H x y v u Q I rx ry hh
  obtain ⟨G, da, db, r, le, va, vb, e, q⟩ := hh
  unfold toB dne deq at e
  split at e
  · rename_i r0 e0
    cases e
    unfold pyEq at e0
    split at e0
    · rename_i p1 p2 e1 e2
      split at e0
      · rename_i hs
        cases e0
        rw [Bool.and_eq_true] at hs
        exact op_neD (by omega) pins s σ H x y v u Q I rx ry ⟨p1, p2, view_Dp hk le va e1, view_Dp hk le vb e2, hs.1, hs.2, q.rep le (.bl _)⟩
      · cases e0
    · cases e0
  · split at e
    · rename_i l m _
      cases eh : (if l.length = m.length then hitsD eq0 m l else some false) with
      | none => rw [eh] at e; cases e
      | some r0 =>
        rw [eh] at e
        cases e
        obtain ⟨a, ls, rfl, ha, k1, r1⟩ := va.dct le
        obtain ⟨b, ms, rfl, hb, k2, r2⟩ := vb.dct le
        obtain rfl : v = Value.ref a := rx
        obtain rfl : u = Value.ref b := ry
        obtain ⟨ya, wa, ra, dda⟩ := dict_of I ha
        obtain ⟨yb, wb, rb, ddb⟩ := dict_of I hb
        have rl : RepP z G ls l := ⟨k1, r1⟩
        have rm : RepP z G ms m := ⟨k2, r2⟩
        have l1 : wa.length = l.length := by rw [← ra.length]; exact rl.len
        have l2 : wb.length = m.length := by rw [← rb.length]; exact rm.len
        by_cases hl : l.length = m.length
        · rw [if_pos hl] at eh
          refine PySem.W.dl_ne_dicts (knd := mixKind X.prog X.w) (r := r0) ya yb dda ddb (by omega) (fun _ => hits_runD (eq0P I hk le (by show X.A.units + 1 + 65 < cLine; omega)) rm rb rl ra eh) _ _ ?_
          rw [show (wa.length == wb.length && r0) = r0 from by rw [l1, l2, hl]; simp]
          exact ⟨.bl _, H, I, rfl, q.rep le (.bl _)⟩
        · rw [if_neg hl] at eh
          cases eh
          refine PySem.W.dl_ne_dicts (knd := mixKind X.prog X.w) (r := false) ya yb dda ddb (by omega) (fun h => absurd (by rw [← l1, ← l2]; exact h) hl) _ _ ?_
          rw [Bool.and_false]
          exact ⟨.bl _, H, I, rfl, q.rep le (.bl _)⟩
    · rename_i l m _
      obtain ⟨a, xs, rfl, ha, r1⟩ := va.lst le
      obtain ⟨b, ys, rfl, hb, r2⟩ := vb.lst le
      obtain rfl : v = Value.ref a := rx
      obtain rfl : u = Value.ref b := ry
      obtain ⟨us, ru, p1, _⟩ := I.list (SqL.of (K := X.K) ha)
      obtain ⟨ws, rw', p2, _⟩ := I.list (SqL.of (K := X.K) hb)
      have l1 : us.toArray.size = l.length := by rw [List.size_toArray, ← ru.length, r1.length]
      have l2 : ws.toArray.size = m.length := by rw [List.size_toArray, ← rw'.length, r2.length]
      by_cases hl : l.length = m.length
      · rw [if_pos hl] at e
        cases ea : allD eq0 l m with
        | none => rw [ea] at e; cases e
        | some rs =>
          rw [ea] at e
          cases e
          refine SeqAt.dl_ne_lists (e := fun j => rs.getD j true) p1.isList p2.isList (by rw [l1, l2, hl]) (by omega) (items_eqP I hk le (by show X.A.units + 1 + 65 < cLine; omega) r1 r2 ru rw' ea) _ _ ?_
          rw [l1, ← allD_len ea, all_ix]
          exact ⟨.bl _, H, I, rfl, q.rep le (.bl _)⟩
      · rw [if_neg hl] at e
        cases e
        exact SeqAt.RcNeAt.lists_lengths p1.isList p2.isList (by rw [l1, l2]; simpa using hl) (by omega) X.prog X.w _ _ ⟨.bl true, H, I, rfl, q.rep le (.bl _)⟩
    · cases e
end
end L2.Dl
/-! sorted by data. -/
namespace L2.Dl
open PySem PySem.Spec PyProof.Rows

noncomputable def encD (d : D) : PyData := (toPy d).getD .none
def tup1 : PyData → Bool
  | .tuple (_ :: _) => true
  | _ => false
def notNT : PyData → Bool
  | .tuple _ => false
  | .none => false
  | _ => true
/-- what may be sorted -/
def okSort (ps : List PyData) : Bool := ps.all (fun p => ps.all fun q => PySem.W.alike p q) && (ps.all tup1 || ps.all notNT) && ps.all fun p => decide (p.depth ≤ 64)
noncomputable def sortD (l : List D) : List D := l.mergeSort (PySem.W.dataLe false encD)
noncomputable def gSorted : List D → Option R
  | [.lst l] => match toPyL l with
    | none => none
    | some ps => if okSort ps = true then some (.f (.lst (sortD l))) else none
  | [.tup l] => none
  | [.dct l] => match toPyL (l.map fun p => keyD p.1) with
    | none => none
    | some ps => if okSort ps = true then some (.f (.lst (sortD (l.map fun p => keyD p.1)))) else none
  | _ => none
section
variable {X : Cx} {z : Dx} {G H : Hp} {pins : List (Addr × Obj)} {σ : L2.St} {s : Shared}
theorem okSort_alike {ps : List PyData} (h : okSort ps = true) : PySem.W.AllAlike ps := by
  unfold okSort at h
  simp only [Bool.and_eq_true, List.all_eq_true] at h
  exact fun p hp q hq => h.1.1 p hp q hq
theorem okSort_able {ps : List PyData} (h : okSort ps = true) : PySem.W.Sortable ps := by
  unfold okSort at h
  simp only [Bool.and_eq_true, Bool.or_eq_true, List.all_eq_true] at h
  rcases h.1.2 with h | h
  · refine .inl fun d hd => ?_
    have q := h d hd
    unfold tup1 at q
    split at q
    · exact ⟨_, _, rfl⟩
    · cases q
  · refine .inr fun d hd => ?_
    have q := h d hd
    unfold notNT at q
    split at q
    · cases q
    · cases q
    · rename_i n1 n2
      exact ⟨fun e => n2 e, fun xs e => n1 xs e⟩
theorem okSort_depth {ps : List PyData} (h : okSort ps = true) {p : PyData} (hp : p ∈ ps) : p.depth ≤ 64 := by
  unfold okSort at h
  simp only [Bool.and_eq_true, List.all_eq_true] at h
  exact of_decide_eq_true (h.2 p hp)
theorem toPyL_enc : ∀ {l : List D} {ps : List PyData}, toPyL l = some ps → l.map encD = ps
  | [], _, e => by cases e; rfl
  | d :: l, ps, e => by
    unfold toPyL at e
    cases e1 : toPy d with
    | none => rw [e1] at e; cases e
    | some p =>
      cases e2 : toPyL l with
      | none => rw [e1, e2] at e; cases e
      | some r =>
        rw [e1, e2] at e; cases e
        rw [List.map_cons, toPyL_enc e2]
        unfold encD
        rw [e1]
        rfl
theorem toPyL_mem : ∀ {l : List D} {ps : List PyData}, toPyL l = some ps → ∀ d ∈ l, ∃ p, toPy d = some p
  | [], _, _, d, h => by simp at h
  | x :: l, ps, e, d, h => by
    unfold toPyL at e
    cases e1 : toPy x with
    | none => rw [e1] at e; cases e
    | some p =>
      cases e2 : toPyL l with
      | none => rw [e1, e2] at e; cases e
      | some r =>
        rcases List.mem_cons.mp h with rfl | h
        · exact ⟨p, e1⟩
        · exact toPyL_mem e2 d h
/-- a value that stands for data -/
def StandsFor (z : Dx) (G : Hp) (u : Value) (d : D) : Prop := ∃ x, RelV x u ∧ Rep z G x d
theorem stands_all : ∀ {xs : List V} {us : List Value} {l : List D}, Vals xs us → RepL z G xs l → PySem.W.EachIs (StandsFor z G) us l
  | _, _, [], .nil, r => .nil
  | _, _, [], .cons _ _, r => by cases r
  | _, _, d :: l, .nil, r => by cases r
  | _, _, d :: l, .cons a t, r => by
    cases r with
    | cons b q => exact .cons ⟨_, a, b⟩ (stands_all t q)
theorem stands_back : ∀ {us : List Value} {l : List D}, PySem.W.EachIs (StandsFor z G) us l → ∃ xs, Vals xs us ∧ RepL z G xs l
  | _, _, .nil => ⟨[], .nil, .nil⟩
  | _, _, .cons ⟨x, a, b⟩ t => by
    obtain ⟨xs, h1, h2⟩ := stands_back t
    exact ⟨x :: xs, .cons a h1, .cons b h2⟩
theorem stands_reads (I : Inv X pins σ H s) (hk : z.K = X.K) (le : LeH G H) : ∀ {xs : List V} {us : List Value} {l : List D} {ps : List PyData}, Vals xs us → RepL z G xs l → toPyL l = some ps → PySem.W.EachIs (fun v b => ∃ as, Reads s.heap v (encD b) as) us l
  | _, _, [], _, .nil, r, _ => .nil
  | _, _, [], _, .cons _ _, r, _ => by cases r
  | _, _, d :: l, _, .nil, r, _ => by cases r
  | _, _, d :: l, ps, .cons a t, r, e => by
    cases r with
    | cons b q =>
      unfold toPyL at e
      cases e1 : toPy d with
      | none => rw [e1] at e; cases e
      | some p =>
        cases e2 : toPyL l with
        | none => rw [e1, e2] at e; cases e
        | some r =>
          refine .cons ?_ (stands_reads I hk le t q e2)
          unfold encD
          rw [e1]
          exact Dp.reads I p _ _ (rep_Dp hk le d _ p b e1) a
theorem cr_sortedD (hk : z.K = X.K) (hc : X.calm = true) (hu : X.A.units + 70 < cLine) : CallR X (.builtin "sorted") (rDL z gSorted) := by
  intro pins s σ H xs us Q I rs hh
  obtain ⟨G, ds, r, le, vw, e, q⟩ := hh
  unfold gSorted at e
  split at e
  · rename_i l
    cases ep : toPyL l with
    | none => rw [ep] at e; cases e
    | some ps =>
      rw [ep] at e
      simp only at e
      split at e
      · rename_i hok
        cases e
        obtain ⟨x, rfl, v⟩ := view1 vw
        obtain ⟨a, ys, rfl, ha, rl⟩ := v.lst le
        obtain ⟨its, rv, pl, hz⟩ := I.list (SqL.of (K := X.K) ha)
        rw [Vals.ref1 rs]
        have hen := toPyL_enc ep
        refine PySem.W.sorted_data (bs := l) (enc := encD) pl.isList (stands_all rv rl) (stands_reads I hk le rv rl ep) (by rw [hen]; exact okSort_alike hok) (by rw [hen]; exact okSort_able hok) (by rw [← rl.length]; exact hz)
          (fun b hb => ?_) fun out hlen hE => ?_
        · have := okSort_depth hok (p := encD b) (by rw [← hen]; exact List.mem_map_of_mem hb)
          omega
        · obtain ⟨ws, h1, h2⟩ := stands_back hE
          obtain ⟨ep', he'⟩ := PyProof.Rows.sortedAll_at s.heap its out.toArray
          have hl : ws.length ≤ sizeLine := by rw [h1.length, hlen, ← rl.length]; exact hz
          exact ⟨.ref _, upd H (s.heap.objs.size + 1) (.lst ws), I.laid (t' := s.toks) (fun _ _ => PyProof.Rows.sortedAll_old) (Nat.le_succ _) ⟨hl, out, ep', h1, he'⟩, rfl, q.new le (I.hok.fresh (Nat.le_succ _)) ⟨ws, upd_same, h2⟩⟩
      · cases e
  · cases e
  · rename_i l
    cases ep : toPyL (l.map fun p => keyD p.1) with
    | none => rw [ep] at e; cases e
    | some ps =>
      rw [ep] at e
      simp only at e
      split at e
      · rename_i hok
        cases e
        obtain ⟨x, rfl, v⟩ := view1 vw
        obtain ⟨a, vs, rfl, ha, kk, rl⟩ := v.dct le
        obtain ⟨u, rfl, rx⟩ := vals1 rs
        cases rx
        obtain ⟨hz, lo, va, rel, dd⟩ := dk_rd I.hok ha
        obtain ⟨ep0, hat⟩ := dd.dictAt
        have h16 : va.length ≤ sizeLine := by rw [← rel.length]; exact hz
        have rk : RepL z G (vs.map fun kv => kV kv.1) (l.map fun p => keyD p.1) := keysL_rep kk
        refine Calls.call_function_entry PyProof.Rows.kind_sorted PyProof.Rows.plain_sorted PyProof.Rows.entry_sorted (PyProof.Rows.args_sorted1 _) ?_
        unfold Builtin.«sorted»
        refine wpAny_bind (m := checkCount "sorted" 1 1 _) (wpAny_pure ?_)
        refine wpAny_bind (PySem.W.kdu_collect (A := X.A.in1) (PySem.W.kdl_dict (knd := mixKind X.prog X.w) (kvs := va) (ep := ep0) lo) (I.ok.hd hc) hat h16 fun h' tk acc hkp hacc => ?_)
        have hal : acc.toList.length = (vs.map fun kv => kV kv.1).length := by rw [Array.length_toList, hacc.1, List.length_map, ← rel.length]
        have ekeys : (vs.map fun kv => kV kv.1) = va.map fun p => kV p.1 := by
          have e := congrArg (List.map kV) (KV.keys rel)
          rw [List.map_map, List.map_map] at e
          exact e
        have hv : Vals (vs.map fun kv => kV kv.1) acc.toList := by
          rw [ekeys]
          exact keys_at (by rw [Array.length_toList]; exact hacc.1) fun j v e => hacc.2 j v (by rw [← Array.getElem?_toList]; exact e)
        have I1 : Inv X pins σ H { s with heap := h', toks := tk } := I.kept hkp
        have hz1 : acc.toList.length ≤ sizeLine := by rw [Array.length_toList, hacc.1]; exact h16
        refine wpAny_bind (wpAny_newList ?_ hz1)
        have hoL : (h'.push (seqObj "list" acc.toList.toArray 0)).get? h'.objs.size = some (seqObj "list" acc.toList.toArray 0) := Heap.get?_push_size _ rfl
        show wpAny _ _ _ _ _ { s with heap := h'.push (seqObj "list" acc.toList.toArray 0), toks := tk }
        have hen := toPyL_enc ep
        have hkeep : ∀ b o, h'.get? b = some o → (PySem.W.sortingHeap (h'.push (seqObj "list" acc.toList.toArray 0)) h'.objs.size acc.toList).get? b = some o := fun b o e =>
          PySem.W.sortingHeap_old (Nat.ne_of_lt (Heap.lt_size e)) (Heap.get?_push_of_some _ e)
        have er := (stands_reads I1 hk le hv rk ep).mono fun v b ⟨as, r⟩ => (⟨as, PyProof.Rows.Reads.keeps hkeep r⟩ : ∃ as, Reads (PySem.W.sortingHeap (h'.push (seqObj "list" acc.toList.toArray 0)) h'.objs.size acc.toList) v (encD b) as)
        have lenl : (l.map fun p => keyD p.1).length = acc.toList.length := by rw [← rk.length]; exact hal.symm
        refine wpAny_bind (wpAny_holding (wpAny_call_entry PyProof.Rows.slot_list_sort ⟨_, hoL, rfl⟩ PyProof.Rows.entry_list_sort
          (PySem.W.list_sort_vals (κ := PySem.W.dataKind (PySem.W.sortingHeap (h'.push (seqObj "list" acc.toList.toArray 0)) h'.objs.size acc.toList) ((l.map fun p => keyD p.1).map encD)) (s := { s with heap := h'.push (seqObj "list" acc.toList.toArray 0), toks := tk }) hoL
            (PySem.W.SortsAt.data (s := { s with heap := PySem.W.sortingHeap (h'.push (seqObj "list" acc.toList.toArray 0)) h'.objs.size acc.toList, toks := tk })
              (PySem.W.each_map (R := fun v d => ∃ as, Reads (PySem.W.sortingHeap (h'.push (seqObj "list" acc.toList.toArray 0)) h'.objs.size acc.toList) v d as) encD er)
              (by rw [hen]; exact okSort_alike hok) (by rw [hen]; exact okSort_able hok) (fun d hd => ?_)) hz1 ⟨.none, rfl, ?_⟩)
          (PyProof.Rows.args_list_sort _)))
        · have := okSort_depth hok (p := d) (by rw [← hen]; exact hd)
          show X.A.units + 1 + 1 + d.depth < cLine
          omega
        · have hE := PySem.W.sortVals_data false (stands_all hv rk) er (by rw [hen]; exact okSort_alike hok)
          obtain ⟨ws, h1, h2⟩ := stands_back hE
          obtain ⟨e', he'⟩ := PyProof.Rows.sortedHeap_at (vs := acc.toList) (out := (PySem.W.sortVals (PySem.W.dataKind (PySem.W.sortingHeap (h'.push (seqObj "list" acc.toList.toArray 0)) h'.objs.size acc.toList) ((l.map fun p => keyD p.1).map encD)) false acc.toList acc.toList).toArray) hoL
          have hl : ws.length ≤ sizeLine := by rw [h1.length, PySem.W.sortVals_length false rfl]; exact hz1
          refine wpAny_pure ⟨_, rfl, .ref h'.objs.size, upd H h'.objs.size (.lst ws), I1.laid (t' := tk) (fun b u e => ?_) (Nat.le_refl _)
            (show ObjOk X.prog X.w _ _ _ (.lst ws) from ⟨hl, _, e', h1, he'⟩), rfl, q.new le (I1.hok.fresh (Nat.le_refl _)) ⟨ws, upd_same, h2⟩⟩
          have hb : b < h'.objs.size := Heap.lt_size e
          rw [PyProof.Rows.sortedHeap_old (Nat.ne_of_lt hb) (by rw [size_push']; exact Nat.lt_succ_of_lt hb)]
          exact Heap.get?_push_of_some _ e
      · cases e
  · cases e
end
end L2.Dl
/-! len(set(xs)): whole numbers and texts, any number of them. -/
namespace L2.Dl
open PySem PySem.Spec PyProof.Rows

/-- the different keys among the first i -/
def inK (l : List Key) (k : Key) : Bool := l.any fun x => decide (x = k)
def metK (val : Nat → Key) : Nat → List Key
  | 0 => []
  | i + 1 => if inK (metK val i) (val i) = true then metK val i else metK val i ++ [val i]
theorem metK_le (val : Nat → Key) : ∀ i, (metK val i).length ≤ i
  | 0 => Nat.le_refl _
  | i + 1 => by
    have ih := metK_le val i
    unfold metK
    split
    · omega
    · rw [List.length_append, List.length_singleton]; omega
section
variable {prog : Program} {w : World} {A : Around} {R : Result → Shared → Prop} {I : Addr} {fp wr : List Addr} {GG : Array GenState → Array GenState → Prop} {n : Nat} {P : Nat → Value → Prop} {St : Nat → Shared → Prop}
theorem setOf_eq {h : Heap} {a : Addr} {S S' : Key → Bool} {n n' : Nat} (hS : h.SetOf (mixKind prog w) a S n) (e : ∀ k, S k = S' k) (en : n = n') : h.SetOf (mixKind prog w) a S' n' := by
  obtain rfl : S = S' := funext e
  obtain rfl := en
  exact hS
theorem setOf_get {h h' : Heap} {a : Addr} {S : Key → Bool} {n : Nat} (hS : h.SetOf (mixKind prog w) a S n) (k : ∀ o, h.get? a = some o → h'.get? a = some o) : h'.SetOf (mixKind prog w) a S n := by
  obtain ⟨o, es, ep, t, ho, r⟩ := hS
  exact ⟨o, es, ep, t, k o ho, r⟩
theorem dl_set_loop (Wk : WalksS prog w A.in1 I fp wr GG n P St) (S : Addr) (nS : S ∉ fp) (val : Nat → Key) (hv : ∀ i v, P i v → (mixKind prog w).is (val i) v = true ∧ v.scannable = true) (hn : n + 1 < scanBound) :
    ∀ (left i : Nat) (s : Shared), n - i = left → i ≤ n → St i s → s.heap.SetOf (mixKind prog w) S (inK (metK val i)) (metK val i).length →
      (∀ s', Moved (S :: wr) GG s s' → s'.heap.SetOf (mixKind prog w) S (inK (metK val n)) (metK val n).length → R (.ok (.ret .none)) s') → codeAny (model prog w) A (.builtin "set.update.loop" ⟨[.ref S, .ref I], []⟩) R s := by
  have nW : S ∉ wr := fun h => nS (Wk.sub _ h)
  have more : ∀ b ∈ wr, b ∈ S :: wr := fun b hb => List.mem_cons_of_mem _ hb
  intro left
  induction left with
  | zero =>
    intro i s hl hi st hS hR
    obtain rfl : i = n := by omega
    refine codeAny_builtin PyProof.Rows.F.entry_set_update_loop ?_
    rw [Around.under_plainId PyProof.Rows.F.plain_set_update_loop _]
    show wpAny _ A.in1 (pyNext (.ref I) >>= _) _ _ s
    refine wpAny_bind (Wk.done s _ _ st fun s' m => ?_)
    show wpAny _ A.in1 (ret Value.none) _ _ s'
    exact wpAny_pure (hR s' (m.mono more) (setOf_get hS fun o e => m.heap S o nW e))
  | succ left ih =>
    intro i s hl hi st hS hR
    have hlt : i < n := by omega
    refine codeAny_builtin PyProof.Rows.F.entry_set_update_loop ?_
    rw [Around.under_plainId PyProof.Rows.F.plain_set_update_loop _]
    show wpAny _ A.in1 (pyNext (.ref I) >>= _) _ _ s
    refine wpAny_bind (Wk.item i s _ _ hlt st fun v s' p st' m => ?_)
    obtain ⟨hk, hc⟩ := hv i v p
    show wpAny _ A.in1 (holding [v] (setAdd S v) >>= _) _ _ s'
    refine wpAny_bind (wpAny_holding ?_)
    unfold setAdd
    refine wpAny_holding (wpAny_bind ((mixKind prog w).pyHash (k := val i) hk ?_))
    have room : (metK val i).length + 1 < scanBound := Nat.lt_of_le_of_lt (Nat.succ_le_succ (Nat.le_trans (metK_le val i) (Nat.le_of_lt hlt))) hn
    have hS1 : ({ s' with toks := s'.toks + 1 } : Shared).heap.SetOf (mixKind prog w) S (inK (metK val i)) (metK val i).length := setOf_get hS fun o e => m.heap S o nW e
    refine wpAny_setAddHashed_of (knd := mixKind prog w) (s := { s' with toks := s'.toks + 1 }) hk hc hS1 room fun h' sb hS2 => ?_
    have hS3 : h'.SetOf (mixKind prog w) S (inK (metK val (i + 1))) (metK val (i + 1)).length := by
      refine setOf_eq hS2 (fun k => ?_) ?_
      · show (inK (metK val i) k || decide (k = val i)) = inK (if inK (metK val i) (val i) = true then metK val i else metK val i ++ [val i]) k
        by_cases hm : inK (metK val i) (val i) = true
        · rw [if_pos hm]
          by_cases e : k = val i
          · subst e; rw [hm]; rfl
          · rw [decide_eq_false e, Bool.or_false]
        · rw [if_neg hm]
          unfold inK
          rw [List.any_append]
          by_cases e : k = val i
          · subst e; simp
          · have e2 : ¬ val i = k := fun h => e h.symm
            simp [e, e2]
      · show (if inK (metK val i) (val i) = true then (metK val i).length else (metK val i).length + 1) = (if inK (metK val i) (val i) = true then metK val i else metK val i ++ [val i]).length
        by_cases hm : inK (metK val i) (val i) = true
        · rw [if_pos hm, if_pos hm]
        · rw [if_neg hm, if_neg hm]; simp
    refine wpAny_pure ⟨plainId_quiet PyProof.Rows.F.plain_set_update_loop _, ih (i + 1) _ (by omega) hlt (Wk.frame _ s' _ _ st' (Nat.le_succ _) fun b hb o e => ?_) hS3 fun s2 m2 hS4 => ?_⟩
    · exact (sb.2 b (fun h : b = S => nS (by rw [← h]; exact hb))).trans e
    · exact hR s2 (Moved.trans Wk.gtrans ((m.mono more).then_heap (Nat.le_succ _) fun b o hb e => (sb.2 b (fun h : b = S => hb (by rw [h]; exact List.mem_cons_self))).trans e) m2) hS4
end
end L2.Dl
namespace PySem
section
open L2 L2.Dl
variable {prog : Program} {w : World} {A : Around} {E : Value → Shared → Prop} {s : Shared}
theorem dl_call_set {l : Addr} {items : Array Value} {ks : List Key} {Q : Value → Shared → Prop} (hh : A.handled = none) (hl : s.heap.IsList l items) (hk : ∀ (i : Nat) (v : Value), items[i]? = some v → (mixKind prog w).is (ks.getD i (.inl 0)) v = true ∧ v.scannable = true) (hb : items.size + 1 < scanBound)
    (h : ∀ (h' : Heap) (tk : Nat), h'.SetOf (mixKind prog w) s.heap.objs.size (inK (metK (fun i => ks.getD i (.inl 0)) items.size)) (metK (fun i => ks.getD i (.inl 0)) items.size).length →
      (∀ b o, b < s.heap.objs.size → s.heap.get? b = some o → h'.get? b = some o) → Q (.ref s.heap.objs.size) { s with heap := h', toks := tk }) :
    wpAny (model prog w) A (call (.type "set") [.ref l]) Q E s := by
  obtain ⟨c, tl, hmro⟩ := F.called_set.mro
  have hmade := F.called_set.made
  have hsub := F.called_set.sub
  refine wpAny_call (codeAny_of_tree ?_)
  show wpAny _ _ (callAny (.type "set") _) _ _ _
  refine wpAny_pure ⟨Code.quiet_builtin _ (by decide +kernel), codeAny_builtin F.entry_type_call ?_⟩
  rw [Around.under_plain (weight_type_call_type "set" [.ref l] []) rfl]
  have h1 := F.called_set.notType
  have h2 := F.called_set.canCreate
  have hct := F.typeCall_set_1 (.ref l)
  repeat (any_goals (first | assumption | wp_step))
  refine codeAny_mono (code_set_new_1 (.ref l) (E := E) (Q₁ := fun obj s₁ => ∃ led : Bool, obj = .ref s.heap.objs.size ∧ s₁ = { s with heap := s.heap.push { cls := .type "set", dict := none, data := .set #[] 0 (.fresh 0 0 led) } }) fun led => ⟨led, rfl, rfl⟩) fun r s₁ hr => ?_
  cases r with
  | error e => exact hr
  | ok fl =>
    cases fl with
    | ret obj =>
      obtain ⟨led, rfl, rfl⟩ := hr
      have hS : (s.heap.push { cls := .type "set", dict := none, data := .set #[] 0 (.fresh 0 0 led) }).get? s.heap.objs.size = some { cls := .type "set", dict := none, data := .set #[] 0 (.fresh 0 0 led) } := Heap.get?_push_size _ rfl
      have hT : Shared.TypeIs { s with heap := s.heap.push { cls := .type "set", dict := none, data := .set #[] 0 (.fresh 0 0 led) } } (.ref s.heap.objs.size) "set" := ⟨_, hS, rfl⟩
      have hli := F.called_set.init.lookup
      have hbi := F.called_set.init.bind (.ref s.heap.objs.size)
      repeat (any_goals (first | assumption | wp_step))
      refine codeAny_mono (codeAny_call_builtin (R := wants (fun r s₂ => r = .none ∧ ∃ h' tk, s₂ = { s with heap := h', toks := tk } ∧
          h'.SetOf (mixKind prog w) s.heap.objs.size (inK (metK (fun i => ks.getD i (.inl 0)) items.size)) (metK (fun i => ks.getD i (.inl 0)) items.size).length ∧
          (∀ b o, b < s.heap.objs.size → s.heap.get? b = some o → h'.get? b = some o)) E) F.called_set.init.plain F.entry_set_init (check_set_init_1 hT ?_)) fun r₂ s₂ hr₂ => ?_
      · obtain ⟨⟨cls, dd, data, sl⟩, hol, hcl, nl, hdl⟩ := hl
        simp only at hcl hdl
        subst hcl; subst hdl
        have hol' : (s.heap.push { cls := .type "set", dict := none, data := .set #[] 0 (.fresh 0 0 led) }).get? l = some { cls := .type "list", dict := dd, data := .seq items nl, slots := sl } := Heap.get?_push_of_some _ hol
        have hsls := F.sub_list_set
        have hslf := F.sub_list_frozenset
        have hne : (Value.type "list" == Value.type "dict") = false := by decide
        have hl1 : (s.heap.push { cls := .type "set", dict := none, data := .set #[] 0 (.fresh 0 0 led) }).IsList l items := ⟨_, hol', rfl, nl, rfl⟩
        unfold Builtin.«set.__init__» noKeywords Builtin.Frozenset.updateFrom
        generalize hPI : pyIter = PI
        wp_walk
        subst hPI
        refine wpAny_pyIter_list hl1 (wpAny_bind (wpAny_runValue ?_))
        have hlS : l < s.heap.objs.size := Heap.lt_size hol
        have hh3 : A.in1.in1.in1.handled = none := by simp [hh]
        have hneI : l ≠ (s.heap.push { cls := .type "set", dict := none, data := .set #[] 0 (.fresh 0 0 led) }).objs.size := by
          rw [Heap.size_push]; exact Nat.ne_of_lt (Nat.lt_succ_of_lt hlS)
        have hSf : s.heap.objs.size ∉ [(s.heap.push { cls := .type "set", dict := none, data := .set #[] 0 (.fresh 0 0 led) }).objs.size, l] := by
          rw [Heap.size_push]; simp only [List.mem_cons, List.mem_singleton, List.not_mem_nil, or_false, not_or]
          exact ⟨Nat.ne_of_lt (Nat.lt_succ_self _), Nat.ne_of_gt hlS⟩
        refine dl_set_loop ((Walks.list hh3 _ l hneI items).toS) s.heap.objs.size hSf (fun i => ks.getD i (.inl 0)) hk hb (items.size - 0) 0 _ (by omega) (Nat.zero_le _) ⟨⟨_, Heap.get?_push_size _ rfl, rfl, rfl⟩, (hl1.push _)⟩ ?hS0 ?hR
        case hS0 =>
          have hget : ((s.heap.push { cls := .type "set", dict := none, data := .set #[] 0 (.fresh 0 0 led) }).push { cls := .type "list_iterator", data := .fields #[.ref l, .int 0 0] }).get? s.heap.objs.size
              = some { cls := .type "set", dict := none, data := .set #[] 0 (.fresh 0 0 led) } := Heap.get?_push_of_some _ hS
          letI : BEq Key := instBEqOfDecidableEq
          exact setOf_eq ((PyProof.Rows.setObjOf_fresh (knd := mixKind prog w) led).setOf hget (by unfold scanBound; omega)) (fun _ => rfl) rfl
        case hR =>
          intro s' hm hS'
          obtain ⟨h', g', d', tk', os'⟩ := s'
          have eg : g' = s.gens := hm.gens
          have ed : d' = s.drawn := hm.drawn
          have eo : os' = s.os := hm.os
          subst eg; subst ed; subst eo
          show wpAny _ _ _ _ _ _
          refine wpAny_pure ?_
          show wpAny _ _ (ret Value.none) _ _ _
          refine wpAny_pure ⟨rfl, h', tk', rfl, hS', fun b o hb e => ?_⟩
          have hb1 : b ≠ s.heap.objs.size := Nat.ne_of_lt hb
          have hb2 : b ≠ (s.heap.push { cls := .type "set", dict := none, data := .set #[] 0 (.fresh 0 0 led) }).objs.size := by
            rw [Heap.size_push]; exact Nat.ne_of_lt (Nat.lt_succ_of_lt hb)
          exact hm.heap b o (by simp only [List.mem_cons, List.mem_singleton, List.not_mem_nil, or_false, not_or]; exact ⟨hb1, hb2⟩) (Heap.get?_push_of_some _ (Heap.get?_push_of_some _ e))
      · cases r₂ with
        | error e => exact hr₂
        | ok fl₂ =>
          cases fl₂ with
          | ret r =>
            obtain ⟨rfl, h', tk, rfl, hS', hk'⟩ := hr₂
            repeat (any_goals (first | assumption | wp_step))
            exact h _ _ hS' hk'
          | next => exact hr₂.elim
          | brk => exact hr₂.elim
          | cont => exact hr₂.elim
    | next => exact hr.elim
    | brk => exact hr.elim
    | cont => exact hr.elim
end
end PySem
/-! len(set(xs)); and, or as values; chains; isinstance; slices; texts. -/
namespace L2.Dl
open PySem PySem.Spec PyProof.Rows

def keyCount (ks : List Key) : Nat := (metK (fun i => ks.getD i (.inl 0)) ks.length).length
theorem inK_iff {l : List Key} {k : Key} : inK l k = true ↔ k ∈ l := by
  unfold inK
  rw [List.any_eq_true]
  constructor
  · rintro ⟨x, h, e⟩
    rw [← of_decide_eq_true e]; exact h
  · intro h
    exact ⟨k, h, decide_eq_true rfl⟩
theorem metK_take {ks : List Key} (nd : ks.Nodup) : ∀ i, i ≤ ks.length → metK (fun i => ks.getD i (.inl 0)) i = ks.take i
  | 0, _ => rfl
  | i + 1, h => by
    unfold metK
    rw [metK_take nd i (by omega)]
    have hi : i < ks.length := h
    have e : ks.getD i (.inl 0) = ks[i] := by rw [List.getD_eq_getElem?_getD, List.getElem?_eq_getElem hi]; rfl
    have no : ¬ inK (ks.take i) (ks.getD i (.inl 0)) = true := by
      rw [inK_iff, e]
      intro hm
      obtain ⟨j, hj, ej⟩ := List.mem_iff_getElem.mp hm
      rw [List.getElem_take] at ej
      rw [List.length_take] at hj
      have := (List.getElem_inj nd).mp ej
      omega
    rw [if_neg no, e, List.take_add_one, List.getElem?_eq_getElem hi]
    rfl
theorem keyCount_nodup {ks : List Key} (nd : ks.Nodup) : keyCount ks = ks.length := by
  unfold keyCount
  rw [metK_take nd _ (Nat.le_refl _), List.take_length]
section
variable {X : Cx} {z : Dx} {W : WX} {G H : Hp} {pins : List (Addr × Obj)} {σ : L2.St} {s : Shared}
def gLenSet : D → Option R
  | .lst l => match keysOf l with
    | some ks => if ks.length ≤ 4000 then some (.v (.int (keyCount ks))) else none
    | none => none
  | _ => none
theorem key_vals : ∀ {ks : List Key} {us : List Value}, Vals (ks.map kV) us → ∀ (i : Nat) (v : Value), us[i]? = some v → (mixKind X.prog X.w).is (ks.getD i (.inl 0)) v = true ∧ v.scannable = true
  | [], _, .nil, i, v, h => by simp at h
  | k :: ks, _, .cons r t, 0, v, h => by
    simp at h
    subst h
    exact ⟨kV_is r, key_scan r⟩
  | k :: ks, _, .cons r t, i + 1, v, h => by
    simp only [List.getElem?_cons_succ] at h
    exact key_vals t i v h
theorem E_lenSet {a : Expr} {p p2 q pos : Pos} {fa : M R} (hc : X.calm = true) (hm : X.mg "len" = none) (hm2 : X.mg "set" = none) (ha : E X z W a fa) (hg : Gl X "len" := by rfl) (hg2 : Gl X "set" := by rfl)
    (na : starEach [a] X.env = (false, eval a X.env) :: starEach [] X.env := by rfl) : E X z W (.Call (.Name "len" p) [.Call (.Name "set" p2) [a] [] q] [] pos) (sUn gLenSet fa) := by
  refine ⟨⟨fun pins s σ H Q I ⟨S, G, si, h⟩ => ?_⟩, ha.k⟩
  refine Call_ (ld_blt I hg hm boot_len ?_)
  refine PyProof.Rows.callWith_builtin1 (PyProof.Rows.args_cons ?_ rfl) rfl rfl
  refine Call_ (ld_blt I hg2 hm2 boot_set ?_)
  refine PyProof.Rows.callWith_type1 (PyProof.Rows.args_cons (thn (ha.pe.run pins s σ H _ I (sUn_run si h)) fun v s1 ⟨x, H1, I1, r1, G1, d, r, le, vw, e, k⟩ => PyProof.Rows.args_nil ?_) na) na rfl
  unfold gLenSet at e
  split at e
  · rename_i l
    cases ek : keysOf l with
    | none => rw [ek] at e; cases e
    | some ks =>
      rw [ek] at e
      simp only at e
      split at e
      · rename_i hz
        cases e
        obtain ⟨a1, xs, rfl, h1, rl⟩ := vw.lst le
        cases r1
        have ex := keysOf_rep rl ek
        subst ex
        obtain ⟨its, rv, pl, _⟩ := I1.list (SqL.of (K := X.K) h1)
        have hl : its.toArray.size = ks.length := by rw [List.size_toArray, ← rv.length, List.length_map]
        refine dl_call_set (ks := ks) (I1.ok.hd hc) pl.isList (fun i v hv => key_vals rv i v (by simpa using hv)) (by rw [hl]; unfold scanBound; omega) fun h' tk hS hkp => ?_
        show wpAny (model X.prog X.w) X.A (spliced (backTo pos (starEach [] X.env))) _ _ _
        refine PyProof.Rows.args_nil ?_
        rw [hl] at hS
        obtain ⟨o, es, ep, t, ho, hex, hd, _, _, _, hf, hn⟩ := hS
        have I2 : Inv X pins σ H1 { s1 with heap := h', toks := tk } := I1.kept fun b o e => hkp b o (Heap.lt_size e) e
        have hle : (metK (fun i => ks.getD i (.inl 0)) ks.length).length ≤ 4000 := Nat.le_trans (metK_le _ _) hz
        exact call_len_set ho hex hd hf (by rw [hn]; omega) ⟨.int (keyCount ks : Nat), H1, I2.tok _, ⟨_, by rw [hn]; rfl⟩, k.rep le (.int _)⟩
      · cases e
  · cases e

/-! ### and, or as values -/
def R.sh : R → R
  | .f d => .v d
  | r => r
def sAndV (fa fb : M R) : M R := fun S => (fa S).bind fun ra S1 => match lookB S1 ra with
  | none => .no
  | some true => fb S1
  | some false => .ok ra.sh S1
def sOrV (fa fb : M R) : M R := fun S => (fa S).bind fun ra S1 => match lookB S1 ra with
  | none => .no
  | some true => .ok ra.sh S1
  | some false => fb S1
variable {a b c : Expr} {rest : List Expr} {pos : Pos} {fa fb fc : M R}
theorem dens_den {S1 : SS} {H0 H1 G1 : Hp} {x : V} {r : R} (h : DenS z σ G1 x r) : Den z S1 σ H0 H1 G1 x r.sh := by
  cases r with
  | v d => exact h
  | f d => exact h
  | «at» i => exact h
theorem lookB_run {S1 : SS} {H1 G1 : Hp} {x : V} {v : Value} {s1 : Shared} {r : R} {k : Bool} (hk : z.K = X.K) (I1 : Inv X pins σ H1 s1) (r1 : RelV x v) (si : SI z S1 σ H1 G1) (dn : DenS z σ G1 x r) (e : lookB S1 r = some k)
    {Q : Bool → Shared → Prop} (q : ∀ s2, Inv X pins σ H1 s2 → Q k s2) : wpAny (model X.prog X.w) X.A (truthy v) Q X.xe s1 := by
  unfold lookB at e
  cases el : look S1 r with
  | none => rw [el] at e; cases e
  | some d =>
    rw [el] at e
    refine thn (tru_dl hk pins s1 σ H1 x v (fun c H2 => c = k ∧ H2 = H1) I1 r1 ⟨G1, d, k, si.le, dn.view si el, e, rfl, rfl⟩) fun c s2 ⟨H2, I2, e1, e2⟩ => ?_
    subst e1 e2
    exact q s2 I2
theorem E_one {op : BoolOp} (ha : E X z W a fa) : E X z W (.BoolOp op [a] pos) fa := ⟨pe_one ha.pe, ha.k⟩
theorem E_and (ha : E X z W a fa) (hb : E X z W (.BoolOp .And (b :: rest) pos) fb) : E X z W (.BoolOp .And (a :: b :: rest) pos) (sAndV fa fb) := by
  refine ⟨⟨fun pins s σ H Q I ⟨S, G, si, h⟩ => ?_⟩, ha.k⟩
  refine BoolOp_and (thn (ha.pe.run pins s σ H _ I (step si h)) fun v s1 ⟨x, H1, I1, r1, ra, S1, G1, si1, g1, dn, h1⟩ => ?_)
  cases e : lookB S1 ra with
  | none => rw [e] at h1; exact h1.elim
  | some k =>
    rw [e] at h1
    refine lookB_run ha.k I1 r1 si1 dn e fun s2 I2 => ?_
    cases k with
    | true => exact hb.pe.run pins s2 σ H1 Q I2 ⟨S1, G1, si1, h1⟩
    | false => exact ⟨x, H1, I2, r1, h1 x H1 G1 si1 .refl (dens_den dn)⟩
theorem E_or (ha : E X z W a fa) (hb : E X z W (.BoolOp .Or (b :: rest) pos) fb) : E X z W (.BoolOp .Or (a :: b :: rest) pos) (sOrV fa fb) := by
  refine ⟨⟨fun pins s σ H Q I ⟨S, G, si, h⟩ => ?_⟩, ha.k⟩
  refine BoolOp_or (thn (ha.pe.run pins s σ H _ I (step si h)) fun v s1 ⟨x, H1, I1, r1, ra, S1, G1, si1, g1, dn, h1⟩ => ?_)
  cases e : lookB S1 ra with
  | none => rw [e] at h1; exact h1.elim
  | some k =>
    rw [e] at h1
    refine lookB_run ha.k I1 r1 si1 dn e fun s2 I2 => ?_
    cases k with
    | false => exact hb.pe.run pins s2 σ H1 Q I2 ⟨S1, G1, si1, h1⟩
    | true => exact ⟨x, H1, I2, r1, h1 x H1 G1 si1 .refl (dens_den dn)⟩
/-! ### a op b op c -/
def lift2 (g : D → D → Option Bool) (S : SS) (ra rb : R) : Option Bool := do let da ← look S ra; let db ← look S rb; g da db
def sChain (g g' : D → D → Option Bool) (fa fb fc : M R) : M R := fun S => (fa S).bind fun ra S1 => (fb S1).bind fun rb S2 => match lift2 g S2 ra rb with
  | none => .no
  | some false => .ok (.v (.bl false)) S2
  | some true => (fc S2).bind fun rc S3 => match lift2 g' S3 rb rc with
    | none => .no
    | some k => .ok (.v (.bl k)) S3
theorem lift2_eq {g : D → D → Option Bool} {S : SS} {ra rb : R} {k : Bool} (h : lift2 g S ra rb = some k) : ∃ da db, look S ra = some da ∧ look S rb = some db ∧ g da db = some k := by
  unfold lift2 at h
  cases e1 : look S ra with
  | none => rw [e1] at h; cases h
  | some da =>
    cases e2 : look S rb with
    | none => rw [e1, e2] at h; cases h
    | some db => rw [e1, e2] at h; exact ⟨da, db, rfl, rfl, h⟩
theorem E_chain {op op' : CmpOp} {g g' : D → D → Option Bool} (ho : OpR X (compareOp op) (rD2 z (toB g))) (ho' : OpR X (compareOp op') (rD2 z (toB g'))) (ha : E X z W a fa) (hb : E X z W b fb) (hc : E X z W c fc)
    (hm : lastMarks [op, op'] [b, c] = false := by with_unfolding_all rfl) : E X z W (.Compare a [op, op'] [b, c] pos) (sChain g g' fa fb fc) := by
  refine ⟨PE.le (pe_chain ho ho' ha.pe hb.pe hc.pe hm) fun σ H Q ⟨S, G, si, h⟩ => ?_, ha.k⟩
  refine (step si h).mono fun x H1 ⟨ra, S1, G1, si1, _, da, h1⟩ => (step si1 h1).mono fun y H2 ⟨rb, S2, G2, si2, g2, db, h2⟩ => ?_
  cases e : lift2 g S2 ra rb with
  | none => rw [e] at h2; exact h2.elim
  | some k =>
    rw [e] at h2
    obtain ⟨d1, d2, l1, l2, eg⟩ := lift2_eq e
    refine ⟨G2, d1, d2, .v (.bl k), si2.le, (da.mono g2.ge).view si2 l1, db.view si2 l2, by unfold toB; rw [eg]; rfl, fun v H' G' xx dn => ?_⟩
    cases dn
    refine ⟨k, rfl, ?_⟩
    have si3 := si2.ext xx
    cases k with
    | false =>
      rw [if_neg Bool.false_ne_true]
      exact (Post.from h2 xx.go) (.bl false) H' G' si3 .refl (.bl false)
    | true =>
      rw [if_pos rfl]
      refine (step si3 (Post.from h2 xx.go)).mono fun w H4 ⟨rc, S4, G4, si4, g4, dc, h4⟩ => ?_
      cases e' : lift2 g' S4 rb rc with
      | none => rw [e'] at h4; exact h4.elim
      | some k' =>
        rw [e'] at h4
        obtain ⟨d3, d4, l3, l4, eg'⟩ := lift2_eq e'
        exact ⟨G4, d3, d4, .v (.bl k'), si4.le, ((db.mono xx.ge).mono g4.ge).view si4 l3, dc.view si4 l4, by unfold toB; rw [eg']; rfl, VP.fin si4 h4⟩

/-! ### isinstance of built-in types -/
def tyD : D → Option String
  | .non => some "NoneType"
  | .bl _ => some "bool"
  | .int _ => some "int"
  | .str _ => some "str"
  | .lst _ => some "list"
  | .tup _ => some "tuple"
  | .dct _ => some "dict"
  | .dtt _ => none
  | .scr _ => some "list"
  | .ins _ _ => none
def isTy (t T : String) : Bool := t == T || (t == "bool" && T == "int")
theorem kit_tab : (["NoneType", "bool", "int", "str", "list", "tuple", "dict"].all fun t => ["bool", "int", "str", "list", "tuple", "dict"].all fun T => decide (kitB t T = some (isTy t T))) = true := by decide +kernel
def okTy (T : String) : Bool := ["bool", "int", "str", "list", "tuple", "dict"].contains T
theorem tyD_mem {d : D} {t : String} (h : tyD d = some t) : t ∈ ["NoneType", "bool", "int", "str", "list", "tuple", "dict"] := by
  cases d <;> simp [tyD] at h <;> subst h <;> decide
theorem kit_is {K : PySem.W.Frag} {d : D} {t T : String} (h : tyD d = some t) (hT : okTy T = true) : PySem.W.kitOne K (.type t) (.type T) = some (isTy t T) := by
  refine kit_ty ?_
  have q := List.all_eq_true.mp (List.all_eq_true.mp kit_tab t (tyD_mem h)) T (by simpa [okTy] using hT)
  exact of_decide_eq_true q
theorem tyX_view (hk : z.K = X.K) {x : V} {d : D} {t : String} (le : LeH G H) (vw : View z G H x d) (h : tyD d = some t) : TyX X.K H x (.type t) := by
  cases d with
  | non => cases h; obtain rfl := vw.non; exact .base .non
  | bl b => cases h; obtain rfl := vw.bl; exact .base (.bl _)
  | int b => cases h; obtain rfl := vw.int; exact .base (.int _)
  | str b => cases h; obtain rfl := vw.str; exact .base (.str _)
  | lst l => cases h; obtain ⟨a, xs, rfl, ha, _⟩ := vw.lst le; exact .base (.lst ha)
  | tup l =>
    cases h
    obtain ⟨a, xs, rfl, ha, _⟩ := vw.tup le
    rw [hk] at ha
    rcases ha with (ha | ⟨o, ha⟩) | ⟨o, its, n, ha, hc, _⟩
    · exact .base (.tup ha)
    · exact .fTuple ha
    · exact .kTuple ha hc
  | dct l =>
    cases h
    obtain ⟨a, xs, rfl, ha, _⟩ := vw.dct le
    rcases ha with ha | ⟨o, ha⟩
    · exact .base (.dK ha)
    · exact .fDict ha
  | dtt l => cases h
  | scr l =>
    cases h
    obtain ⟨a, rfl, ha⟩ := vw.scr le
    rw [hk] at ha
    rcases ha with (ha | ⟨o, ha⟩) | ⟨o, its, n, ha, hc, _⟩
    · exact .base (.lst ha)
    · exact .base (.frz ha)
    · exact .kList ha hc
  | ins c l => cases h

theorem kit_any {K : PySem.W.Frag} {d : D} {t : String} (h : tyD d = some t) : ∀ {Ts : List String}, Ts.all okTy = true → PySem.W.kitAny K (.type t) (Ts.map Value.type) = some (Ts.any (isTy t))
  | [], _ => rfl
  | T :: Ts, hT => by
    simp only [List.all_cons, Bool.and_eq_true] at hT
    rw [List.map_cons, List.any_cons]
    refine kitAny_cons (kit_is h hT.1) (fun e => ?_) (fun e => ?_)
    · rw [e, Bool.false_or]; exact kit_any h hT.2
    · rw [e, Bool.true_or]
def sIsi (Ts : List String) (fa : M R) : M R := fun S => (fa S).bind fun ra S1 => match look S1 ra with
  | none => .no
  | some d => match tyD d with
    | none => .no
    | some t => .ok (.v (.bl (Ts.any (isTy t)))) S1
theorem E_isi {e : Expr} {T : String} {x : Str} {p p2 pos : Pos} (hm : X.mg "isinstance" = none) (hmT : X.mg x = none) (he : E X z W e fa) (hT : okTy T = true := by decide) (hv : bootBuiltins x = some (.type T) := by rfl)
    (hg : Gl X "isinstance" := by rfl) (hgT : Gl X x := by rfl) (hn : x ≠ "__name__" := by decide) (hdb : (x == ("__debug__" : Str)) = false := by decide)
    (hs : starEach [e, .Name x p2] X.env = (false, eval e X.env) :: starEach [.Name x p2] X.env := by rfl) (hs2 : starEach [.Name x p2] X.env = (false, eval (.Name x p2) X.env) :: starEach [] X.env := by rfl)
    (hpl : (backTo pos (starEach [.Name x p2] X.env)).any (·.1) = false := by rfl) : E X z W (.Call (.Name "isinstance" p) [e, .Name x p2] [] pos) (sIsi [T] fa) := by
  refine ⟨PE.le (pe_callB call_isi hg hm boot_isinstance (pa_cons he.pe (pa_cons (pe_bltn hgT hmT hv (v := .ty T) rfl hn hdb) pa_nil hs2) hs) (by decide) (by decide) hs hpl) fun σ H Q ⟨S, G, si, h⟩ => ?_, he.k⟩
  refine (step si h).mono fun y H1 ⟨ra, S1, G1, si1, _, da, h1⟩ => ?_
  cases el : look S1 ra with
  | none => rw [el] at h1; exact h1.elim
  | some d =>
    rw [el] at h1
    simp only at h1
    cases et : tyD d with
    | none => rw [et] at h1; exact h1.elim
    | some t =>
      rw [et] at h1
      simp only at h1
      have hk := kit_is (K := X.K) et hT
      refine ⟨y, .ty T, .type t, .type T, isTy t T, rfl, .ty T, tyX_view he.k si1.le (da.view si1 el) et, hk, ?_⟩
      have q := (VP.fin si1 h1).rep si1.le (.bl _)
      rw [List.any_cons, List.any_nil, Bool.or_false] at q
      exact q
/-- isinstance(e, (T1, T2)) -/
theorem E_isi2 {e : Expr} {T1 T2 : String} {x1 x2 : Str} {kk : Nat} {p p1 p2 pt pos : Pos} (hm : X.mg "isinstance" = none) (hm1 : X.mg x1 = none) (hm2 : X.mg x2 = none) (he : E X z W e fa) (hT1 : okTy T1 = true := by decide) (hT2 : okTy T2 = true := by decide)
    (hv1 : bootBuiltins x1 = some (.type T1) := by rfl) (hv2 : bootBuiltins x2 = some (.type T2) := by rfl) (hg : Gl X "isinstance" := by rfl) (hg1 : Gl X x1 := by rfl) (hg2 : Gl X x2 := by rfl)
    (hn1 : x1 ≠ "__name__" := by decide) (hdb1 : (x1 == ("__debug__" : Str)) = false := by decide) (hn2 : x2 ≠ "__name__" := by decide) (hdb2 : (x2 == ("__debug__" : Str)) = false := by decide)
    (hs : starEach [e, .Tuple [.Name x1 p1, .Name x2 p2] kk pt] X.env = (false, eval e X.env) :: starEach [.Tuple [.Name x1 p1, .Name x2 p2] kk pt] X.env := by rfl)
    (hs2 : starEach [.Tuple [.Name x1 p1, .Name x2 p2] kk pt] X.env = (false, eval (.Tuple [.Name x1 p1, .Name x2 p2] kk pt) X.env) :: starEach [] X.env := by rfl)
    (hs3 : starEach [.Name x1 p1, .Name x2 p2] X.env = (false, eval (.Name x1 p1) X.env) :: starEach [.Name x2 p2] X.env := by rfl) (hs4 : starEach [.Name x2 p2] X.env = (false, eval (.Name x2 p2) X.env) :: starEach [] X.env := by rfl)
    (hpl : (backTo pos (starEach [.Tuple [.Name x1 p1, .Name x2 p2] kk pt] X.env)).any (·.1) = false := by rfl) :
    E X z W (.Call (.Name "isinstance" p) [e, .Tuple [.Name x1 p1, .Name x2 p2] kk pt] [] pos) (sIsi [T1, T2] fa) := by
  refine ⟨PE.le (pe_callB call_isiT hg hm boot_isinstance (pa_cons he.pe (pa_cons (pe_tup (pa_cons (pe_bltn hg1 hm1 hv1 (v := .ty T1) rfl hn1 hdb1) (pa_cons (pe_bltn hg2 hm2 hv2 (v := .ty T2) rfl hn2 hdb2) pa_nil hs4) hs3)) pa_nil hs2) hs) (by decide) (by decide) hs hpl) fun σ H Q ⟨S, G, si, h⟩ => ?_, he.k⟩
  refine (step si h).mono fun y H1 ⟨ra, S1, G1, si1, _, da, h1⟩ => ?_
  cases el : look S1 ra with
  | none => rw [el] at h1; exact h1.elim
  | some d =>
    rw [el] at h1
    simp only at h1
    cases et : tyD d with
    | none => rw [et] at h1; exact h1.elim
    | some t =>
      rw [et] at h1
      simp only at h1
      refine ⟨by show (2 : Nat) ≤ sizeLine; rw [sizeLine_eq]; decide, fun tp hp => ?_⟩
      have x0 : Ext H1 (upd H1 tp (.tup [.ty T1, .ty T2])) G1 G1 := .own si1.le hp
      have si2 := si1.ext x0
      refine ⟨y, tp, [.ty T1, .ty T2], .type t, [.type T1, .type T2], [T1, T2].any (isTy t), rfl, upd_same, .cons (.ty T1) (.cons (.ty T2) .nil), tyX_view he.k si2.le (da.view si2 el) et, kit_any (Ts := [T1, T2]) et (by simp [hT1, hT2]), ?_⟩
      exact h1 (.bl _) _ G1 si2 x0.go (.bl _)
/-! ### slices -/
def cutD (l : List D) (lo hi : Option Int) : List D := (l.drop (HT.sIx l.length 0 lo)).take (HT.sIx l.length l.length hi - HT.sIx l.length 0 lo)
theorem cut_rep {xs : List V} {l : List D} (r : RepL z G xs l) (lo hi : Option Int) : RepL z G (cutV xs lo hi) (cutD l lo hi) := by
  unfold cutV cutD
  rw [r.length]
  exact (r.drop _).take _
def gSl : D → Option Int → Option Int → Option R
  | .lst l, lo, hi => some (.f (.lst (cutD l lo hi)))
  | .tup l, lo, hi => if HT.sIx l.length 0 lo = 0 ∧ HT.sIx l.length l.length hi = l.length then none else some (.v (.tup (cutD l lo hi)))
  | _, _, _ => none
def rSlD (z : Dx) : V → Option Int → Option Int → Hp → VK → Prop := fun x lo hi H Q => ∃ G d r, LeH G H ∧ View z G H x d ∧ gSl d lo hi = some r ∧ VP z H G Q r
theorem sl_D (hk : z.K = X.K) : SlR X (rSlD z) := by
  intro pins s σ H x v vl vu lo hi sl Q I rx hs pl pu h
  obtain ⟨G, d, r, le, vw, e, q⟩ := h
  unfold gSl at e
  split at e
  · cases e
    obtain ⟨a, xs, rfl, ha, rl⟩ := vw.lst le
    exact sl_list pins s σ H _ v vl vu _ _ sl Q I rx hs pl pu ⟨a, xs, rfl, SqL.of ha, fun p hp => q.new le hp ⟨_, upd_same, cut_rep rl _ _⟩⟩
  · split at e
    · cases e
    · rename_i hw
      cases e
      obtain ⟨a, xs, rfl, ha, rl⟩ := vw.tup le
      rw [hk] at ha
      exact sl_tup pins s σ H _ v vl vu _ _ sl Q I rx hs pl pu ⟨a, xs, rfl, ha, by rw [rl.length]; exact hw, fun p hp => q.newV le hp (.tup (SqT.of upd_same) ((cut_rep rl _ _).mono (upd_le (le.none hp))))⟩
  · cases e
/-- a part of a slice -/
def partD (S : SS) (r : R) : Option Int := match look S r with
  | some (.int i) => some i
  | _ => none
def sSlLo (fa fl : M R) : M R := fun S => (fa S).bind fun ra S1 => (fl S1).bind fun rl S2 => match partD S2 rl, look S2 ra with
  | some lo, some d => lift (gSl d (some lo) none) S2
  | _, _ => .no
def sSlHi (fa fu : M R) : M R := fun S => (fa S).bind fun ra S1 => (fu S1).bind fun ru S2 => match partD S2 ru, look S2 ra with
  | some hi, some d => lift (gSl d none (some hi)) S2
  | _, _ => .no
def sSlLH (fa fl fu : M R) : M R := fun S => (fa S).bind fun ra S1 => (fl S1).bind fun rl S2 => match partD S2 rl with
  | none => .no
  | some lo => (fu S2).bind fun ru S3 => match partD S3 ru, look S3 ra with
    | some hi, some d => lift (gSl d (some lo) (some hi)) S3
    | _, _ => .no
theorem part_view {S : SS} {y : V} {r : R} {i : Int} (si : SI z S σ H G) (dn : DenS z σ G y r) (e : partD S r = some i) : y = .int i := by
  unfold partD at e
  split at e
  · rename_i j el
    cases e
    exact (dn.view si el).int
  · cases e
theorem sl_fin {S1 : SS} {G1 H1 : Hp} {Q : VK} {x : V} {ra : R} {d : D} {lo hi : Option Int} (si1 : SI z S1 σ H1 G1) (dn : DenS z σ G1 x ra) (el : look S1 ra = some d) (h : Post z W S1 G1 H1 σ Q (lift (gSl d lo hi) S1)) : rSlD z x lo hi H1 Q := by
  cases e : gSl d lo hi with
  | none => rw [e] at h; exact h.elim
  | some r => rw [e] at h; exact ⟨G1, d, r, si1.le, dn.view si1 el, e, VP.fin si1 h⟩
theorem E_slLo {e l : Expr} {p2 : Pos} {fl : M R} (ha : E X z W e fa) (hl : E X z W l fl) : E X z W (.Subscript e (.Slice (some l) none none p2) pos) (sSlLo fa fl) := by
  refine ⟨PE.le (pe_slice (sl_D ha.k) ha.pe (po_some hl.pe) po_none) fun σ H Q ⟨S, G, si, h⟩ => ?_, ha.k⟩
  refine (step si h).mono fun x H1 ⟨ra, S1, G1, si1, _, da, h1⟩ => (step si1 h1).mono fun y H2 ⟨rl, S2, G2, si2, g2, dl, h2⟩ => ?_
  cases ep : partD S2 rl with
  | none => rw [ep] at h2; exact h2.elim
  | some i =>
    cases el : look S2 ra with
    | none => rw [ep, el] at h2; exact h2.elim
    | some d =>
      rw [ep, el] at h2
      exact ⟨i, part_view si2 dl ep, sl_fin si2 (da.mono g2.ge) el h2⟩
theorem E_slHi {e u : Expr} {p2 : Pos} {fu : M R} (ha : E X z W e fa) (hu : E X z W u fu) : E X z W (.Subscript e (.Slice none (some u) none p2) pos) (sSlHi fa fu) := by
  refine ⟨PE.le (pe_slice (sl_D ha.k) ha.pe po_none (po_some hu.pe)) fun σ H Q ⟨S, G, si, h⟩ => ?_, ha.k⟩
  refine (step si h).mono fun x H1 ⟨ra, S1, G1, si1, _, da, h1⟩ => (step si1 h1).mono fun y H2 ⟨rl, S2, G2, si2, g2, dl, h2⟩ => ?_
  cases ep : partD S2 rl with
  | none => rw [ep] at h2; exact h2.elim
  | some i =>
    cases el : look S2 ra with
    | none => rw [ep, el] at h2; exact h2.elim
    | some d =>
      rw [ep, el] at h2
      exact ⟨i, part_view si2 dl ep, sl_fin si2 (da.mono g2.ge) el h2⟩
theorem E_slLH {e l u : Expr} {p2 : Pos} {fl fu : M R} (ha : E X z W e fa) (hl : E X z W l fl) (hu : E X z W u fu) : E X z W (.Subscript e (.Slice (some l) (some u) none p2) pos) (sSlLH fa fl fu) := by
  refine ⟨PE.le (pe_slice (sl_D ha.k) ha.pe (po_some hl.pe) (po_some hu.pe)) fun σ H Q ⟨S, G, si, h⟩ => ?_, ha.k⟩
  refine (step si h).mono fun x H1 ⟨ra, S1, G1, si1, _, da, h1⟩ => (step si1 h1).mono fun y H2 ⟨rl, S2, G2, si2, g2, dl, h2⟩ => ?_
  cases ep : partD S2 rl with
  | none => rw [ep] at h2; exact h2.elim
  | some i =>
    rw [ep] at h2
    simp only at h2
    refine ⟨i, part_view si2 dl ep, (step si2 h2).mono fun w H3 ⟨ru, S3, G3, si3, g3, du, h3⟩ => ?_⟩
    cases ep2 : partD S3 ru with
    | none => rw [ep2] at h3; exact h3.elim
    | some j =>
      cases el : look S3 ra with
      | none => rw [ep2, el] at h3; exact h3.elim
      | some d =>
        rw [ep2, el] at h3
        exact ⟨j, part_view si3 du ep2, sl_fin si3 ((da.mono g2.ge).mono g3.ge) el h3⟩
end
end L2.Dl
/-! sorted(xs, key=f): f any function whose calls keep a promise. -/
namespace L2.Dl
open PySem PySem.Spec PySem.Calls PyProof.Rows

section
variable {X : Cx} {pins : List (Addr × Obj)} {σ : L2.St} {H : Hp} {s : Shared}
/-- an untracked object of ours is tracked from now on -/
theorem Inv.track {a : Addr} {ob : HO} (I : Inv X pins σ H s) (f : FpOk X pins H a) (new : ObjOk X.prog X.w (upd H a ob) s.heap a ob) : Inv X pins σ (upd H a ob) s := by
  obtain ⟨f0, f1, f2, f3, f4, f5⟩ := f
  have ne : ∀ b u, H b = some u → b ≠ a := fun b u e z => by rw [z, f0] at e; cases e
  refine I.step (g' := s.gens) (d' := s.drawn) (t' := s.toks) (h' := s.heap) (ch := [a]) (fun b hb => ?_) (fun b o _ _ _ e _ => e) (fun b o _ _ _ e _ => ⟨o.slots, e⟩) (fun b o hc e n => ?_) (fun b o _ e => ⟨o, e⟩) (fun b xs e => ?_) (fun b o u e => ?_) (fun b ps e => ⟨#[], ?_⟩) (fun m hm => hm) (fun b u e => ?_) I.bare
  · have e : b = a := by simpa using hb
    subst e
    exact ⟨f3, f1, f4, f5⟩
  · have hb : b ≠ a := fun z => hc (by rw [z]; exact List.mem_cons_self)
    rw [upd_ne hb]; exact n
  · rw [upd_ne (ne b _ e)]; exact e
  · rw [upd_ne (ne b _ e)]; exact e
  · rw [upd_ne (ne b _ e), e]; simp
  · by_cases hb : b = a
    · subst hb; rw [upd_same] at e; cases e; exact new
    · rw [upd_ne hb] at e
      refine (I.hok b u e).stay (fun c v hc q => q) (fun c q => ?_) fun c xs q => ?_
      · rw [upd_ne (ne c _ q)]; exact q
      · rw [upd_ne (ne c _ q)]; exact q
end

/-- the items in the order of their keys -/
noncomputable def sortK (l : List D) (ds : List PyData) : List D := ((l.zip ds).mergeSort (PySem.W.dataLe false Prod.snd)).map Prod.fst
theorem each_fst {R : Value → D → Prop} : ∀ {us : List Value} {bs : List (D × PyData)}, PySem.W.EachIs (fun v b => R v b.1) us bs → PySem.W.EachIs R us (bs.map Prod.fst)
  | _, _, .nil => .nil
  | _, _, .cons a t => .cons a (each_fst t)
theorem each_zip {R : Value → D → Prop} : ∀ {us : List Value} {l : List D} {ds : List PyData}, PySem.W.EachIs R us l → ds.length = l.length → PySem.W.EachIs (fun v b => R v b.1) us (l.zip ds)
  | _, _, [], .nil, _ => .nil
  | _, _, _ :: _, .nil, h => by simp at h
  | _, _, [], .cons _ _, h => by simp at h
  | _, _, d :: ds, .cons a t, h => .cons a (each_zip t (by simpa using h))
theorem zip_snd : ∀ {l : List D} {ds : List PyData}, ds.length = l.length → (l.zip ds).map Prod.snd = ds
  | [], [], _ => rfl
  | [], _ :: _, h => by simp at h
  | _ :: _, [], h => by simp at h
  | a :: l, d :: ds, h => by rw [List.zip_cons_cons, List.map_cons, zip_snd (by simpa using h)]
theorem DpAll.len {K : PySem.W.Frag} {H : Hp} : ∀ {vs : List V} {ds : List PyData}, DpAll K H vs ds → vs.length = ds.length
  | _, _, .nil => rfl
  | _, _, .cons _ t => congrArg (· + 1) (DpAll.len t)
theorem reads_each {h : Heap} : ∀ {vs : List Value} {ds : List PyData} {as : List Addr}, ReadsAll h vs ds as → PySem.W.EachIs (fun v d => ∃ as, Reads h v d as) vs ds
  | _, _, _, .nil => .nil
  | _, _, _, .cons a t => .cons ⟨_, a⟩ (reads_each t)

section
variable {X : Cx} {z : Dx} {G : Hp} {pins : List (Addr × Obj)} {σ : L2.St} {H : Hp} {s : Shared}
theorem sortK_run (I : Inv X pins σ H s) (hu : X.A.units + 70 < cLine) {l0 : Addr} {us : List Value} {l : List D} {f : Value} {Q : VK} (hl : s.heap.IsList l0 us.toArray) (hz : us.length ≤ sizeLine) (e : PySem.W.EachIs (StandsFor z G) us l)
    (ha1 : argsOk "sorted" ⟨[.ref l0], [(Str.ofString "key", f)]⟩) (ha2 : ∀ x, argsOk "list.sort" ⟨[.ref x], [(Str.ofString "key", f)]⟩) (ht : ∀ x, Builtin.«list.sort» ⟨[.ref x], [(Str.ofString "key", f)]⟩ = ksk_tree x f false)
    (P : Nat → Hp → List V → Prop) (p0 : P 0 H [])
    (turn : ∀ (i : Nat) (u : Value) (H1 : Hp) (ks : List V) (s1 : Shared) (pins1 : List (Addr × Obj)), us[i]? = some u → P i H1 ks → (∀ p ∈ pins, p ∈ pins1) → Inv X pins1 σ H1 s1 →
      wpAny (model X.prog X.w) X.A.in1.in1 (call f [u]) (fun k s2 => ∃ v H2, Inv X pins1 σ H2 s2 ∧ RelV v k ∧ P (i + 1) H2 (ks ++ [v])) (fun _ _ => False) s1)
    (fin : ∀ H1 ks, P us.length H1 ks → ∃ ds, DpAll X.K H1 ks ds ∧ ks.length = us.length ∧ okSort ds = true ∧ ∀ p xs, H1 p = none → RepL z G xs (sortK l ds) → Q (.ref p) (upd H1 p (.lst xs))) :
    wpAny (model X.prog X.w) X.A (call (.builtin "sorted") [.ref l0] [(Str.ofString "key", f)]) (EP X pins σ Q) X.xe s := by
  refine PySem.W.sorted_of_sort hl hz ha1 ha2 fun E' => ?_
  rw [ht]
  have ho := PySem.W.copyHeap_at s.heap us
  -- the list that is sorted, the store of its keys
  have hA : s.heap.objs.size + 1 < (PySem.W.copyHeap s.heap us).objs.size := Heap.lt_size ho
  obtain ⟨e1, ho1⟩ : ∃ e1, ((PySem.W.copyHeap s.heap us).update (s.heap.objs.size + 1) (Obj.mapSeq fun _ => (#[] : Array Value))).get? (s.heap.objs.size + 1) = some (seqObj "list" #[] e1) := ⟨_, get?_update_seq ho fun _ => #[]⟩
  unfold ksk_tree
  refine wpAny_bind (listItems_at ho rfl ?_)
  refine wpAny_bind (listUpdate_at ho rfl ?_ (by rw [List.size_toArray]; exact hz) (Nat.zero_le _))
  refine wpAny_bind (seqEpoch_at ho1 rfl ?_)
  refine wpAny_bind (wpAny_newTuple ?_ (by show us.length ≤ _; exact hz))
  refine wpAny_bind (wpAny_newList ?_ (Nat.zero_le _))
  refine wpAny_holding ?_
  have kS_eq : (((PySem.W.copyHeap s.heap us).update (s.heap.objs.size + 1) (Obj.mapSeq fun _ => (#[] : Array Value))).push (seqObj "tuple" us.toArray 0)).objs.size = (PySem.W.copyHeap s.heap us).objs.size + 1 := by rw [size_push', Heap.size_update]
  generalize hkS : (((PySem.W.copyHeap s.heap us).update (s.heap.objs.size + 1) (Obj.mapSeq fun _ => (#[] : Array Value))).push (seqObj "tuple" us.toArray 0)).objs.size = kS
  rw [hkS] at kS_eq
  have hka : kS ≠ s.heap.objs.size + 1 := by omega
  show wpAny (model X.prog X.w) X.A.in1.in1 (ksk_rest (s.heap.objs.size + 1) f false us.toArray e1 (.ref kS)) _ E' { s with heap := PySem.W.sortingHeap (PySem.W.copyHeap s.heap us) (s.heap.objs.size + 1) us }
  have old : ∀ b o, s.heap.get? b = some o → (PySem.W.sortingHeap (PySem.W.copyHeap s.heap us) (s.heap.objs.size + 1) us).get? b = some o := fun b o q => PySem.W.sorting_copy_old q
  have I0 : Inv X pins σ H { s with heap := PySem.W.sortingHeap (PySem.W.copyHeap s.heap us) (s.heap.objs.size + 1) us } := I.kept (t' := s.toks) old
  have na0 : (PySem.W.sortingHeap (PySem.W.copyHeap s.heap us) (s.heap.objs.size + 1) us).get? (s.heap.objs.size + 1) = some (seqObj "list" #[] e1) := Heap.get?_push_of_some _ (Heap.get?_push_of_some _ ho1)
  have nk0 : (PySem.W.sortingHeap (PySem.W.copyHeap s.heap us) (s.heap.objs.size + 1) us).get? kS = some (seqObj "list" #[] 0) := by
    rw [← hkS]; exact Heap.get?_push_size _ rfl
  have szk : s.heap.objs.size ≤ kS := by omega
  have fpA : ∀ {H1 : Hp}, H1 (s.heap.objs.size + 1) = none → FpOk X pins H1 (s.heap.objs.size + 1) := fun h => I.fpOk (Nat.le_succ _) h
  have fpK : ∀ {H1 : Hp}, H1 kS = none → FpOk X pins H1 kS := fun h => I.fpOk szk h
  unfold ksk_rest
  refine wpAny_bind (wpAny_rule ?_)
  first
    | rw [List.forIn_toArray]
    | (rw [← Array.forIn_toList]; simp only [List.toList_toArray])
    | rw [← Array.forIn_toList]
  refine wpAny_bind (ksk_fold (fun i s1 => ∃ H1 ks kA ep, Inv X pins σ H1 s1 ∧ H1 (s.heap.objs.size + 1) = none ∧ H1 kS = none ∧ s1.heap.get? kS = some (seqObj "list" kA ep) ∧ s1.heap.get? (s.heap.objs.size + 1) = some (seqObj "list" #[] e1) ∧ Vals ks kA.toList ∧ ks.length = i ∧ P i H1 ks) us 0 _
    ⟨H, [], #[], 0, I0, I.hok.fresh (Nat.le_succ _), I.hok.fresh szk, nk0, na0, .nil, rfl, p0⟩ ?step ?done)
  case step =>
    rintro j u s1 hx ⟨H1, ks, kA, ep, I1, hA1, hK1, nk, na, rk, lk, p1⟩
    simp only [Nat.zero_add] at lk p1 ⊢
    have hj : j < us.length := (List.getElem?_eq_some_iff.mp hx).1
    have I2 := I1.pinned (fp := [s.heap.objs.size + 1, kS]) (fun b hb => by
      rcases List.mem_cons.mp hb with rfl | hb
      · exact fpA hA1
      · rcases List.mem_cons.mp hb with rfl | hb
        · exact fpK hK1
        · simp at hb) (fun b hb => by
      rcases List.mem_cons.mp hb with rfl | hb
      · exact ⟨_, na, fun v q => nomatch q⟩
      · rcases List.mem_cons.mp hb with rfl | hb
        · exact ⟨_, nk, fun v q => nomatch q⟩
        · simp at hb)
    refine wpAny_bind (wpAny_attempt (wpAny_mono (turn j u H1 ks s1 _ hx p1 (fun p hp => List.mem_append_left _ hp) I2) (fun v s2 he => ?_) fun _ _ hF => hF.elim))
    obtain ⟨w, H2, I3, rw', p2⟩ := he
    have pinA := I3.pin (s.heap.objs.size + 1, seqObj "list" #[] e1) (List.mem_append_right _ (List.mem_append_right _ (mem_pinsAt List.mem_cons_self na)))
    have pinK := I3.pin (kS, seqObj "list" kA ep) (List.mem_append_right _ (List.mem_append_right _ (mem_pinsAt (List.mem_cons_of_mem _ List.mem_cons_self) nk)))
    have I4 := I3.unpinned
    try dsimp only
    have nk2 := pinK.1
    have na2 := pinA.1
    have kz : kA.size ≤ us.length := by
      have q1 : ks.length = kA.toList.length := Vals.length rk
      have q2 : kA.toList.length = kA.size := Array.length_toList
      rw [← q2, ← q1, lk]
      first | exact Nat.le_of_lt hj | rfl
    have sb := Heap.SameBut.update s2.heap kS (Obj.mapSeq (·.push v))
    obtain ⟨c2, hc2⟩ : ∃ c2, (s2.heap.update kS (Obj.mapSeq (·.push v))).get? kS = some (seqObj "list" (kA.push v) c2) := ⟨_, get?_update_seq nk2 (·.push v)⟩
    refine wpAny_bind (listUpdate_at nk2 rfl ?_ (Nat.le_trans kz hz) (Nat.le_trans (Nat.le_of_eq (Array.size_push ..)) (Nat.succ_le_succ (Nat.le_trans kz hz))))
    refine wpAny_pure ⟨rfl, H2, ks ++ [w], kA.push v, c2, ?_, pinA.2.1, pinK.2.1, hc2, (sb.2 _ hka.symm).trans na2, ?_, by rw [List.length_append, lk]; rfl, p2⟩
    · exact I4.turnedL (t' := s2.toks) (ch := [kS]) (fun b o hb q => (sb.2 b (fun z => hb (by rw [z]; exact List.mem_cons_self))).trans q) fun b hb => by
        obtain rfl : b = kS := by simpa using hb
        exact fpK pinK.2.1
    · rw [Array.toList_push]; exact rk.append (.cons rw' .nil)
  case done =>
    rintro s1 ⟨H1, ks, kA, ep, I1, hA1, hK1, nk, na, rk, lk, p1⟩
    rw [Nat.zero_add] at p1 lk
    try dsimp only
    refine wpAny_bind (listItems_at nk rfl ?_)
    obtain ⟨ds, dp, _, hok, kfin⟩ := fin H1 ks p1
    obtain ⟨as, rd⟩ := Dp.readsAll I1 ds ks kA.toList dp rk
    have ksz : kA.size = us.length := by
      have q1 : ks.length = kA.toList.length := Vals.length rk
      have q2 : kA.toList.length = kA.size := Array.length_toList
      rw [← q2, ← q1, lk]
    have lds : ds.length = l.length := by rw [← DpAll.len dp, lk]; exact e.length
    -- all but the two objects
    have hidOld : ∀ b o, (hidT s1.heap fun b => if b = kS then some (.lst []) else none).get? b = some o → s1.heap.get? b = some o := fun b o q => of_hidT q |>.1
    have hidNo : (hidT s1.heap fun b => if b = kS then some (HO.lst []) else none).get? kS = none := by
      cases q : (hidT s1.heap fun b => if b = kS then some (HO.lst []) else none).get? kS with
      | none => rfl
      | some o => exact absurd (of_hidT q).2 (by simp)
    have hidGet : ∀ b o, b ≠ kS → s1.heap.get? b = some o → (hidT s1.heap fun b => if b = kS then some (HO.lst []) else none).get? b = some o := fun b o hb q => hidT_get q (by simp [hb])
    refine PySem.W.keyH_end (κ := PySem.W.dataKind s1.heap ds) (h₁ := hidT s1.heap fun b => if b = kS then some (HO.lst []) else none) (fun b o _ q => hidOld b o q) hidNo nk na hka
      (PySem.W.SortsAt.data (s := s1) (reads_each rd) (okSort_alike hok) (okSort_able hok) fun d hd => ?_) (by rw [ksz]) hz fun h3 tk3 c3 k3 n3 => ?_
    · have := okSort_depth hok hd
      show X.A.units + 1 + 1 + d.depth < cLine
      omega
    · refine ⟨rfl, ?_⟩
      have I2 : Inv X pins σ H1 { s1 with heap := h3, toks := tk3 } := I1.turnedL (t' := tk3) (ch := [s.heap.objs.size + 1, kS]) (fun b o hb q => k3 b o (fun z => hb (by rw [z]; exact List.mem_cons_self)) (hidGet b o (fun z => hb (by rw [z]; exact List.mem_cons_of_mem _ List.mem_cons_self)) q)) fun b hb => by
        rcases List.mem_cons.mp hb with rfl | hb
        · exact fpA hA1
        · obtain rfl : b = kS := by simpa using hb
          exact fpK hK1
      have hE : PySem.W.EachIs (StandsFor z G) (PySem.W.sortVals (PySem.W.dataKind s1.heap ds) false kA.toList us) (sortK l ds) := by
        have ko : PySem.W.KeyedOut false ds us (PySem.W.sortVals (PySem.W.dataKind s1.heap ds) false kA.toList us) := ⟨s1.heap, kA.toList, okSort_alike hok, rfl, reads_each rd⟩
        have q := PySem.W.keyedOut_each (bs := l.zip ds) (R := fun v b => StandsFor z G v b.1) Prod.snd (by rw [zip_snd lds]; exact ko) (each_zip e lds)
        exact each_fst q
      obtain ⟨xs, r1, r2⟩ := stands_back hE
      have hl3 : xs.length ≤ sizeLine := by rw [r1.length, PySem.W.sortVals_length false (by rw [Array.length_toList]; exact ksz)]; exact hz
      exact ⟨.ref (s.heap.objs.size + 1), upd H1 (s.heap.objs.size + 1) (.lst xs), Inv.track I2 (fpA hA1) ⟨hl3, _, c3, r1, n3⟩, rfl, kfin _ xs hA1 r2⟩
end
end L2.Dl
/-! sorted(xs, key=f): f a def of the text; key=lambda x: .. -/
namespace L2.Dl
open PySem PySem.Spec PyProof.Rows LamX NdefX

/-! ### keys by a def -/
def keysBy (Fn : List D → FR) : List D → Option (List D)
  | [] => some []
  | d :: l => match Fn [d], keysBy Fn l with
    | .ret k fr [], some ks => some (k :: ks)
    | _, _ => none
noncomputable def sortR (l ks : List D) : Option R := match toPyL ks with
  | some ds => if okSort ds = true then some (.f (.lst (sortK l ds))) else none
  | none => none
def lookLst (S : SS) (r : R) : Option (List D) := match look S r with
  | some (.lst l) => some l
  | _ => none
noncomputable def sortFk (Fn : List D → FR) (ra : R) (S1 : SS) : Res R := match lookLst S1 ra with
  | none => .no
  | some l => match keysBy Fn l with
    | none => .no
    | some ks => lift (sortR l ks) S1
noncomputable def sSortF (Fn : List D → FR) (fa : M R) : M R := fun S => (fa S).bind (sortFk Fn)
section
variable {X : Cx} {z : Dx} {W : WX} {S S1 : SS} {G G1 H H1 : Hp} {pins : List (Addr × Obj)} {σ : L2.St} {s : Shared}
theorem lookLst_eq {r : R} {l : List D} (h : lookLst S r = some l) : look S r = some (.lst l) := by
  unfold lookLst at h
  split at h
  · rename_i l' e; cases h; exact e
  · cases h
theorem keysBy_at {Fn : List D → FR} : ∀ {l ks : List D}, keysBy Fn l = some ks → ks.length = l.length ∧ ∀ (i : Nat) d, l[i]? = some d → ∃ k fr, ks[i]? = some k ∧ Fn [d] = .ret k fr []
  | [], _, e => by cases e; exact ⟨rfl, fun i d h => by simp at h⟩
  | d :: l, ks, e => by
    unfold keysBy at e
    split at e
    · rename_i k fr ks' e1 e2
      cases e
      obtain ⟨h1, h2⟩ := keysBy_at e2
      refine ⟨by simp [h1], fun i d' h => ?_⟩
      cases i with
      | zero => simp at h; subst h; exact ⟨k, fr, rfl, e1⟩
      | succ i => simpa using h2 i d' (by simpa using h)
    · cases e
/-- what is between the key calls -/
def KeyP (z : Dx) (W : WX) (S : SS) (σ : L2.St) (H0 G0 : Hp) (ks : List D) (R : Hp → Prop) (i : Nat) (H : Hp) (vs : List V) : Prop :=
  ∃ G, SI z S σ H G ∧ Go S S σ σ H0 H G0 G ∧ RepL z G vs (ks.take i) ∧ R H
theorem sort_fin {Q : VK} {l ks : List D} {n : Nat} {RR : Hp → Prop} (hk : z.K = X.K) (hn : n = ks.length) (h : Post z W S G H σ Q (lift (sortR l ks) S)) :
    ∀ H1 vs, KeyP z W S σ H G ks RR n H1 vs → ∃ ds, DpAll X.K H1 vs ds ∧ vs.length = n ∧ okSort ds = true ∧ ∀ p xs, H1 p = none → RepL z G xs (sortK l ds) → Q (.ref p) (upd H1 p (.lst xs)) := by
  intro H1 vs ⟨G1, si, g, rl, _⟩
  unfold sortR at h
  split at h
  · rename_i ds ep
    split at h
    · rename_i hok
      rw [List.take_of_length_le (Nat.le_of_eq hn.symm)] at rl
      refine ⟨ds, repL_Dp hk si.le _ _ _ rl ep, by rw [rl.length, hn], hok, fun p xs hp rx => ?_⟩
      have h : Post z W S G H σ Q (.ok (.f (.lst (sortK l ds))) S) := h
      have x0 : Ext H1 (upd H1 p (.lst xs)) G1 G1 := .own si.le hp
      have hp0 : H p = none := g.th p hp
      refine h (.ref p) _ G1 (si.ext x0) (g.trans x0.go) ⟨p, rfl, hp0, si.le.none hp, fun o => ?_, xs, upd_same, rx.mono g.ge⟩
      obtain ⟨_, u, hu⟩ := si.ownFree o
      rw [hp] at hu; cases hu
    · exact h.elim
  · exact h.elim
/-- a call that may have laid new things alone -/
theorem key_after {H2 G2 : Hp} (si : SI z S σ H1 G1) (ar : Around' [] H1 H2 G1 G2) : SI z S σ H2 G2 ∧ Go S S σ σ H1 H2 G1 G2 := by
  have h := around_si (io := []) (iod := []) si ar .nil (by simp) .nil
  have e : setIO S [] [] = S := by unfold setIO; rfl
  rw [e] at h
  exact h
/-- a fresh result is shared -/
theorem key_val {H2 G2 : Hp} {v : V} {d : D} {fr : Bool} (si : SI z S σ H1 G1) (ar : Around' [] H1 H2 G1 G2) (dn : DenR z H1 H2 G2 v d fr) : ∃ G3, SI z S σ H2 G3 ∧ Go S S σ σ H1 H2 G1 G3 ∧ Rep z G3 v d := by
  obtain ⟨s2, g2⟩ := key_after si ar
  cases fr with
  | false => exact ⟨G2, s2, g2, dn⟩
  | true =>
    obtain ⟨p, rfl, e1, e2, e3⟩ := dn
    have no : ¬ Owns S σ p := fun o => by
      obtain ⟨_, u, hu⟩ := si.ownFree o
      rw [e1] at hu; cases hu
    obtain ⟨G3, s3, g3, _, r3⟩ := settle (r := .f d) s2 g2 ⟨p, rfl, e1, e2, no, e3⟩
    exact ⟨G3, s3, g3, r3⟩
/-- a key call of a def -/
theorem keyF_turn {k : Nat} {f : Addr} {fd : FuncData} {x : Str} {Fn : List D → FR} {cl : Brings} (F : FnOk X.prog X.w X.K X.mg X.base (L2.CX X.prog X.w) k f fd [x] (spD cl X.K [false] Fn)) (hcl : z.cl = cl) (hk : z.K = X.K) (hr : Room (k + 2) X.A) (hb : Binds X.K fd [x] []) (H0 G0 : Hp) {l ks : List D} (hks : keysBy Fn l = some ks)
    {us : List Value} {xs : List V} (rv : Vals xs us) (rl : RepL z G0 xs l) :
    ∀ (i : Nat) (u : Value) (H1 : Hp) (vs : List V) (s1 : Shared) (pins1 : List (Addr × Obj)), us[i]? = some u → KeyP z W S σ H0 G0 ks (fun _ => True) i H1 vs → Inv X pins1 σ H1 s1 →
      wpAny (model X.prog X.w) X.A.in1.in1 (call (.ref f) [u]) (fun k s2 => ∃ v H2, Inv X pins1 σ H2 s2 ∧ RelV v k ∧ KeyP z W S σ H0 G0 ks (fun _ => True) (i + 1) H2 (vs ++ [v])) (fun _ _ => False) s1 := by
  intro i u H1 vs s1 pins1 hu ⟨G1, si, g, rk, _⟩ I1
  subst hcl
  -- the item
  obtain ⟨x0, hx0, rx0⟩ : ∃ x0, xs[i]? = some x0 ∧ RelV x0 u := by
    have hi := (List.getElem?_eq_some_iff.mp hu).1
    have hl := rv.length
    obtain ⟨u', e1, e2⟩ := rv.get (i := i) (x := xs[i]'(by omega)) (List.getElem?_eq_getElem (by omega))
    rw [hu] at e1; cases e1
    exact ⟨_, List.getElem?_eq_getElem (by omega), e2⟩
  obtain ⟨d, hd, rd⟩ := rl.got hx0
  obtain ⟨_, hat⟩ := keysBy_at hks
  obtain ⟨kd, fr, hkd, hFn⟩ := hat i d hd
  refine wpAny_call (codeAny_mono (F.run X.A.in1.in1 X.stack s1 H1 ⟨[u], []⟩ [u] [x0] (fun v H2 => ∃ G2, Around' [] H1 H2 G1 G2 ∧ DenR z H1 H2 G2 v kd fr) (fun _ _ _ => False) (hr.in1.in1) I1.env0.in1.in1 ?_ (.cons rx0 .nil) ?_) fun r s' hq => ?_)
  · have b := hb s1 [u] I1.kIn rfl
    rw [List.append_nil] at b
    exact b
  · refine ⟨G1, [d], si.le, si.tab, .shr (Rep.to (z := z) (z' := ⟨X.K, z.cl, [], fun _ => none⟩) hk rfl (rd.mono g.ge)) .nil, List.nodup_nil, ?_⟩
    rw [hFn]
    intro v H2 G2 ar _ dn
    refine ⟨G2, ar, ?_⟩
    cases fr with
    | false => exact Rep.to (z := ⟨X.K, z.cl, [], fun _ => none⟩) (z' := z) hk.symm rfl dn
    | true =>
      obtain ⟨p, q1, q2, q3, q4⟩ := dn
      exact ⟨p, q1, q2, q3, OwnAt.to (z := ⟨X.K, z.cl, [], fun _ => none⟩) (z' := z) hk.symm rfl q4⟩
  · cases r with
    | error e =>
      obtain ⟨_, _, _, _, _, _, _, _, _, _, _, _, zz⟩ := hq
      exact zz.elim
    | ok fl =>
      cases fl with
      | ret w =>
        obtain ⟨v, H2, I2, rv2, G2, ar, dn⟩ := I1.after hq
        obtain ⟨G3, s3, g3, r3⟩ := key_val si ar dn
        refine ⟨v, H2, I2, rv2, G3, s3, g.trans g3, ?_, trivial⟩
        have et : ks.take (i + 1) = ks.take i ++ [kd] := by rw [List.take_add_one, hkd]; rfl
        rw [et]
        exact (rk.mono g3.ge).append (.cons r3 .nil)
      | next => exact False.elim hq
      | brk => exact False.elim hq
      | cont => exact False.elim hq
theorem E_sortF {k : Nat} {f : Addr} {fd : FuncData} {x y : Str} {a : Expr} {fa : M R} {Fn : List D → FR} {cl : Brings} {nm : Option Str} {p fp kpos pos : Pos} (F : FnOk X.prog X.w X.K X.mg X.base (L2.CX X.prog X.w) k f fd [x] (spD cl X.K [false] Fn)) (hcl : z.cl = cl) (hr : Room (k + 2) X.A) (hb : Binds X.K fd [x] []) (hmf : X.mg y = some (.ref f))
    (hm : X.mg "sorted" = none) (ha : E X z W a fa) (hg : Gl X "sorted" := by rfl) (hgf : Gl X y := by rfl) (hdb : (y == ("__debug__" : Str)) = false := by decide)
    (hs : starEach [a] X.env = (false, eval a X.env) :: starEach [] X.env := by rfl)
    (he : backTo pos (starEach [a] X.env) = (false, eval a X.env) :: backTo pos (starEach [] X.env) := by rfl) (hpl : (backTo pos (starEach [a] X.env)).any (·.1) = false := by rfl)
    (hall : (backToKw pos (keywordEach [⟨nm, .Name y fp, kpos⟩] X.env)).all (·.1.isSome) = true := by rfl) (hnone : (backToKw pos (keywordEach [⟨nm, .Name y fp, kpos⟩] X.env)).any (·.1.isNone) = false := by rfl)
    (hks : (backToKw pos (keywordEach [⟨nm, .Name y fp, kpos⟩] X.env)).filterMap (·.1) = [Str.ofString "key"] := by rfl) :
    E X z W (.Call (.Name "sorted" p) [a] [⟨nm, .Name y fp, kpos⟩] pos) (sSortF Fn fa) := by
  refine ⟨⟨fun pins s σ H Q I ⟨S, G, si, h⟩ => ?_⟩, ha.k⟩
  refine wpAny_Call_Name_kw (ld_blt I hg hm boot_sorted ?_ (by decide) (by decide))
  refine PyProof.Rows.callWith_kw (thn ((pa_cons ha.pe pa_nil hs).run pos pins s σ H (fun vs H1 => ∃ x, vs = [x] ∧ ∃ ra S1 G1, SI z S1 σ H1 G1 ∧ Go S S1 σ σ H H1 G G1 ∧ DenS z σ G1 x ra ∧ Post z W S1 G1 H1 σ Q (sortFk Fn ra S1)) I ((step si h).mono fun x H1 q => ⟨x, rfl, q⟩)) fun us s1 ⟨vs, H1, I1, r1, q1⟩ => ?_) he hpl hall hnone
  obtain ⟨x0, rfl, ra, S1, G1, si1, g1, dn, h1⟩ := q1
  unfold sortFk at h1
  refine thn ((pk_cons (pe_glob hgf hmf (v := .ref f) rfl hdb) pk_nil).run pos pins s1 σ H1 (fun zs H2 => zs = [.ref f] ∧ H2 = H1) I1 ⟨rfl, rfl⟩) fun ws s2 ⟨zs, H2, I2, r2, e1, e2⟩ => ?_
  subst e1 e2
  rw [hks]
  obtain ⟨w0, rfl, e3⟩ := vals1 r2
  obtain rfl : w0 = Value.ref f := e3
  cases el : lookLst S1 ra with
  | none => rw [el] at h1; exact h1.elim
  | some l =>
    rw [el] at h1
    simp only at h1
    cases ek : keysBy Fn l with
    | none => rw [ek] at h1; exact h1.elim
    | some ks =>
      rw [ek] at h1
      simp only at h1
      obtain ⟨a0, xs, rfl, ha0, rl⟩ := (dn.view si1 (lookLst_eq el)).lst si1.le
      obtain ⟨its, rv, pl, hz⟩ := I2.list (SqL.of (K := X.K) ha0)
      obtain rfl := Vals.ref1 r1
      have hu := hr.un
      have hkl : its.length = ks.length := by rw [← rv.length, rl.length, (keysBy_at ek).1]
      exact sortK_run I2 (by omega) pl.isList (by rw [← rv.length]; exact hz) (stands_all rv rl) (PyProof.Rows.ksk_s1 _ _) (fun _ => PyProof.Rows.ksk_l1 _ _) (fun a => PyProof.Rows.ksk_t1 f a) (KeyP z W S1 σ H2 G1 ks (fun _ => True)) ⟨G1, si1, .refl, by rw [List.take_zero]; exact .nil, trivial⟩
        (fun i u H3 vs s3 pins3 hi hp _ I3 => keyF_turn F hcl ha.k hr hb H2 G1 ek rv rl i u H3 vs s3 pins3 hi hp I3) (sort_fin ha.k hkl h1)
end
end L2.Dl
/-! sorted(xs, key=lambda x: ..). -/
namespace L2.Dl
open PySem PySem.Spec PyProof.Rows LamX NdefX

section
variable {X : Cx} {pins : List (Addr × Obj)} {σ : L2.St} {H : Hp} {s : Shared}
/-- what making a lambda does to the tracked things: nothing, or the table grows by a new code object -/
def Made (H : Hp) (P : Addr) (q : Str) (H1 : Hp) : Prop := H1 = H ∨ ∃ ps ps' c', H P = some (.tbl ps) ∧ H c' = none ∧ H1 = upd (upd H P (.tbl ps')) c' (CodeO c' q)
theorem lam_makeX {c P : Addr} {params : Arguments} {body : Expr} {scope : Scope} {pos : Pos} {E : Value → Shared → Prop} {Q : Value → Shared → Prop} (I : Inv X pins σ H s) (TB : TabB X.base X.mg c P) (hcode : X.env.code = .ref c) (hT : TabS H P (X.env.qual ++ "<lambda>"))
    (hdef : defaultsOf params X.env = ([], [])) (hfree : ∀ y ∈ scope.names, y.2 = .free → ∃ c, X.env.cells.lookup y.1 = some c)
    (h : ∀ (f c' : Addr) (pm ctv : Value) (H1 : Hp) (s' : Shared), Inv X pins σ H1 s' → Made H P (X.env.qual ++ "<lambda>") H1 → TabS H1 P (X.env.qual ++ "<lambda>") →
      s'.heap.get? f = some (PySem.W.kla_obj "<lambda>" (X.env.qual ++ "<lambda>") params body scope (cloFrom X.env.cells scope.names []) pm c' ctv) → H1 f = none → s.heap.objs.size ≤ f → H1 c' = some (CodeO c' (X.env.qual ++ "<lambda>")) → Q (.ref f) s') :
    wpAny (model X.prog X.w) X.A (eval (.Lambda params body scope pos) X.env) Q E s := by
  obtain ⟨ps, hP, ht, ha⟩ := id hT
  refine PySem.W.kla_eval hdef ?_
  have bP : s.heap.BuiltinsAt X.mg P := TB.bm.keeps I.bk
  have hP' : s.heap.get? P = some { cls := .none, data := .fields ps } := I.hok P _ hP
  cases hc : codeAmong pos ps.toList with
  | some cv =>
    obtain ⟨c', rfl, hco⟩ := ha pos cv hc
    refine PySem.W.kla_makeFunctionHit (mg := X.mg) (c := c) (P := P) (ps := ps) (closure_ok hfree) I.ok.glob (I.mod.glob.keeps I.bk) hcode (TB.code.keeps I.bk) hP' ht hc bP fun ctv h' tk hx hsz => ?_
    exact h h'.objs.size c' ((X.mg "__name__").getD .none) ctv H _ (I.kept fun b o e => Heap.get?_push_of_some _ (hx b o e)) (.inl rfl) hT (Heap.get?_push_size _ rfl) (I.hok.fresh hsz) hsz hco
  | none =>
    refine PySem.W.kla_makeFunction (mg := X.mg) (c := c) (P := P) (ps := ps) (closure_ok hfree) I.ok.glob (I.mod.glob.keeps I.bk) hcode (TB.code.keeps I.bk) hP' ht hc TB.gP bP fun c' ctv h' tk hx hge hlt hrec htb => ?_
    obtain ⟨c2, oc, vs, t, e2, hoc, hd, hv⟩ := hrec
    cases e2
    have hsz : s.heap.objs.size ≤ h'.objs.size := Nat.le_trans hge (Nat.le_of_lt hlt)
    have nC : H c' = none := I.hok.fresh hge
    have I1 := inv_table (t' := tk) (more := #[rawInt pos.line, rawInt pos.col, .ref c']) (h' := h'.push (PySem.W.kla_obj "<lambda>" (X.env.qual ++ "<lambda>") params body scope (cloFrom X.env.cells scope.names []) ((X.mg "__name__").getD .none) c' ctv)) I hP
      (fun b o hb e => Heap.get?_push_of_some _ (hx b o hb e)) (Heap.get?_push_of_some _ htb) hge ⟨oc, vs, t, Heap.get?_push_of_some _ hoc, hd, hv⟩
    have eL : (ps ++ #[rawInt pos.line, rawInt pos.col, .ref c']).toList = ps.toList ++ [rawInt pos.line, rawInt pos.col, .ref c'] := by simp
    refine h h'.objs.size c' ((X.mg "__name__").getD .none) ctv _ _ I1 (.inr ⟨ps, _, c', hP, nC, rfl⟩) ?_ (Heap.get?_push_size _ rfl) ?_ hsz upd_same
    · refine ⟨_, by rw [upd_ne (ne_of_none hP nC), upd_same], by rw [eL]; exact PySem.TriplesOk_snoc _ _ _ _ ht, fun p' cv hcv => ?_⟩
      rw [eL] at hcv
      rcases among_app _ ht hcv with q | q
      · obtain ⟨c0, e1, e2⟩ := ha p' cv q
        refine ⟨c0, e1, ?_⟩
        have n1 : c0 ≠ c' := ne_of_none e2 nC
        have n2 : c0 ≠ P := fun z => by
          rw [z, hP] at e2
          exact codeO_ne ps (Option.some.inj e2).symm
        rw [upd_ne n1, upd_ne n2]; exact e2
      · exact ⟨c', q, upd_same⟩
    · have n1 : h'.objs.size ≠ c' := Nat.ne_of_gt hlt
      have n2 : h'.objs.size ≠ P := Nat.ne_of_gt (Nat.lt_of_lt_of_le (Heap.lt_size hP') hsz)
      rw [upd_ne n1, upd_ne n2]
      exact I.hok.fresh hsz
end
section
variable {X : Cx} {z : Dx} {W : WX} {S S1 : SS} {G G1 H H1 : Hp} {pins : List (Addr × Obj)} {σ : L2.St} {s : Shared}
theorem tab_at {p : Addr × Str} (si : SI z S σ H G) (hp : p ∈ z.cl.T) : TabS H p.1 p.2 := by
  obtain ⟨t, e⟩ := si.tab p hp
  rcases si.le p.1 _ e with q | ⟨k, _⟩ | ⟨q, t', e2, h⟩
  · exact q.2.elim
  · exact k.elim
  · cases e2
    exact h

theorem made_si {p : Addr × Str} {H1 : Hp} (si : SI z S σ H G) (hp : p ∈ z.cl.T) (m : Made H p.1 p.2 H1) (t : TabS H1 p.1 p.2) : SI z S σ H1 G ∧ Go S S σ σ H H1 G G := by
  obtain ⟨tk, eG⟩ := si.tab p hp
  rcases m with rfl | ⟨ps, ps', c', hP, hc, rfl⟩
  · exact ⟨si, .refl⟩
  · have nPc : p.1 ≠ c' := ne_of_none hP hc
    have at_ : ∀ b, b ≠ p.1 → b ≠ c' → upd (upd H p.1 (.tbl ps')) c' (CodeO c' p.2) b = H b := fun b h1 h2 => by rw [upd_ne h2, upd_ne h1]
    have keep : ∀ b o, H b = some o → (∀ q, o ≠ .tbl q) → upd (upd H p.1 (.tbl ps')) c' (CodeO c' p.2) b = some o := fun b o e n => by
      rw [at_ b (fun z => by rw [z, hP] at e; exact n ps (Option.some.inj e).symm) (ne_of_none e hc)]; exact e
    have atP : upd (upd H p.1 (.tbl ps')) c' (CodeO c' p.2) p.1 = some (.tbl ps') := by rw [upd_ne nPc, upd_same]
    have none_ : ∀ b, upd (upd H p.1 (.tbl ps')) c' (CodeO c' p.2) b = none → H b = none := fun b e => NdefX.upd_none (NdefX.upd_none e)
    refine ⟨⟨si.len, fun a u e => ?_, si.shr, fun i t d e => ?_, si.sep, fun a e => si.dom a (none_ a e), si.tab⟩, .refl _, fun a o e n => ?_, fun _ h => .inl h, fun _ _ h => .inl h, fun a e => none_ a e⟩
    · rcases si.le a u e with q | ⟨k, o, q⟩ | ⟨q', t', e2, q⟩
      · exact .inl ⟨keep a u q.1 (fun ps z => by subst z; exact q.2), q.2⟩
      · exact .inr (.inl ⟨k, o, keep a _ q (fun ps z => nomatch z)⟩)
      · refine .inr (.inr ⟨q', t', e2, ?_⟩)
        by_cases ha : a = p.1
        · subst ha
          rw [eG] at e
          cases e
          cases e2
          exact t
        · obtain ⟨qs, g1, g2, g3⟩ := q
          refine ⟨qs, ?_, g2, fun pos cv hcv => ?_⟩
          · rw [at_ a ha (ne_of_none g1 hc)]; exact g1
          · obtain ⟨c0, g4, g5⟩ := g3 pos cv hcv
            exact ⟨c0, g4, keep c0 _ g5 codeO_ne⟩
    · obtain ⟨a, q, ga, ow, t1, t2⟩ := si.own i t d e
      exact ⟨a, q, ga, ow.mono (.refl _) fun o ho => keep a o ho (fun ps z => by subst z; exact own_not_tbl ow ho), t1, t2⟩
    · by_cases ha : a = p.1
      · subst ha
        rw [hP] at e; cases e
        exact .inr (.inr ⟨⟨_, eG⟩, ps, ps', rfl, atP⟩)
      · refine .inl ?_
        rw [at_ a ha (ne_of_none e hc)]; exact e

/-! ### the keys by the lambda -/
def capsD (S : SS) : List Nat → Option SS
  | [] => some []
  | j :: js => match S[j]?, capsD S js with
    | some (.shr d), some r => some (.shr d :: r)
    | some .un, some r => some (.un :: r)
    | _, _ => none
def lamS (n : Nat) (cs : SS) (d : D) : SS := .shr d :: (cs ++ List.replicate (n - 1 - cs.length) .un)
def keyL (n : Nat) (fb : M R) (cs : SS) (d : D) : Option D := match fb (lamS n cs d) with
  | .ok r S' => match valR S' r with
    | some (k, _) => some k
    | none => none
  | _ => none
def keysL (n : Nat) (fb : M R) (cs : SS) : List D → Option (List D)
  | [] => some []
  | d :: l => match keyL n fb cs d, keysL n fb cs l with
    | some k, some ks => some (k :: ks)
    | _, _ => none
theorem keysL_at {n : Nat} {fb : M R} {cs : SS} : ∀ {l ks : List D}, keysL n fb cs l = some ks → ks.length = l.length ∧ ∀ (i : Nat) d, l[i]? = some d → ∃ k, ks[i]? = some k ∧ keyL n fb cs d = some k
  | [], _, e => by cases e; exact ⟨rfl, fun i d h => by simp at h⟩
  | d :: l, ks, e => by
    unfold keysL at e
    split at e
    · rename_i k ks' e1 e2
      cases e
      obtain ⟨h1, h2⟩ := keysL_at e2
      refine ⟨by simp [h1], fun i d' h => ?_⟩
      cases i with
      | zero => simp at h; subst h; exact ⟨k, rfl, e1⟩
      | succ i => simpa using h2 i d' (by simpa using h)
    · cases e
theorem capsD_at : ∀ {js : List Nat} {cs : SS}, capsD S js = some cs → cs.length = js.length ∧ ∀ (i : Nat) w, cs[i]? = some w → (w = .un ∨ ∃ d, w = .shr d) ∧ ∃ j, js[i]? = some j ∧ S[j]? = some w
  | [], _, e => by cases e; exact ⟨rfl, fun i w h => by simp at h⟩
  | j :: js, cs, e => by
    unfold capsD at e
    split at e
    · rename_i d r e1 e2
      cases e
      obtain ⟨h1, h2⟩ := capsD_at e2
      refine ⟨by simp [h1], fun i w h => ?_⟩
      cases i with
      | zero => simp at h; subst h; exact ⟨.inr ⟨d, rfl⟩, j, rfl, e1⟩
      | succ i => simpa using h2 i w (by simpa using h)
    · rename_i r e1 e2
      cases e
      obtain ⟨h1, h2⟩ := capsD_at e2
      refine ⟨by simp [h1], fun i w h => ?_⟩
      cases i with
      | zero => simp at h; subst h; exact ⟨.inl rfl, j, rfl, e1⟩
      | succ i => simpa using h2 i w (by simpa using h)
    · cases e
noncomputable def sortLk (n : Nat) (js : List Nat) (fb : M R) (ra : R) (S1 : SS) : Res R := match lookLst S1 ra, capsD S1 js with
  | some l, some cs => match keysL n fb cs l with
    | none => .no
    | some ks => lift (sortR l ks) S1
  | _, _ => .no
noncomputable def sSortL (n : Nat) (js : List Nat) (fb fa : M R) : M R := fun S => (fa S).bind (sortLk n js fb)
theorem startF_at {N : List Str} {v : V} {ws : List (Option V)} {i : Nat} : (startF N [v] ws)[i]? = if i = 0 then some (some v) else if i < 1 + ws.length then ws[i - 1]? else if i < 1 + (ws.length + (N.length - 1 - ws.length)) then some none else none := by
  unfold startF
  cases i with
  | zero => rfl
  | succ i =>
    show (ws ++ List.replicate (N.length - 1 - ws.length) none)[i]? = _
    rw [if_neg (by omega)]
    by_cases h1 : i < ws.length
    · rw [List.getElem?_append_left h1, if_pos (by omega)]; rfl
    · rw [List.getElem?_append_right (by omega), if_neg (by omega), List.getElem?_replicate]
      by_cases h2 : i - ws.length < N.length - 1 - ws.length
      · rw [if_pos h2, if_pos (by omega)]
      · rw [if_neg h2, if_neg (by omega)]
/-- the slots at the lambda's start -/
theorem lam_si {n : Nat} {cs : SS} {js : List Nat} {N : List Str} {d : D} {v : V} (si : SI z S σ H G) (hn : N.length = n) (hc : capsD S js = some cs) (rv : Rep z G v d) : SI ⟨z.K, z.cl, [], H⟩ (lamS n cs d) (startF N [v] (js.map (NdefX.slotAt σ))) H G := by
  obtain ⟨l1, hat⟩ := capsD_at hc
  have lw : (js.map (NdefX.slotAt σ)).length = cs.length := by rw [List.length_map, l1]
  have get : ∀ (i : Nat) w, (lamS n cs d)[i]? = some w → (i = 0 ∧ w = .shr d) ∨ (0 < i ∧ w = .un) ∨ (0 < i ∧ i - 1 < cs.length ∧ cs[i - 1]? = some w) := fun i w h => by
    cases i with
    | zero => exact .inl ⟨rfl, (Option.some.inj h).symm⟩
    | succ i =>
      have h : (cs ++ List.replicate (n - 1 - cs.length) AV.un)[i]? = some w := h
      by_cases hi : i < cs.length
      · rw [List.getElem?_append_left hi] at h
        exact .inr (.inr ⟨Nat.succ_pos _, hi, h⟩)
      · rw [List.getElem?_append_right (by omega), List.getElem?_replicate] at h
        split at h
        · exact .inr (.inl ⟨Nat.succ_pos _, (Option.some.inj h).symm⟩)
        · cases h
  have noown : ∀ (i : Nat) t d', (lamS n cs d)[i]? ≠ some (.own t d') := fun i t d' h => by
    rcases get i _ h with ⟨_, e⟩ | ⟨_, e⟩ | ⟨_, _, e⟩
    · cases e
    · cases e
    · rcases (hat _ _ e).1 with z | ⟨_, z⟩ <;> cases z
  refine ⟨?_, si.le, fun i d' h => ?_, fun i t d' h => absurd h (noown i t d'), fun i j ti di tj dj a h => absurd h (noown i ti di), fun a h => h, si.tab⟩
  · unfold lamS startF
    simp [lw, hn]
  · rcases get i _ h with ⟨rfl, e⟩ | ⟨_, e⟩ | ⟨h0, h1, e⟩
    · cases e
      exact ⟨v, by rw [startF_at, if_pos rfl], Rep.ab rv⟩
    · cases e
    · obtain ⟨_, j, hj, hS⟩ := hat _ _ e
      obtain ⟨v', hv, r⟩ := si.shr j d' hS
      refine ⟨v', ?_, Rep.ab r⟩
      rw [startF_at, if_neg (by omega), if_pos (by omega), List.getElem?_map, hj]
      show some (NdefX.slotAt σ j) = _
      rw [NdefX.slotAt_of hv]

/-- a key call of the lambda -/
theorem keyL_turn {k : Nat} {F : NF} {f : Addr} {N fr : List Str} {xp : Str} {js : List Nat} {params : Arguments} {body : Expr} {pm ctv : Value} {n : Nat} {fb : M R} {cs : SS} (SC : NScope N [xp] fr F.scope) (hn : N.length = n) (cp : X.Ok → Caps X F.cl fr js) (hk : z.K = X.K) (hr : Room (k + 3) X.A)
    (hbind : ∀ u : Value, bindArgs (PySem.W.kla_fn "<lambda>" F.qual params body F.scope F.cl pm (.ref F.c) ctv) ⟨[u], []⟩ = pure [(xp, u)])
    (hb : ∀ (A : Around) (outer : List Env) (s : Shared) (H : Hp) (z' : Dx), z'.cl = z.cl → Room k (A.deeper (envF F f s.heap.objs.size)) → Ct (ncx L2.CX0 X.prog X.w X.K X.mg X.base N F f A outer s H L2.E0) z' W0 → E (ncx L2.CX0 X.prog X.w X.K X.mg X.base N F f A outer s H L2.E0) z' W0 body fb)
    (H0 G0 : Hp) {l ks : List D} (hks : keysL n fb cs l = some ks) (hcs : capsD S js = some cs) {us : List Value} {xs : List V} (rv : Vals xs us) (rl : RepL z G0 xs l) (pins0 : List (Addr × Obj)) :
    ∀ (i : Nat) (u : Value) (H1 : Hp) (vs : List V) (s1 : Shared) (pins1 : List (Addr × Obj)), us[i]? = some u → KeyP z W S σ H0 G0 ks (fun H => H F.c = some (CodeO F.c F.qual)) i H1 vs → (∀ p ∈ pins0 ++ [(f, PySem.W.kla_obj "<lambda>" F.qual params body F.scope F.cl pm F.c ctv)], p ∈ pins1) → Inv X pins1 σ H1 s1 →
      wpAny (model X.prog X.w) X.A.in1.in1 (call (.ref f) [u]) (fun kv s2 => ∃ v H2, Inv X pins1 σ H2 s2 ∧ RelV v kv ∧ KeyP z W S σ H0 G0 ks (fun H => H F.c = some (CodeO F.c F.qual)) (i + 1) H2 (vs ++ [v])) (fun _ _ => False) s1 := by
  intro i u H1 vs s1 pins1 hu ⟨G1, si, g, rk, hco⟩ hp I1
  obtain ⟨x0, hx0, rx0⟩ : ∃ x0, xs[i]? = some x0 ∧ RelV x0 u := by
    have hi := (List.getElem?_eq_some_iff.mp hu).1
    have hl := rv.length
    obtain ⟨u', e1, e2⟩ := rv.get (i := i) (x := xs[i]'(by omega)) (List.getElem?_eq_getElem (by omega))
    rw [hu] at e1; cases e1
    exact ⟨_, List.getElem?_eq_getElem (by omega), e2⟩
  obtain ⟨d, hd, rd⟩ := rl.got hx0
  obtain ⟨_, hat⟩ := keysL_at hks
  obtain ⟨kd, hkd, hF⟩ := hat i d hd
  have of := (I1.pin _ (List.mem_append_right _ (hp _ (List.mem_append_right _ List.mem_cons_self)))).1
  have of : s1.heap.get? f = some (PySem.W.kla_obj "<lambda>" F.qual params body F.scope F.cl pm F.c ctv) := of
  have hr2 : Room (k + 1) X.A.in1.in1 := hr.in1.in1
  have e0 := I1.env0.in1.in1
  have C := cells_of I1 (cp I1.ok)
  refine wpAny_call (codeAny_mono (R := CR L2.CX0 X.stack X.prog X.w H1 s1 (fun v H2 => ∃ G2, Around' [] H1 H2 G1 G2 ∧ Rep z G2 v kd) L2.E0) ?_ fun r s' hq => ?_)
  · refine PySem.W.kla_callFunE hr2.depth of rfl SC.co SC.gen rfl (codeO_at I1.hok hco) ?_
    rw [hbind]
    refine wpAny_pure (wpAny_newFunctionEnv (binds := [(xp, u)]) SC.nocell (fun ⟨n', u'⟩ hy => SC.par n' (List.of_mem_zip (show (n', u') ∈ [xp].zip [u] from hy)).1) (fun h₁ hns hsb => ⟨I1.nolimit.fresh _ hsb, ?_⟩) SC.kind)
    show codeAny _ _ (.expr body (envF F f s1.heap.objs.size)) _ _
    have kp : ∀ b o, s1.heap.get? b = some o → h₁.get? b = some o := fun b o e => hsb.extBut b o (Nat.ne_of_lt (Heap.lt_size e)) (Heap.get?_push_of_some _ e)
    have J : Inv (ncx L2.CX0 X.prog X.w X.K X.mg X.base N F f X.A.in1.in1 X.stack s1 H1 L2.E0) [] (startF N [x0] (js.map (NdefX.slotAt σ))) H1 { s1 with heap := h₁, toks := s1.toks + ([(xp, u)] : List (Str × Value)).length } :=
      inv_startN (ps := [xp]) (us := [u]) SC hr2.hd e0 rfl (.cons rx0 .nil) C hns kp
    have hct : Ct (ncx L2.CX0 X.prog X.w X.K X.mg X.base N F f X.A.in1.in1 X.stack s1 H1 L2.E0) ⟨z.K, z.cl, [], H1⟩ W0 := ⟨hk, rfl, passes_of rfl, takes0, SC.nd⟩
    have bd := hb X.A.in1.in1 X.stack s1 H1 ⟨z.K, z.cl, [], H1⟩ rfl (hr2.deeper _) hct
    have sl := lam_si (n := n) (N := N) si hn hcs (rd.mono g.ge)
    unfold keyL at hF
    refine PySem.W.kla_codeExpr (wpAny_mono (bd.pe.run [] _ _ H1 (fun v H2 => ∃ G2, Around' [] H1 H2 G1 G2 ∧ Rep z G2 v kd) J ⟨lamS n cs d, G1, sl, ?_⟩) (fun v s' hq => ?_) fun e s' hq => hq)
    · split at hF
      · rename_i r S' er
        rw [er]
        intro v H2 G2 si2 g2 dn
        cases ev : valR S' r with
        | none => rw [ev] at hF; cases hF
        | some q =>
          obtain ⟨k', S2⟩ := q
          rw [ev] at hF
          cases hF
          obtain ⟨G3, si3, g3, r3⟩ := valR_go si2 g2 dn ev
          have no : ∀ a, ¬ Owns (lamS n cs d) (startF N [x0] (js.map (NdefX.slotAt σ))) a := fun a ⟨j, t, d', e1, e2⟩ => by
            obtain ⟨b, e3, _⟩ := sl.own j t d' e1
            obtain ⟨ga, o, ho⟩ := sl.ownFree ⟨j, t, d', e1, e2⟩
            obtain ⟨_, _, _, _, _, t2⟩ := sl.own j t d' e1
            cases t with
            | none =>
              obtain ⟨b', e4, _, _, _, t3⟩ := sl.own j none d' e1
              rw [e2] at e4; cases e4
              have := t3 rfl
              rw [show (⟨z.K, z.cl, [], H1⟩ : Dx).B a = H1 a from rfl] at this
              rw [this] at ho; cases ho
            | some m =>
              obtain ⟨b', e4, _, _, t3, _⟩ := sl.own j (some m) d' e1
              have := t3 m rfl
              simp at this
          exact ⟨G3, ⟨g3.ge, si3.le, fun a o e _ => g3.fr a o e (no a), g3.th, fun a u e => (g3.nw a u e).imp id fun q => q.elim id fun q => absurd q (no a)⟩, Rep.ab r3⟩
      · cases hF
    · obtain ⟨w, H2, J2, rw', q⟩ := hq
      exact ⟨w, H2, J2.os, J2.bare, J2.base, J2.hok, rw', q⟩
  · cases r with
    | error e => exact (show False from hq).elim
    | ok fl =>
      cases fl with
      | ret w =>
        obtain ⟨v, H2, I2, rv2, G2, ar, dn⟩ := I1.after hq
        obtain ⟨s3, g3⟩ := key_after si ar
        refine ⟨v, H2, I2, rv2, G2, s3, g.trans g3, ?_, (ar.fr _ _ hco (by simp)).eq fun z => z⟩
        have et : ks.take (i + 1) = ks.take i ++ [kd] := by rw [List.take_add_one, hkd]; rfl
        rw [et]
        exact (rk.mono g3.ge).append (.cons dn .nil)
      | next => exact False.elim hq
      | brk => exact False.elim hq
      | cont => exact False.elim hq
end
end L2.Dl
/-! sorted(xs, key=lambda x: ..), the rule. -/
namespace L2.Dl
open PySem PySem.Spec PyProof.Rows LamX NdefX
section
variable {X : Cx} {z : Dx} {W : WX}
theorem E_sortL {k : Nat} {cc P : Addr} {N fr : List Str} {xp : Str} {js : List Nat} {params : Arguments} {body a : Expr} {scope : Scope} {n : Nat} {fa fb : M R} {nm : Option Str} {p lpos kpos pos : Pos} (ha : E X z W a fa) (TB : TabB X.base X.mg cc P) (hcode : X.env.code = .ref cc) (hT : (P, X.env.qual ++ "<lambda>") ∈ z.cl.T)
    (hm : X.mg "sorted" = none) (hr : Room (k + 3) X.A) (SC : NScope N [xp] fr scope) (hn : N.length = n) (hjs : js.map (fun j => X.N[j]?) = fr.map some)
    (hfS : ∀ y ∈ scope.names, y.2 = .free → X.env.scope.names.lookup y.1 = some .cell ∨ X.env.scope.names.lookup y.1 = some .free) (hfr : ∀ y ∈ fr, (y, NameKind.free) ∈ scope.names)
    (hb : ∀ (c' f : Addr) (A : Around) (outer : List Env) (s : Shared) (H : Hp) (z' : Dx), z'.cl = z.cl → Room k (A.deeper (envF ⟨"<lambda>", X.env.qual ++ "<lambda>", params, [], scope, cloFrom X.env.cells scope.names [], c'⟩ f s.heap.objs.size)) →
      Ct (ncx L2.CX0 X.prog X.w X.K X.mg X.base N ⟨"<lambda>", X.env.qual ++ "<lambda>", params, [], scope, cloFrom X.env.cells scope.names [], c'⟩ f A outer s H L2.E0) z' W0 →
      E (ncx L2.CX0 X.prog X.w X.K X.mg X.base N ⟨"<lambda>", X.env.qual ++ "<lambda>", params, [], scope, cloFrom X.env.cells scope.names [], c'⟩ f A outer s H L2.E0) z' W0 body fb)
    (hbind : ∀ (cl : List (Str × Addr)) (c' : Addr) (pm ctv u : Value), bindArgs (PySem.W.kla_fn "<lambda>" (X.env.qual ++ "<lambda>") params body scope cl pm (.ref c') ctv) ⟨[u], []⟩ = pure [(xp, u)] := by intro _ _ _ _ _; rfl)
    (hdef : defaultsOf params X.env = ([], []) := by rfl) (hg : Gl X "sorted" := by rfl)
    (hs : starEach [a] X.env = (false, eval a X.env) :: starEach [] X.env := by rfl)
    (he : backTo pos (starEach [a] X.env) = (false, eval a X.env) :: backTo pos (starEach [] X.env) := by rfl) (hpl : (backTo pos (starEach [a] X.env)).any (·.1) = false := by rfl)
    (hall : (backToKw pos (keywordEach [⟨nm, .Lambda params body scope lpos, kpos⟩] X.env)).all (·.1.isSome) = true := by rfl) (hnone : (backToKw pos (keywordEach [⟨nm, .Lambda params body scope lpos, kpos⟩] X.env)).any (·.1.isNone) = false := by rfl)
    (hks : (backToKw pos (keywordEach [⟨nm, .Lambda params body scope lpos, kpos⟩] X.env)).filterMap (·.1) = [Str.ofString "key"] := by rfl) :
    E X z W (.Call (.Name "sorted" p) [a] [⟨nm, .Lambda params body scope lpos, kpos⟩] pos) (sSortL n js fb fa) := by
  refine ⟨⟨fun pins s σ H Q I ⟨S, G, si, h⟩ => ?_⟩, ha.k⟩
  refine wpAny_Call_Name_kw (ld_blt I hg hm boot_sorted ?_ (by decide) (by decide))
  refine PyProof.Rows.callWith_kw (thn ((pa_cons ha.pe pa_nil hs).run pos pins s σ H (fun vs H1 => ∃ x, vs = [x] ∧ ∃ ra S1 G1, SI z S1 σ H1 G1 ∧ Go S S1 σ σ H H1 G G1 ∧ DenS z σ G1 x ra ∧ Post z W S1 G1 H1 σ Q (sortLk n js fb ra S1)) I ((step si h).mono fun x H1 q => ⟨x, rfl, q⟩)) fun us s1 ⟨vs, H1, I1, r1, q1⟩ => ?_) he hpl hall hnone
  obtain ⟨x0, rfl, ra, S1, G1, si1, g1, dn, h1⟩ := q1
  show wpAny _ _ (evalAll ((do let v ← eval (.Lambda params body scope lpos) X.env; standAt pos; pure v) :: (backToKw pos (keywordEach [] X.env)).map (·.2))) _ _ s1
  have hfree : ∀ y ∈ scope.names, y.2 = .free → ∃ c, X.env.cells.lookup y.1 = some c := fun y hy e => (hfS y hy e).elim (fun q => I1.ok.has _ (.inl q)) fun q => I1.ok.has _ (.inr q)
  refine wpAny_evalAll_cons (wpAny_bind (lam_makeX I1 TB hcode (tab_at si1 hT) hdef hfree fun f c' pm ctv H2 s2 I2 md tb of hf hge hco => wpAny_bind (wpAny_standAt (wpAny_pure ?_))))
  refine wpAny_evalAll_nil ?_
  rw [hks]
  show wpAny (model X.prog X.w) X.A (call (.builtin "sorted") us [(Str.ofString "key", .ref f)]) (EP X pins σ Q) X.xe s2
  obtain ⟨si2, g2⟩ := made_si si1 hT md tb
  unfold sortLk at h1
  cases el : lookLst S1 ra with
  | none => rw [el] at h1; exact h1.elim
  | some l =>
    cases ec : capsD S1 js with
    | none => rw [el, ec] at h1; exact h1.elim
    | some cs =>
      rw [el, ec] at h1
      simp only at h1
      cases ek : keysL n fb cs l with
      | none => rw [ek] at h1; exact h1.elim
      | some ks =>
        rw [ek] at h1
        simp only at h1
        obtain ⟨a0, xs, rfl, ha0, rl⟩ := ((dn.mono g2.ge).view si2 (lookLst_eq el)).lst si2.le
        obtain ⟨its, rv, pl, hz⟩ := I2.list (SqL.of (K := X.K) ha0)
        obtain rfl := Vals.ref1 r1
        have hu := hr.un
        have hkl : its.length = ks.length := by rw [← rv.length, rl.length, (keysL_at ek).1]
        obtain ⟨f0, f1, f2, f3, f4, f5⟩ := I1.fpOk hge hf
        have I3 : Inv X (pins ++ [(f, PySem.W.kla_obj "<lambda>" (X.env.qual ++ "<lambda>") params body scope (cloFrom X.env.cells scope.names []) pm c' ctv)]) σ H2 s2 := I2.pins_of fun q hq => (List.mem_append.mp hq).elim (fun w => I2.pin q (List.mem_append_right _ w)) fun w => by
          obtain rfl : q = _ := List.mem_singleton.mp w
          exact ⟨of, f0, f1, f2, fun v e => nomatch e⟩
        refine thn (sortK_run I3 (by omega) pl.isList (by rw [← rv.length]; exact hz) (stands_all rv rl) (PyProof.Rows.ksk_s1 _ _) (fun _ => PyProof.Rows.ksk_l1 _ _) (fun a => PyProof.Rows.ksk_t1 f a)
          (KeyP z W S1 σ H2 G1 ks (fun H => H c' = some (CodeO c' (X.env.qual ++ "<lambda>")))) ⟨G1, si2, .refl, by rw [List.take_zero]; exact .nil, hco⟩
          (keyL_turn (F := ⟨"<lambda>", X.env.qual ++ "<lambda>", params, [], scope, cloFrom X.env.cells scope.names [], c'⟩) SC hn (fun ok => Caps.made ok hfS hfr hjs) ha.k hr (fun u => hbind _ _ _ _ u) (fun A outer s H z' hcl hrr ct => hb c' f A outer s H z' hcl hrr ct) H2 G1 ek ec rv rl pins)
          (sort_fin ha.k hkl (Post.from h1 g2))) fun v s3 ⟨w, H3, I4, rw', q⟩ => ⟨w, H3, I4.unpinned, rw', q⟩
end
end L2.Dl
/-! What the printed derivations use: calls by name, stores of comprehensions. -/
namespace L2.Dl
open PySem PySem.Spec PyProof.Rows

section
variable {X : Cx} {z : Dx} {W : WX}
theorem sw_trueD {kx vx : Expr} {gs : List Comprehension} {scope : Scope} {pos py : Pos} {y : Str} {l : Nat} {env : Env} (hk : env.scope.kind = .function) (hy : env.scope.names.lookup y = some .local) (hl : (py.line == pos.line) = true)
    (ha : (scope.names.any fun (n, k) => n == y && (k == .local || k == .cell)) = false) : swapsWith (.DictComp kx vx gs scope pos) (some (.Name y py)) l env = pure true := by
  have ky : env.kindOf y = some .local := hy
  have hb : env.blockKind = .function := by unfold Env.blockKind; rw [hk]; rfl
  unfold swapsWith
  simp only [hb, ky, ha, Expr.pos, hl]
  rfl
theorem ps_setDc {i : Nat} {y : Str} {py : Pos} {kx vx tg iter : Expr} {ifs : List Expr} {scope : Scope} {own : List (Str × Nat)} {pos spos : Pos} {wi : TI} {g : TG} {tt : TT} {tk te : TE} (hc : X.calm = true) (hN : X.N.Nodup) (hy : X.N[i]? = some y) (hyl : X.env.scope.names.lookup y = some .local)
    (hsw : swapsWith (.DictComp kx vx [⟨tg, iter, ifs, 0⟩] scope pos) (some (.Name y py)) spos.line X.env = pure true) (hi : PI X tg iter wi) (ok : BlkOk X.N X.env.scope scope own)
    (hg : ∀ (s : Shared) (H : Hp) (C : Addr) (cl : List (Str × Addr)) (fp : List Addr), PG (X.blk s H scope (compEnvC scope cl C X.env) fp) tg g) (ht : ∀ (s : Shared) (H : Hp) (C : Addr) (cl : List (Str × Addr)) (fp : List Addr), PTs (X.blk s H scope (compEnvC scope cl C X.env) fp) ifs tt)
    (hk : ∀ (s : Shared) (H : Hp) (C : Addr) (cl : List (Str × Addr)) (fp : List Addr), PE (X.blk s H scope (compEnvC scope cl C X.env) fp) kx tk)
    (he : ∀ (s : Shared) (H : Hp) (C : Addr) (cl : List (Str × Addr)) (fp : List Addr), PE (X.blk s H scope (compEnvC scope cl C X.env) fp) vx te) (hs : ∀ x, foldedSetIterable iter X.env x = pure x := by intro _; rfl) :
    PS X (.Assign [.Name y py] (.DictComp kx vx [⟨tg, iter, ifs, 0⟩] scope pos) spos) (tAsg (tDc wi g tt tk te (own.map (·.2))) (gName i)) := by
  refine ⟨fun pins s σ H D I h => ?_⟩
  rw [exec_Assign_Name_used _ _ _ _ hsw]
  refine wpAny_bind (wpAny_standAt (wpAny_bind ?_))
  show wpAny _ X.A (do let _ ← comprehension (.DictComp kx vx [⟨tg, iter, ifs, 0⟩] scope pos) scope X.env (firstIterPos [⟨tg, iter, ifs, 0⟩] pos) newDict false (eval iter X.env) (some (assign (.Name y py) X.env))) _ _ s
  have h : tDc wi g tt tk te (own.map (·.2)) σ H (fun x H1 => gName i x σ H1 D.nx) := h
  refine wpAny_bind (thn (dc_core (Qf := fun _ s' => SP X pins D .next s') hc hN I hi ok hg ht hk he hs h fun L C s' m H' I' q hn f => ?_) fun _ s' hq => wpAny_pure (wpAny_pure hq))
  show wpAny _ _ (assign (.Name y py) X.env (.ref L)) _ _ _
  refine wpAny_assign_Name (store_ok2 (v := V.ref L) I' hN hy (.inl hyl) rfl (fun s2 I2 ⟨a, sb, ha⟩ => ?_) (.inr hyl))
  obtain ⟨f0, f1, f2, f3, f4, f5⟩ := f
  have haC : C ≠ a := by
    rcases ha with w | w
    · rw [w]; exact f1
    · exact fun e => f4 y a w e.symm
  exact ⟨m, hn.sameBut sb haC, fun h3 sb3 => ⟨_, H', I2.turned (t' := s2.toks) (fun b o hb e => (sb3.2 b hb).trans e) f0 f1 f3 f4 f5, q⟩⟩
theorem S_setDc {i : Nat} {y : Str} {py : Pos} {kx vx tg iter : Expr} {ifs : List Expr} {scope : Scope} {own : List (Str × Nat)} {pos spos : Pos} {fi : M (List D)} {ix : List Nat} {g : D → SS → Option SS} {ft : M Bool} {fk fe : M R} (c : Ct X z W) (hi : IT X z W tg iter fi) (ok : BlkOk X.N X.env.scope scope own)
    (hix : ∀ i ∈ ix, i ∈ own.map (·.2)) (hg : ∀ (s : Shared) (H : Hp) (C : Addr) (cl : List (Str × Addr)) (fp : List Addr), Tg (X.blk s H scope (compEnvC scope cl C X.env) fp) z tg ix g)
    (ht : ∀ (s : Shared) (H : Hp) (C : Addr) (cl : List (Str × Addr)) (fp : List Addr), Ts (X.blk s H scope (compEnvC scope cl C X.env) fp) z W0 ifs ft)
    (hk : ∀ (s : Shared) (H : Hp) (C : Addr) (cl : List (Str × Addr)) (fp : List Addr), E (X.blk s H scope (compEnvC scope cl C X.env) fp) z W0 kx fk)
    (he : ∀ (s : Shared) (H : Hp) (C : Addr) (cl : List (Str × Addr)) (fp : List Addr), E (X.blk s H scope (compEnvC scope cl C X.env) fp) z W0 vx fe)
    (hy : X.N[i]? = some y := by rfl) (hyl : X.env.scope.names.lookup y = some .local := by rfl) (hkk : X.env.scope.kind = .function := by rfl) (hl : (py.line == pos.line) = true := by rfl)
    (ha : (scope.names.any fun (n, k) => n == y && (k == .local || k == .cell)) = false := by rfl) (hs : ∀ x, foldedSetIterable iter X.env x = pure x := by intro _; rfl) :
    Sm X z W (.Assign [.Name y py] (.DictComp kx vx [⟨tg, iter, ifs, 0⟩] scope pos) spos) (sAsg i (sDc (own.map (·.2)) fi g ft fk fe)) :=
  ⟨PS.le (ps_setDc c.calm c.nd hy hyl (sw_trueD hkk hyl hl ha) hi.pi ok (fun s H C cl fp => (hg s H C cl fp).pg) (fun s H C cl fp => (ht s H C cl fp).pt) (fun s H C cl fp => (hk s H C cl fp).pe) (fun s H C cl fp => (he s H C cl fp).pe) hs) fun D σ H ⟨S, G, si, h⟩ => dc_run hix (sAsg_run si h)⟩
theorem S_setLcN {i : Nat} {y : Str} {py : Pos} {elt tg iter : Expr} {ifs : List Expr} {scope : Scope} {own : List (Str × Nat)} {pos spos : Pos} {fi : M (List D)} {ix : List Nat} {g : D → SS → Option SS} {ft : M Bool} {fe : M R} (c : Ct X z W) (hi : IT X z W tg iter fi) (ok : BlkOk X.N X.env.scope scope own)
    (hix : ∀ i ∈ ix, i ∈ own.map (·.2)) (hg : ∀ (s : Shared) (H : Hp) (C : Addr) (cl : List (Str × Addr)) (fp : List Addr), Tg (X.blk s H scope (compEnvC scope cl C X.env) fp) z tg ix g)
    (ht : ∀ (s : Shared) (H : Hp) (C : Addr) (cl : List (Str × Addr)) (fp : List Addr), Ts (X.blk s H scope (compEnvC scope cl C X.env) fp) z W0 ifs ft)
    (he : ∀ (s : Shared) (H : Hp) (C : Addr) (cl : List (Str × Addr)) (fp : List Addr), E (X.blk s H scope (compEnvC scope cl C X.env) fp) z W0 elt fe)
    (hy : X.N[i]? = some y := by rfl) (hyl : X.env.scope.names.lookup y = some .local := by rfl) (hkk : X.env.scope.kind = .function := by rfl) (hl : (py.line == pos.line) = true := by rfl)
    (ha : (scope.names.any fun (n, k) => n == y && (k == .local || k == .cell)) = false := by rfl) (hs : ∀ x, foldedSetIterable iter X.env x = pure x := by intro _; rfl) :
    Sm X z W (.Assign [.Name y py] (.ListComp elt [⟨tg, iter, ifs, 0⟩] scope pos) spos) (sAsg i (sLc (own.map (·.2)) fi g ft fe)) :=
  S_setLc c hy hyl (sw_true hkk hyl hl ha) hi ok hix hg ht he hs
/-- a def that is called by its name: its promise by data -/
structure Cl (P : Program) (w : World) (K : PySem.W.Frag) (mg : Str → Option Value) (base : Heap) (br : Brings) (x : Str) (ps : List Str) (md : List Bool) (k : Nat) (Fn : List D → FR) : Prop where
  ex : ∃ f fd, FnOk P w K mg base (L2.CX P w) k f fd ps (spD br K md Fn) ∧ mg x = some (.ref f) ∧ PySem.W.keepIn K (.ref f) = true ∧ Binds K fd ps []
section
variable {br : Brings} {ps : List Str} {md : List Bool} {j k : Nat} {Fn : List D → FR} {x : Str} {e : Expr} {es : List Expr} {p pos : Pos} {fl : M (List R)}
theorem E_cl (c : Ct X z W) (h : Cl X.prog X.w X.K X.mg X.base br x ps md j Fn) (hcl : z.cl = br) (hr : Room k X.A) (hl : L X z W (e :: es) fl) (hj : j ≤ k := by decide) (hg : Gl X x := by rfl) (hdb : (x == ("__debug__" : Str)) = false := by decide)
    (he : starEach (e :: es) X.env = (false, eval e X.env) :: starEach es X.env := by rfl) (hpl : (backTo pos (starEach es X.env)).any (·.1) = false := by rfl) : E X z W (.Call (.Name x p) (e :: es) [] pos) (callM md Fn fl) := by
  obtain ⟨f, fd, F, hm, hk, hb⟩ := h.ex
  exact E_call c F hcl (hr.mono hj) hg hm hk hb hl hdb he hpl
theorem E_cl0 (c : Ct X z W) (h : Cl X.prog X.w X.K X.mg X.base br x ps md j Fn) (hcl : z.cl = br) (hr : Room k X.A) (hj : j ≤ k := by decide) (hg : Gl X x := by rfl) (hdb : (x == ("__debug__" : Str)) = false := by decide) : E X z W (.Call (.Name x p) [] [] pos) (callM md Fn sNil) := by
  obtain ⟨f, fd, F, hm, hk, hb⟩ := h.ex
  exact E_call0 c F hcl (hr.mono hj) hg hm hk hb hdb
end
theorem E_gintX {x : Str} {n : Int} {pos : Pos} (hk : z.K = X.K) (hm : ∃ t, X.mg x = some (.int n t)) (hg : Gl X x := by rfl) (hd : (x == ("__debug__" : Str)) = false := by decide) : E X z W (.Name x pos) (sV (.int n)) := by
  obtain ⟨t, h⟩ := hm
  exact E_gint hk hg h hd
theorem E_gstrX {x n : Str} {pos : Pos} (hk : z.K = X.K) (hm : ∃ t, X.mg x = some (.str n t)) (hg : Gl X x := by rfl) (hd : (x == ("__debug__" : Str)) = false := by decide) : E X z W (.Name x pos) (sV (.str n)) := by
  obtain ⟨t, h⟩ := hm
  exact E_gstr hk hg h hd
theorem hu1 {k : Nat} {A : Around} (r : Room k A) : A.units + 1 < cLine := by have := r.un; omega
theorem hu70 {k : Nat} {A : Around} (r : Room k A) : A.units + 70 < cLine := by have := r.un; omega
/-- the built-ins stand free -/
def Free (mg : Str → Option Value) (xs : List Str) : Prop := ∀ x ∈ xs, mg x = none
end
/-- not, as a value -/
noncomputable def notD (d : D) : Option R := d.truth.map fun k => .v (.bl (!k))
theorem capS_by {sc scope : Scope} (h : ∀ y ∈ scope.names, y.2 = .free → sc.names.lookup y.1 = some .cell ∨ sc.names.lookup y.1 = some .free) :
    ∀ y ∈ scope.names, y.2 = .free → sc.names.lookup y.1 = some .cell ∨ sc.names.lookup y.1 = some .free := h
end L2.Dl
/-! The end of a law: the promise of its def by data, the head's tables. -/
namespace L2.Dl
open PySem PySem.Spec PyProof.Rows LamX
/-- a def's code object -/
theorem code_of {K : PySem.W.Frag} {x qual : Str} {params : Arguments} {body : List Stmt} {scope : Scope} {dvs : List V} {kws : List (Str × V)} {p : He.Defn} {fd : FuncData} (F : FunD K x qual params body scope dvs kws (He.fAd K p) fd) :
    fd.code = .ref (He.cT K p).1 := by
  obtain ⟨oc, od, dV, kV, doc, pm, an, cdv, ct, osl, rfl, lk, hcd, _, _⟩ := F.ex
  obtain ⟨c, rfl⟩ := He.codeIn_ref hcd
  have e := He.codeOf_eq lk (c := c) rfl
  show Value.ref c = .ref (He.codeOf K p)
  rw [e]
/-- what the text brings: its classes by name, the tables of the defs tf -/
def brOf (K : PySem.W.Frag) (cls : List Str) (tf : List (He.Defn × Str)) : Brings := ⟨fun i => He.ga K (cls.getD i ""), tf.map fun p => ((He.cT K p.1).2, p.2)⟩
theorem lookup_some {T : List (Addr × Str)} {p : Addr × Str} (nd : (T.map (·.1)).Nodup) (h : p ∈ T) : T.lookup p.1 = some p.2 := by
  induction T with
  | nil => cases h
  | cons q T ih =>
    obtain ⟨a, s⟩ := q
    rcases List.mem_cons.mp h with e | e
    · rw [e]; simp [List.lookup]
    · have ne : (p.1 == a) = false := by
        rw [beq_eq_false_iff_ne]
        intro z
        have := (List.nodup_cons.mp nd).1
        exact this (z ▸ List.mem_map.mpr ⟨p, e, rfl⟩)
      simp only [List.lookup, ne]
      exact ih (List.nodup_cons.mp nd).2 e
theorem mem_of_lookup {T : List (Addr × Str)} {a : Addr} {q : Str} (h : T.lookup a = some q) : (a, q) ∈ T := by
  induction T with
  | nil => cases h
  | cons p T ih =>
    obtain ⟨b, s⟩ := p
    simp only [List.lookup] at h
    split at h
    · rename_i e
      cases h
      rw [beq_iff_eq.mp e]
      exact List.mem_cons_self
    · exact List.mem_cons_of_mem _ (ih h)
/-- the shared heap at the law's entry -/
def G0 (T : List (Addr × Str)) (a : Addr) (u : Option HO) : Hp := fun b => match T.lookup b with
  | some q => some (.tbl #[.str q 0])
  | none => if b = a then u else none
theorem G0_le {T : List (Addr × Str)} {a : Addr} {u : Option HO} {H : Hp} (hT : ∀ p ∈ T, H p.1 = some (.tbl #[])) (hu : ∀ o, u = some o → H a = some o ∧ NT o) : LeH (G0 T a u) H := by
  intro b o h
  unfold G0 at h
  cases e : T.lookup b with
  | some q =>
    rw [e] at h
    cases h
    refine .inr (.inr ⟨q, 0, rfl, #[], hT _ (mem_of_lookup e), ?_, fun pos cv z => ?_⟩)
    · simp [TriplesOk]
    · simp [codeAmong] at z
  | none =>
    rw [e] at h
    simp only at h
    split at h
    · rename_i eb
      rw [eb]
      exact .inl (hu o h)
    · cases h
theorem law_spD {K : PySem.W.Frag} {br : Brings} {Fn : List D → FR} {H : Hp} {a : Addr} {ns : List Int} {io : List D} (nd : (br.T.map (·.1)).Nodup) (hT : ∀ p ∈ br.T, H p.1 = some (.tbl #[])) (hS : SqL K H a (ns.map V.int)) (hF : Fn [.scr ns] = .ret (.bl true) false io) :
    spD br K [false] Fn [.ref a] H (fun v _ => v = .bl true) fun _ _ _ => False := by
  have key : ∃ u : Option HO, (∀ o, u = some o → H a = some o ∧ NT o) ∧ SqL K (G0 br.T a u) a (ns.map V.int) := by
    have off : ∀ o, H a = some o → (∀ x, o ≠ .tbl x) → br.T.lookup a = none := fun o h n => by
      cases e : br.T.lookup a with
      | none => rfl
      | some q =>
        have z := hT _ (mem_of_lookup e)
        rw [h] at z
        exact absurd (Option.some.inj z) (n _)
    rcases hS with (h | ⟨o, h⟩) | h
    · refine ⟨H a, fun o z => ?_, .inl (.inl ?_)⟩
      · rw [h] at z; cases z; exact ⟨h, trivial⟩
      · unfold G0
        rw [off _ h (fun _ z => by cases z)]
        simp only [if_true]
        exact h
    · refine ⟨H a, fun o z => ?_, .inl (.inr ⟨o, ?_⟩)⟩
      · rw [h] at z; cases z; exact ⟨h, trivial⟩
      · unfold G0
        rw [off _ h (fun _ z => by cases z)]
        simp only [if_true]
        exact h
    · exact ⟨none, ⟨fun o z => (nomatch z), Or.inr h⟩⟩
  obtain ⟨u, hu, hs⟩ := key
  refine ⟨G0 br.T a u, [.scr ns], G0_le hT hu, fun p hp => ⟨0, ?_⟩, .shr (.scr hs) .nil, .nil, ?_⟩
  · unfold G0
    rw [lookup_some nd hp]
  · rw [hF]
    intro v H' G' _ _ d
    cases d
    rfl
/-- THE END of a law by data -/
theorem law_atD {l : PySem.W.OpenLaw} {w : World} {K : PySem.W.Frag} {mg : Str → Option Value} {fa : Addr} {h : Heap} {fd : FuncData} {n k : Nat} {tf : List He.Defn} {br : Brings} {Fn : List D → FR} (KX : K.In h)
    (hb : ∀ (s : Shared) (u : Value), BindsTo s fd ⟨[u], []⟩ [("script", u)]) (hd : ∀ p ∈ tf, PySem.W.codeHdIn K (He.cT K p).1 (He.cT K p).2 = true) (out : ∀ p ∈ tf, K.lookup (He.cT K p).2 = none)
    (empty : ∀ p ∈ tf, h.get? (He.cT K p).2 = some { cls := .none, data := .fields #[] }) (hbr : br.T.map (·.1) = tf.map fun p => (He.cT K p).2) (nd : (tf.map fun p => (He.cT K p).2).Nodup)
    (law : ∀ ns : List Int, ns.length ≤ n → ∃ io, Fn [.scr ns] = .ret (.bl true) false io)
    (F : ∀ base : Heap, K.In base → base.Ns mainGlobals mg → (∀ p ∈ tf, TabB base mg (He.cT K p).1 (He.cT K p).2) → FnOk l.prog w K mg base (L2.CX l.prog w) k fa fd ["script"] (spD br K [false] Fn)) :
    LawAtS l w K (L2.CX l.prog w) k n "script" mg fa h := by
  refine ⟨fd, tf.map (He.cT K), spD br K [false] Fn, ?_, ?_, ?_, hb, fun H a ns hl _ hT hS => ?_, fun base k1 k2 TB => F base k1 k2 fun p hp => TB _ (List.mem_map.mpr ⟨p, hp, rfl⟩)⟩
  · intro p hp
    obtain ⟨q, hq, rfl⟩ := List.mem_map.mp hp
    exact empty q hq
  · intro p hp
    obtain ⟨q, hq, rfl⟩ := List.mem_map.mp hp
    exact out q hq
  · intro p hp
    obtain ⟨q, hq, rfl⟩ := List.mem_map.mp hp
    exact PySem.W.codeHd_of_K KX (hd q hq)
  · obtain ⟨io, e⟩ := law ns hl
    refine law_spD (by rw [hbr]; exact nd) (fun p hp => ?_) hS e
    have : p.1 ∈ tf.map fun p => (He.cT K p).2 := by rw [← hbr]; exact List.mem_map.mpr ⟨p, hp, rfl⟩
    obtain ⟨q, hq, eq⟩ := List.mem_map.mp this
    rw [← eq]
    exact hT _ (List.mem_map.mpr ⟨q, hq, rfl⟩)
/-- the tables stand apart -/
def exT (tf : List He.Defn) (K : PySem.W.Frag) : Bool := decide ((tf.map fun p => (He.cT K p).2).Nodup)
theorem hCX0 (P : Program) (w : World) (H : Hp) (s : Shared) (e : Value) (s' : Shared) (h : L2.CX P w [] H s (fun _ _ _ => False) e s') : False := by
  obtain ⟨_, _, _, _, _, _, _, _, _, _, _, _, h⟩ := h
  exact h
end L2.Dl
/-! Rules to reckon what the semantics gives: comprehensions, loops. -/
namespace L2.Dl
open PySem PySem.Spec PyProof.Rows
theorem set_set {S : SS} {v : Nat} {a b : AV} : (S.set v a).set v b = S.set v b := by
  simp [List.set_set]
theorem set_same {S : SS} {v : Nat} {w : AV} (h : S[v]? = some w) : S.set v w = S := by
  apply List.ext_getElem?
  intro i
  rw [List.getElem?_set]
  split
  · rename_i e
    subst e
    split
    · exact h.symm
    · rename_i hl
      rw [List.getElem?_eq_none (by omega)] at h
      cases h
  · rfl
theorem lcL_pure {v : Nat} {ft : M Bool} {fe : M R} {S0 : SS} (hv : S0[v]? = some .un) (T : D → Bool) (Y : D → D) : ∀ (ds : List D)
    (h : ∀ d ∈ ds, ft (S0.set v (.shr d)) = .ok (T d) (S0.set v (.shr d)) ∧ (T d = true → ∃ r, fe (S0.set v (.shr d)) = .ok r (S0.set v (.shr d)) ∧ valR (S0.set v (.shr d)) r = some (Y d, S0.set v (.shr d)))),
    lcL [v] (tNm v) ft fe ds S0 = .ok ((ds.filter T).map Y) S0
  | [], _ => rfl
  | d :: ds, h => by
    obtain ⟨h1, h2⟩ := h d List.mem_cons_self
    have ih := lcL_pure hv T Y ds fun d' hd => h d' (List.mem_cons_of_mem _ hd)
    have hw : wipeS (S0.set v (.shr d)) [v] = S0 := by
      show (S0.set v (.shr d)).set v .un = S0
      rw [set_set, set_same hv]
    unfold lcL
    simp only [tNm, h1, noEx, Res.bind]
    cases hT : T d with
    | false => simp only [hw, ih, hT, Bool.false_eq_true, if_false, List.filter_cons]
    | true =>
      obtain ⟨r, h3, h4⟩ := h2 hT
      simp only [if_true, h3, h4, hw, ih, hT, List.filter_cons, List.map_cons]
/-- [e(x) for x in it if t(x)], nothing changed -/
theorem sLc_pure {v : Nat} {fi : M (List D)} {ft : M Bool} {fe : M R} {S S1 : SS} {ds : List D} {w : AV} (T : D → Bool) (Y : D → D) (hi : fi S = .ok ds S1) (hl : ds.length ≤ 1000000) (hv : S1[v]? = some w)
    (h : ∀ d ∈ ds, ft (S1.set v (.shr d)) = .ok (T d) (S1.set v (.shr d)) ∧ (T d = true → ∃ r, fe (S1.set v (.shr d)) = .ok r (S1.set v (.shr d)) ∧ valR (S1.set v (.shr d)) r = some (Y d, S1.set v (.shr d)))) :
    sLc [v] fi (tNm v) ft fe S = .ok (.f (.lst ((ds.filter T).map Y))) S1 := by
  have hlt : v < S1.length := by
    by_cases z : v < S1.length
    · exact z
    · rw [List.getElem?_eq_none (by omega)] at hv; cases hv
  have hv0 : (S1.set v .un)[v]? = some .un := by rw [List.getElem?_set_self hlt]
  have q := lcL_pure (ft := ft) (fe := fe) hv0 T Y ds (by simpa only [set_set] using h)
  have hw : wipeS S1 [v] = S1.set v .un := rfl
  unfold sLc
  rw [hi]
  simp only [Res.bind, if_pos hl, hw, q, noEx]
  show Res.ok _ (match S1[v]? with
    | some w => (S1.set v .un).set v w
    | none => S1.set v .un) = _
  rw [hv]
  simp only [set_set, set_same hv]
/-- a loop by an invariant -/
theorem forL_inv {g : D → SS → Option SS} {body : M Fl} : ∀ {ds : List D} {I : Nat → SS → Prop} {S : SS}
    (step : ∀ i d S, ds[i]? = some d → I i S → ∃ S1 S2, g d S = some S1 ∧ body S1 = .ok .nx S2 ∧ I (i + 1) S2) (h : I 0 S), ∃ S', forL g body ds S = .ok .nx S' ∧ I ds.length S'
  | [], I, S, _, h => ⟨S, rfl, h⟩
  | d :: ds, I, S, step, h => by
    obtain ⟨S1, S2, e1, e2, h2⟩ := step 0 d S rfl h
    obtain ⟨S', e3, h3⟩ := forL_inv (ds := ds) (I := fun i => I (i + 1)) (fun i d' T hd hI => step (i + 1) d' T (by simpa using hd) hI) h2
    refine ⟨S', ?_, by simpa using h3⟩
    unfold forL
    simp only [e1, e2, Res.bind]
    exact e3
/-- .. by the list -/
theorem forL_list {g : D → SS → Option SS} {body : M Fl} {α : Type} (f : α → D) : ∀ {xs : List α} {I : List α → SS → Prop} {pre : List α} {S : SS}
    (step : ∀ pre x S, (∃ post, xs = pre ++ x :: post) → I pre S → ∃ S1 S2, g (f x) S = some S1 ∧ body S1 = .ok .nx S2 ∧ I (pre ++ [x]) S2) (h : I [] S), ∃ S', forL g body (xs.map f) S = .ok .nx S' ∧ I xs S' := by
  intro xs I pre S step h
  have key : ∀ (post pre : List α) (S : SS), xs = pre ++ post → I pre S → ∃ S', forL g body (post.map f) S = .ok .nx S' ∧ I xs S' := by
    intro post
    induction post with
    | nil => intro pre S e hI; exact ⟨S, rfl, by rw [e, List.append_nil]; exact hI⟩
    | cons x post ih =>
      intro pre S e hI
      obtain ⟨S1, S2, e1, e2, h2⟩ := step pre x S ⟨post, e⟩ hI
      obtain ⟨S', e3, h3⟩ := ih (pre ++ [x]) S2 (by rw [e]; simp) h2
      refine ⟨S', ?_, h3⟩
      simp only [List.map_cons]
      unfold forL
      simp only [e1, e2, Res.bind]
      exact e3
  exact key xs [] S rfl h
/-- a while loop by an invariant and a measure -/
theorem whileN_inv {ft : M Bool} {body : M Fl} {I : SS → Prop} {Q : SS → Prop} (μ : SS → Nat)
    (step : ∀ S, I S → ∃ b S1, ft S = .ok b S1 ∧ (b = true → ∃ S2, body S1 = .ok .nx S2 ∧ I S2 ∧ μ S2 < μ S) ∧ (b = false → Q S1)) : ∀ (n : Nat) {S : SS}, I S → μ S < n → ∃ S', whileN ft body n S = .ok .nx S' ∧ Q S'
  | 0, S, _, h => by omega
  | n + 1, S, hI, h => by
    obtain ⟨b, S1, e1, h1, h2⟩ := step S hI
    unfold whileN
    simp only [e1, Res.bind]
    cases b with
    | false => exact ⟨S1, by simp, h2 rfl⟩
    | true =>
      obtain ⟨S2, e2, hI2, hm⟩ := h1 rfl
      obtain ⟨S', e3, hQ⟩ := whileN_inv μ step n hI2 (by omega)
      exact ⟨S', by simp only [if_true, e2]; exact e3, hQ⟩
/-! ### dicts with names as keys -/
theorem valD_map {α : Type} (k : α → Key) (hk : ∀ a b, k a = k b → a = b) (f : α → D) (l : List α) (a : α) (h : a ∈ l) : valD (l.map fun x => (k x, f x)) (k a) = some (f a) := by
  induction l with
  | nil => cases h
  | cons b l ih =>
    unfold valD
    simp only [List.map_cons, List.find?_cons]
    by_cases e : k b = k a
    · simp only [e, decide_true, Option.map_some]
      rw [hk _ _ e]
    · simp only [e, decide_false]
      have ne : a ≠ b := fun z => e (by rw [z])
      exact ih ((List.mem_cons.mp h).resolve_left ne)
theorem valD_map_none {α : Type} (k : α → Key) (hk : ∀ a b, k a = k b → a = b) (f : α → D) (l : List α) (a : α) (h : a ∉ l) : valD (l.map fun x => (k x, f x)) (k a) = none := by
  induction l with
  | nil => rfl
  | cons b l ih =>
    unfold valD
    simp only [List.map_cons, List.find?_cons]
    have e : k b ≠ k a := fun z => h (by rw [hk _ _ z]; exact List.mem_cons_self)
    simp only [e, decide_false]
    exact ih fun z => h (List.mem_cons_of_mem _ z)
end L2.Dl
/-! Sorted names. -/
namespace L2.Dl
open PySem PySem.Spec PyProof.Rows
def sle (a b : Str) : Bool := decide (a.cps.toList ≤ b.cps.toList)
theorem sle_trans (a b c : Str) (h1 : sle a b = true) (h2 : sle b c = true) : sle a c = true := by
  unfold sle at *
  exact decide_eq_true (Std.le_trans (of_decide_eq_true h1) (of_decide_eq_true h2))
theorem sle_total (a b : Str) : (sle a b || sle b a) = true := by
  unfold sle
  rcases Std.le_total (a := a.cps.toList) (b := b.cps.toList) with h | h
  · simp [h]
  · simp [h]
theorem sle_antisymm (a b : Str) (h1 : sle a b = true) (h2 : sle b a = true) : a = b := by
  unfold sle at *
  have e : a.cps.toList = b.cps.toList := Std.le_antisymm (of_decide_eq_true h1) (of_decide_eq_true h2)
  obtain ⟨x⟩ := a
  obtain ⟨y⟩ := b
  have e : x.toList = y.toList := e
  congr
  exact Array.toList_inj.mp e
def sortS (l : List Str) : List Str := l.mergeSort sle
theorem sortS_perm (l : List Str) : (sortS l).Perm l := List.mergeSort_perm l sle
theorem mem_sortS {l : List Str} {x : Str} : x ∈ sortS l ↔ x ∈ l := (sortS_perm l).mem_iff
theorem length_sortS (l : List Str) : (sortS l).length = l.length := (sortS_perm l).length_eq
theorem sortS_eq {l m : List Str} (h : l.Perm m) : sortS l = sortS m := by
  have p : (sortS l).Perm (sortS m) := ((sortS_perm l).trans h).trans (sortS_perm m).symm
  exact p.eq_of_pairwise (le := fun a b => sle a b = true) (fun a b _ _ h1 h2 => sle_antisymm a b h1 h2) (List.pairwise_mergeSort sle_trans sle_total l) (List.pairwise_mergeSort sle_trans sle_total m)
theorem sortD_str (l : List Str) : sortD (l.map .str) = (sortS l).map .str := by
  unfold sortD sortS
  rw [List.map_mergeSort (s := PySem.W.dataLe false encD)]
  intro a _ b _
  have q := PySem.W.dataLe_str (fun x : Str => x)
  exact (congrFun (congrFun q a) b).symm
theorem toPyL_str (l : List Str) : toPyL (l.map .str) = some (l.map .str) := by
  induction l with
  | nil => rfl
  | cons a l ih => simp only [List.map_cons, toPyL, toPy, ih]
theorem okSort_str (l : List Str) : okSort (l.map .str) = true := by
  unfold okSort
  simp only [List.all_map, Bool.and_eq_true, List.all_eq_true, Function.comp]
  refine ⟨⟨fun a _ b _ => rfl, ?_⟩, fun a _ => rfl⟩
  rw [Bool.or_eq_true]
  exact .inr (by simp [List.all_eq_true, notNT])
theorem gSorted_strs (l : List Str) : gSorted [.lst (l.map .str)] = some (.f (.lst ((sortS l).map .str))) := by
  show (match toPyL (l.map D.str) with
    | none => none
    | some ps => if okSort ps = true then some (R.f (.lst (sortD (l.map .str)))) else none) = _
  rw [toPyL_str]
  simp only [okSort_str, if_true, sortD_str]
theorem gSorted_names {kvs : List (Key × D)} {l : List Str} (h : kvs.map (·.1) = l.map .inr) : gSorted [.dct kvs] = some (.f (.lst ((sortS l).map .str))) := by
  have e : kvs.map (fun p => keyD p.1) = l.map .str := by
    have : kvs.map (fun p => keyD p.1) = (kvs.map (·.1)).map keyD := by simp
    rw [this, h]
    simp [keyD]
  show (match toPyL (kvs.map fun p : Key × D => keyD p.1) with
    | none => none
    | some ps => if okSort ps = true then some (R.f (.lst (sortD (kvs.map fun p : Key × D => keyD p.1)))) else none) = _
  rw [e, toPyL_str]
  simp only [okSort_str, if_true, sortD_str]
/-! sorted by a number -/
def sortI {α : Type} (k : α → Int) (l : List α) : List α := l.mergeSort fun a b => decide (k a ≤ k b)
theorem sortI_perm {α : Type} (k : α → Int) (l : List α) : (sortI k l).Perm l := List.mergeSort_perm l _
theorem sortI_sorted {α : Type} (k : α → Int) (l : List α) : (sortI k l).Pairwise fun a b => k a ≤ k b := by
  refine (List.pairwise_mergeSort (le := fun a b => decide (k a ≤ k b)) (fun a b c h1 h2 => ?_) (fun a b => ?_) l).imp fun h => of_decide_eq_true h
  · have := of_decide_eq_true h1
    have := of_decide_eq_true h2
    exact decide_eq_true (by omega)
  · by_cases h : k a ≤ k b
    · simp [h]
    · simp [h]; omega
theorem toPyL_int (l : List Int) : toPyL (l.map .int) = some (l.map .int) := by
  induction l with
  | nil => rfl
  | cons a l ih => simp only [List.map_cons, toPyL, toPy, ih]
theorem okSort_int (l : List Int) : okSort (l.map .int) = true := by
  unfold okSort
  simp only [List.all_map, Bool.and_eq_true, List.all_eq_true, Function.comp]
  refine ⟨⟨fun a _ b _ => rfl, ?_⟩, fun a _ => rfl⟩
  rw [Bool.or_eq_true]
  exact .inr (by simp [List.all_eq_true, notNT])
theorem sortR_int {α : Type} (f : α → D) (k : α → Int) (l : List α) : sortR (l.map f) (l.map fun x => .int (k x)) = some (.f (.lst ((sortI k l).map f))) := by
  unfold sortR
  have e : (l.map fun x => D.int (k x)) = (l.map k).map .int := by simp
  rw [e, toPyL_int]
  simp only [okSort_int, if_true]
  unfold sortK sortI
  have e2 : (l.map f).zip ((l.map k).map PyData.int) = l.map fun x => (f x, PyData.int (k x)) := by
    rw [List.map_map, List.zip_map']
    rfl
  rw [e2]
  have e3 : (l.map fun x => (f x, PyData.int (k x))).mergeSort (PySem.W.dataLe false Prod.snd) = (l.mergeSort fun a b => decide (k a ≤ k b)).map fun x => (f x, PyData.int (k x)) := by
    rw [List.map_mergeSort]
    intro a _ b _
    have q := PySem.W.dataLe_int k
    exact (congrFun (congrFun q a) b).symm
  rw [e3, List.map_map]
  rfl
end L2.Dl
/-! Names compared. -/
namespace L2.Dl
open PySem PySem.Spec PyProof.Rows
/-- a text that == may look at -/
def Lay (s : Str) : Prop := PyData.canLay0 (.str s) = true
theorem pyEq_str {a b : Str} (ha : Lay a) (hb : Lay b) : pyEq (.str a) (.str b) = some (a == b) := by
  unfold pyEq
  simp only [toPy]
  have h1 : SeqAt.shaped (.str a) = true := by unfold SeqAt.shaped; rw [ha]; rfl
  have h2 : SeqAt.shaped (.str b) = true := by unfold SeqAt.shaped; rw [hb]; rfl
  rw [h1, h2]
  rfl
theorem deq_str {a b : Str} (ha : Lay a) (hb : Lay b) : deq (.str a) (.str b) = some (a == b) := by
  unfold deq
  rw [pyEq_str ha hb]
theorem dne_str {a b : Str} (ha : Lay a) (hb : Lay b) : dne (.str a) (.str b) = some (!(a == b)) := by
  unfold dne
  rw [deq_str ha hb]; rfl
theorem pyEq_int (a b : Int) : pyEq (.int a) (.int b) = some (a == b) := rfl
theorem deq_int (a b : Int) : deq (.int a) (.int b) = some (a == b) := rfl
theorem dne_int (a b : Int) : dne (.int a) (.int b) = some (!(a == b)) := rfl
theorem dne_bl (a b : Bool) : dne (.bl a) (.bl b) = some (!(a == b)) := rfl
theorem layAll {l : List Str} (h : ∀ s ∈ l, Lay s) : PyData.canLayAll0 (l.map .str) = true := by
  induction l with
  | nil => rfl
  | cons a l ih =>
    simp only [List.map_cons, PyData.canLayAll0, Bool.and_eq_true]
    exact ⟨h a List.mem_cons_self, ih fun s hs => h s (List.mem_cons_of_mem _ hs)⟩
theorem depthAll_strs (l : List Str) : PyData.depthAll (l.map .str) = 0 := by
  induction l with
  | nil => rfl
  | cons a l ih => simp only [List.map_cons, PyData.depthAll, ih, PyData.depth]; rfl
theorem shaped_strs {l : List Str} (h : ∀ s ∈ l, Lay s) : SeqAt.shaped (.list (l.map .str)) = true := by
  unfold SeqAt.shaped
  simp only [PyData.canLay0, layAll h, PyData.depth, depthAll_strs]
  rfl
theorem eqvAll_strs : ∀ (l m : List Str), PyData.eqvAll (l.map .str) (m.map .str) = decide (l = m)
  | [], [] => rfl
  | [], _ :: _ => rfl
  | _ :: _, [] => rfl
  | a :: l, b :: m => by
    simp only [List.map_cons, PyData.eqvAll, PyData.eqv, eqvAll_strs l m]
    by_cases e : a = b
    · subst e; simp
    · simp [e]
theorem pyEq_strs {l m : List Str} (hl : ∀ s ∈ l, Lay s) (hm : ∀ s ∈ m, Lay s) : pyEq (.lst (l.map .str)) (.lst (m.map .str)) = some (decide (l = m)) := by
  unfold pyEq
  simp only [toPy, toPyL_str, shaped_strs hl, shaped_strs hm, Bool.and_self, if_true, PyData.eqv, eqvAll_strs]
theorem deq_strs {l m : List Str} (hl : ∀ s ∈ l, Lay s) (hm : ∀ s ∈ m, Lay s) : deq (.lst (l.map .str)) (.lst (m.map .str)) = some (decide (l = m)) := by
  unfold deq
  rw [pyEq_strs hl hm]
theorem dne_strs {l m : List Str} (hl : ∀ s ∈ l, Lay s) (hm : ∀ s ∈ m, Lay s) : dne (.lst (l.map .str)) (.lst (m.map .str)) = some (!decide (l = m)) := by
  unfold dne
  rw [deq_strs hl hm]; rfl
/-! membership -/
theorem all_sc_str (l : List Str) : (l.map D.str).all D.sc = true := by simp [List.all_eq_true, D.sc]
theorem memD_strs (x : Str) (l : List Str) : memD (.str x) (.lst (l.map .str)) = some (decide (x ∈ l)) := by
  show seqMem (.str x) (l.map .str) = _
  unfold seqMem
  rw [if_pos ⟨rfl, all_sc_str l⟩]
  congr 1
  rw [Bool.eq_iff_iff, List.any_eq_true, decide_eq_true_iff]
  constructor
  · rintro ⟨y, hy, e⟩
    obtain ⟨s, hs, rfl⟩ := List.mem_map.mp hy
    have e : (s == x) = true := e
    rw [← beq_iff_eq.mp e]
    exact hs
  · intro h
    exact ⟨.str x, List.mem_map.mpr ⟨x, h, rfl⟩, beq_self_eq_true x⟩
theorem nmemD_strs (x : Str) (l : List Str) : nmemD (.str x) (.lst (l.map .str)) = some (!decide (x ∈ l)) := by
  unfold nmemD
  rw [memD_strs]; rfl
theorem inr_inj (a b : Str) (h : (Sum.inr a : Key) = .inr b) : a = b := by cases h; rfl
/-- a dict with names as keys -/
def nd (f : Str → D) (l : List Str) : List (Key × D) := l.map fun x => (.inr x, f x)
theorem valD_nd {f : Str → D} {l : List Str} {a : Str} (h : a ∈ l) : valD (nd f l) (.inr a) = some (f a) := valD_map (fun x : Str => (.inr x : Key)) inr_inj f l a h
theorem valD_nd_none {f : Str → D} {l : List Str} {a : Str} (h : a ∉ l) : valD (nd f l) (.inr a) = none := valD_map_none (fun x : Str => (.inr x : Key)) inr_inj f l a h
theorem nd_keys (f : Str → D) (l : List Str) : (nd f l).map (·.1) = l.map .inr := by simp [nd]
theorem nd_keyD (f : Str → D) (l : List Str) : ((nd f l).map fun p => keyD p.1) = l.map .str := by simp [nd, keyD]
theorem memD_nd (a : Str) (f : Str → D) (l : List Str) : memD (.str a) (.dct (nd f l)) = some (decide (a ∈ l)) := by
  show (keyOf (.str a)).map (fun k => (valD (nd f l) k).isSome) = _
  show some ((valD (nd f l) (.inr a)).isSome) = _
  by_cases h : a ∈ l
  · rw [valD_nd h]; simp [h]
  · rw [valD_nd_none h]; simp [h]
theorem nmemD_nd (a : Str) (f : Str → D) (l : List Str) : nmemD (.str a) (.dct (nd f l)) = some (!decide (a ∈ l)) := by
  unfold nmemD
  rw [memD_nd]; rfl
theorem subscD_nd {a : Str} {f : Str → D} {l : List Str} (h : a ∈ l) : subscD (.dct (nd f l)) (.str a) = some (.v (f a)) := by
  show (match valD (nd f l) (.inr a) with
    | none => none
    | some d => some (R.v d)) = _
  rw [valD_nd h]
theorem gLen_nd (f : Str → D) (l : List Str) : gLen [.dct (nd f l)] = some (.v (.int l.length)) := by
  show some (R.v (.int ((nd f l).length : Nat))) = _
  simp [nd]
theorem gSorted_nd (f : Str → D) (l : List Str) : gSorted [.dct (nd f l)] = some (.f (.lst ((sortS l).map .str))) := gSorted_names (nd_keys f l)
/-- a key put -/
theorem putD_nd_new {f : Str → D} {l : List Str} {a : Str} {d : D} (h : a ∉ l) (hf : f a = d) : putD (nd f l) (.inr a) d = nd f (l ++ [a]) := by
  unfold putD
  rw [if_neg]
  · simp [nd, hf]
  · simp only [List.any_eq_true, not_exists]
    rintro kv ⟨h1, h2⟩
    obtain ⟨x, hx, rfl⟩ := List.mem_map.mp h1
    have := inr_inj _ _ (of_decide_eq_true h2)
    exact h (this ▸ hx)
theorem nd_congr {f g : Str → D} {l : List Str} (h : ∀ x ∈ l, f x = g x) : nd f l = nd g l := by
  unfold nd
  apply List.map_congr_left
  intro x hx
  rw [h x hx]
theorem putD_nd_old {f : Str → D} {l : List Str} {a : Str} {d : D} (h : a ∈ l) : putD (nd f l) (.inr a) d = nd (fun x => if x = a then d else f x) l := by
  unfold putD
  rw [if_pos]
  · unfold nd
    rw [List.map_map]
    apply List.map_congr_left
    intro x hx
    simp only [Function.comp]
    by_cases e : x = a
    · subst e; simp
    · have : (Sum.inr x : Key) ≠ .inr a := fun z => e (inr_inj _ _ z)
      simp [e, this]
  · rw [List.any_eq_true]
    exact ⟨(.inr a, f a), List.mem_map.mpr ⟨a, h, rfl⟩, by simp⟩
theorem dropD_nd {f : Str → D} {l : List Str} {a : Str} : dropD (nd f l) (.inr a) = nd f (l.filter fun x => decide (x ≠ a)) := by
  unfold dropD nd
  rw [List.filter_map]
  congr 1
  apply List.filter_congr
  intro x _
  simp only [Function.comp]
  by_cases e : x = a
  · subst e; simp
  · have : (Sum.inr x : Key) ≠ .inr a := fun z => e (inr_inj _ _ z)
    simp [e, this]
end L2.Dl
/-! One step of the reckoning each: what an expression, a statement gives when its parts give what they give. -/
namespace L2.Dl
open PySem PySem.Spec PyProof.Rows
variable {S S1 S2 S3 S4 : SS} {fa fb fe fk ff : M R} {ft fu : M Bool} {f g : M Fl} {fl : M (List R)} {ra rb re rk rf r : R} {rs : List R} {da db d d0 d1 d2 k : D} {ds l : List D} {i : Nat} {b : Bool}
theorem ok_sV : sV d S = .ok (.v d) S := rfl
theorem ok_shr (h : S[i]? = some (.shr d)) : sNm i S = .ok (.at i) S := by unfold sNm; rw [h]
theorem ok_own {t : Option Nat} (h : S[i]? = some (.own t d)) : sNm i S = .ok (.at i) S := by unfold sNm; rw [h]
theorem ok_sOp {g : D → D → Option R} (ha : fa S = .ok ra S1) (hb : fb S1 = .ok rb S2) (la : look S2 ra = some da) (lb : look S2 rb = some db) (hg : g da db = some r) : sOp g fa fb S = .ok r S2 := by
  unfold sOp; simp only [ha, hb, Res.bind, la, lb, bind, Option.bind, hg, lift]
theorem ok_sOpB {g : D → D → Option Bool} (ha : fa S = .ok ra S1) (hb : fb S1 = .ok rb S2) (la : look S2 ra = some da) (lb : look S2 rb = some db) (hg : g da db = some b) : sOp (toB g) fa fb S = .ok (.v (.bl b)) S2 :=
  ok_sOp ha hb la lb (by unfold toB; rw [hg]; rfl)
theorem ok_sCmpT {g : D → D → Option Bool} (ha : fa S = .ok ra S1) (hb : fb S1 = .ok rb S2) (la : look S2 ra = some da) (lb : look S2 rb = some db) (hg : g da db = some b) : sCmpT g fa fb S = .ok b S2 := by
  unfold sCmpT; simp only [ha, hb, Res.bind, la, lb, bind, Option.bind, hg, liftT]
theorem ok_sUn {g : D → Option R} (ha : fa S = .ok ra S1) (la : look S1 ra = some da) (hg : g da = some r) : sUn g fa S = .ok r S1 := by
  unfold sUn; simp only [ha, Res.bind, la, bind, Option.bind, hg, lift]
theorem ok_sTru (ha : fa S = .ok ra S1) (la : look S1 ra = some da) (hg : da.truth = some b) : sTru fa S = .ok b S1 := by
  unfold sTru lookB; simp only [ha, Res.bind, la, bind, Option.bind, hg, liftT]
theorem ok_sAndF (h : ft S = .ok false S1) : sAnd ft fu S = .ok false S1 := by unfold sAnd; simp [h, Res.bind]
theorem ok_sAndT (h : ft S = .ok true S1) (hu : fu S1 = .ok b S2) : sAnd ft fu S = .ok b S2 := by unfold sAnd; simp [h, Res.bind, hu]
theorem ok_sOrT (h : ft S = .ok true S1) : sOr ft fu S = .ok true S1 := by unfold sOr; simp [h, Res.bind]
theorem ok_sOrF (h : ft S = .ok false S1) (hu : fu S1 = .ok b S2) : sOr ft fu S = .ok b S2 := by unfold sOr; simp [h, Res.bind, hu]
theorem ok_sNot (h : ft S = .ok b S1) : sNot ft S = .ok (!b) S1 := by unfold sNot; simp [h, Res.bind]
theorem ok_sCons (ha : fa S = .ok ra S1) (hl : fl S1 = .ok rs S2) : sCons fa fl S = .ok (ra :: rs) S2 := by unfold sCons; simp [ha, hl, Res.bind]
theorem ok_sCall {g : List D → Option R} (hl : fl S = .ok rs S1) (ll : lookL S1 rs = some ds) (hg : g ds = some r) : sCall g fl S = .ok r S1 := by
  unfold sCall; simp only [hl, Res.bind, ll, bind, Option.bind, hg, lift]
theorem ok_sMake {g : List D → Option R} (hl : fl S = .ok rs S1) (hv : valsR S1 rs = some (ds, S2)) (hg : g ds = some r) : sMake g fl S = .ok r S2 := by
  unfold sMake; simp only [hl, Res.bind, hv, hg, lift]
theorem ok_callM {md : List Bool} {Fn : List D → FR} {io bo : List Nat} {fr : Bool} {iod : List D} (hl : fl S = .ok rs S1) (ha : argD S1 md rs = some (ds, io, bo)) (hn : io.Nodup ∧ ∀ i ∈ io, i ∉ bo) (hf : Fn ds = .ret d fr iod) :
    callM md Fn fl S = .ok (if fr then .f d else .v d) (callK S1 io bo (flatR fr d) iod) := by
  unfold callM; simp only [hl, Res.bind, ha, if_pos hn, hf]
theorem ok_sAsg (ha : fa S = .ok ra S1) (hs : setR S1 i ra = some S2) : sAsg i fa S = .ok .nx S2 := by unfold sAsg; simp only [ha, Res.bind, hs, nxt]
theorem ok_sExpr (ha : fa S = .ok ra S1) : sExpr fa S = .ok .nx S1 := by unfold sExpr; simp only [ha, Res.bind]
theorem ok_sRet {fr : Bool} (ha : fa S = .ok ra S1) (hs : retR S1 ra = some (d, fr, S2)) : sRet fa S = .ok (.rt d fr) S2 := by unfold sRet; simp only [ha, Res.bind, hs]
theorem ok_sSeq {q : Res Fl} (hf : f S = .ok .nx S1) (hg : g S1 = q) : sSeq f g S = q := by unfold sSeq; simp only [hf, Res.bind, hg]
theorem ok_sSeqR {fr : Bool} (hf : f S = .ok (.rt d fr) S1) : sSeq f g S = .ok (.rt d fr) S1 := by unfold sSeq; simp only [hf, Res.bind]
theorem ok_sIfT {q : Res Fl} (ht : ft S = .ok true S1) (hf : f S1 = q) : sIfS ft f g S = q := by unfold sIfS; simp [ht, Res.bind, hf]
theorem ok_sIfF {q : Res Fl} (ht : ft S = .ok false S1) (hg : g S1 = q) : sIfS ft f g S = q := by unfold sIfS; simp [ht, Res.bind, hg]
theorem ok_sFor {fi : M (List D)} {tg : D → SS → Option SS} {body : M Fl} {q : Res Fl} (hi : fi S = .ok ds S1) (h : forL tg body ds S1 = q) : sFor fi tg body S = q := by unfold sFor; simp only [hi, Res.bind, h]
theorem ok_iSeq (ha : fa S = .ok ra S1) (hv : valR S1 ra = some (d, S2)) (hs : seqOf d = some ds) : iSeq fa S = .ok ds S2 := by unfold iSeq; simp only [ha, Res.bind, hv, hs]
theorem ok_iRng {h : List D → Option (List D)} (hl : fl S = .ok rs S1) (ll : lookL S1 rs = some ds) (hs : h ds = some l) : iRng h fl S = .ok l S1 := by unfold iRng; simp only [hl, Res.bind, ll, hs]
theorem ok_mutL {h : List D → List D → Option (List D × D)} {t0 t : Option Nat} {l0 l l' : List D} (h0 : S[i]? = some (.own t0 (.lst l0))) (hl : fl S = .ok rs S1) (hv : valsR S1 rs = some (ds, S2)) (ho : S2[i]? = some (.own t (.lst l))) (hh : h l ds = some (l', d)) :
    mutL i h fl S = .ok (.v d) (S2.set i (.own t (.lst l'))) := by
  unfold mutL ownL; simp only [h0, hl, Res.bind, hv, ho, hh]
theorem ok_sPut {c c' : D} {t : Option Nat} (hv : fb S = .ok rb S1) (v : valR S1 rb = some (d, S2)) (h0 : (ownC S2 i).isSome = true) (hk : fk S2 = .ok rk S3) (lk : look S3 rk = some k) (ho : ownC S3 i = some (t, c)) (hp : putAt c k d = some c') :
    sPut i fb fk S = .ok .nx (S3.set i (.own t c')) := by
  obtain ⟨q, hq⟩ := Option.isSome_iff_exists.mp h0
  unfold sPut; simp only [hv, Res.bind, v, hq, hk, lk, ho, hp]
theorem ok_sDel {t0 t : Option Nat} {l0 l : List (Key × D)} {kk : Key} (h0 : S[i]? = some (.own t0 (.dct l0))) (hk : fk S = .ok rk S1) (lk : look S1 rk = some k) (ho : S1[i]? = some (.own t (.dct l))) (hkk : keyOf k = some kk) (hv : (valD l kk).isSome = true) :
    sDel i fk S = .ok .nx (S1.set i (.own t (.dct (dropD l kk)))) := by
  unfold sDel ownK; simp only [h0, hk, Res.bind, lk, ho, hkk, hv, if_true]
theorem ok_sAugN {g : D → D → Option R} (h0 : S[i]? = some (.shr d0)) (he : fe S = .ok re S1) (l1 : look S1 re = some d1) (hg : g d0 d1 = some (.v d)) : sAugN i fe g S = .ok .nx (S1.set i (.shr d)) := by
  unfold sAugN; simp only [h0, he, Res.bind, l1, hg]
theorem ok_sAugS {g : D → D → Option R} {c c1 c2 c' k2 : D} {t0 t1 t : Option Nat} (h0 : (ownC S i).isSome = true) (hk : fk S = .ok rk S1) (lk : look S1 rk = some k) (h1 : ownC S1 i = some (t1, c1)) (hg0 : getAt c1 k = some d0) (he : fe S1 = .ok re S2) (l1 : look S2 re = some d1) (lk2 : look S2 rk = some k2)
    (h2 : ownC S2 i = some (t, c2)) (hg : g d0 d1 = some (.v d2)) (hp : putAt c2 k2 d2 = some c') : sAugS i fk fe g S = .ok .nx (S2.set i (.own t c')) := by
  obtain ⟨q, hq⟩ := Option.isSome_iff_exists.mp h0
  unfold sAugS; simp only [hq, hk, Res.bind, lk, h1, hg0, he, l1, lk2, h2, hg, hp]
theorem ok_sGet2 {l0 l : List (Key × D)} {kk : Key} (ha : fa S = .ok ra S1) (h0 : look S1 ra = some (.dct l0)) (hk : fk S1 = .ok rk S2) (hf : ff S2 = .ok rf S3) (hv : valR S3 rf = some (d, S4)) (h4 : look S4 ra = some (.dct l)) (lk : look S4 rk = some k) (hkk : keyOf k = some kk) :
    sGet2 fa fk ff S = .ok (.v ((valD l kk).getD d)) S4 := by
  unfold sGet2 lookD; simp only [ha, Res.bind, h0, hk, hf, hv, h4, lk, hkk]
theorem ok_sGet1 {l0 l : List (Key × D)} {kk : Key} (ha : fa S = .ok ra S1) (h0 : look S1 ra = some (.dct l0)) (hk : fk S1 = .ok rk S2) (h4 : look S2 ra = some (.dct l)) (lk : look S2 rk = some k) (hkk : keyOf k = some kk) :
    sGet1 fa fk S = .ok (.v ((valD l kk).getD .non)) S2 := by
  unfold sGet1 lookD; simp only [ha, Res.bind, h0, hk, h4, lk, hkk]
theorem ok_runF {n : Nat} {md : List Bool} {fr : Bool} {io : List D} (h : f (startS md ds 0 ++ List.replicate (n - ds.length) .un) = .ok (.rt d fr) S) (ho : outS md S 0 = some io) : runF n md f ds = .ret d fr io := by
  unfold runF; simp only [h, ho]
theorem ok_runFN {n : Nat} {md : List Bool} {io : List D} (h : f (startS md ds 0 ++ List.replicate (n - ds.length) .un) = .ok .nx S) (ho : outS md S 0 = some io) : runF n md f ds = .ret .non false io := by
  unfold runF; simp only [h, ho]
end L2.Dl
/-! Exceptions: raise of an own class (its __init__ tells the base's and keeps "what"). -/
namespace L2.Dl
open PySem PySem.Spec PyProof.Rows
/-- what the text's base class of errors stands for -/
structure BaseC (K : PySem.W.Frag) (C0 : Addr) : Prop where
  ga : PySem.W.specialIn K (.ref C0) "__getattribute__" = some (some (.builtin "type.__getattribute__"))
  ty : PySem.W.typeIn K (.ref C0) = some (.type "type")
  rd : PySem.W.readsIn K C0 (.type "type") = true
  ini : PySem.W.findCls K (.ref C0) (.type "type") "__init__" = some (.val (.builtin "ValueError.__init__"))
section
variable {X : Cx} {x : Str} {C0 : Addr} {e : Expr} {es : List Expr} {ta : TA} {p1 p2 pos : Pos}
/-- Base.__init__(self, ..): as ValueError's -/
theorem pe_baseinit {pl : Sem Bool} (B : BaseC X.K C0) (hm : X.mg x = some (.ref C0)) (ha : PA X (e :: es) ta) (hg : Gl X x := by rfl) (hdb : (x == ("__debug__" : Str)) = false := by decide)
    (hev : eval (.Call (.Attribute (.Name x p1) "__init__" p2) (e :: es) [] pos) X.env = (do
      let ov ← eval (.Name x p1) X.env
      standAt p2.atName
      let (g, self_) ← holding [ov] (getMethod ov "__init__" pl)
      callWith pos g self_ (backTo pos (starEach (e :: es) X.env)) (backToKw pos (keywordEach [] X.env))) := by rfl)
    (hst : starEach (e :: es) X.env = (false, eval e X.env) :: starEach es X.env := by rfl) (hpl : (backTo pos (starEach es X.env)).any (·.1) = false := by rfl) :
    PE X (.Call (.Attribute (.Name x p1) "__init__" p2) (e :: es) [] pos) (tVeI X.K ta) := ⟨fun pins s σ H Q I h => by
  refine PySem.W.methodCall_KW (ld_glob I hg hm ?_ hdb) hev
  have fr := I.fr
  obtain ⟨m0, fr⟩ := fr
  refine PySem.W.method_of_cls fr I.ok.mod.kin B.ga (PySem.W.cls_val fr I.ok.mod.kin B.ty B.rd B.ini (by decide +kernel) ?_)
  show wpAny _ _ (callWith pos (.builtin "ValueError.__init__") [] (backTo pos (starEach (e :: es) X.env)) []) _ _ _
  refine PyProof.Rows.callWith_method1 (thn (ha.run pos pins _ σ H _ (I.tok _) h) ?_) hst hpl
  rintro us s1 ⟨vs, H1, I1, r1, a, C, ws, rfl, hl, T, ea, q⟩
  cases r1 with
  | @cons _ u0 _ ur ra rw' =>
    cases (show u0 = Value.ref a from ra)
    have hlen : ur.length ≤ sizeLine := by
      have := Paired.length rw'
      rw [sizeLine_eq]
      omega
    exact oinit_ok T I1 ea hlen fun s' J => ⟨.non, H1, J, rfl, q⟩⟩
end
/-- the promise of such an __init__ -/
def spI (K : PySem.W.Frag) (pre : Str) : Sp := fun vs H Q _ => ∃ (a C : Addr) (s : Str), vs = [.ref a, .str s] ∧ OexC K C ∧ PySem.W.findIn K (.ref C) "what" = some none ∧ H a = some (exo a C none) ∧ pre.length + s.length ≤ 1000000 ∧
  ∀ dx, H dx = none → dx ≠ a → Q .non (upd (upd H dx (exd dx [(("what" : Str), .str s)])) a (exo a C (some dx)))
section
variable {P : Program} {w : World} {K : PySem.W.Frag} {mg : Str → Option Value} {base : Heap}
/-- what the __init__'s text asks -/
def tIni (K : PySem.W.Frag) (pre : Str) : TS := tSeq (tDrop (tVeI K (L2.tCons (tVar 0) (L2.tCons (tOp (fun x y H Q => ∃ i j, x = .str i ∧ y = .str j ∧ i.length + j.length ≤ sizeLine ∧ Q (.str (i ++ j)) H) (tC (.str pre)) (tVar 1)) L2.tNil)))) (tOst K "what" (tVar 0) (tVar 1))
theorem init_of {q : Str} {params : Arguments} {body : List Stmt} {scope : Scope} {f : Addr} {fd : FuncData} {pre : Str} (F : FunD K "__init__" q params body scope [] [] f fd) (S : FnScope ["self", "what"] ["self", "what"] scope)
    (hb : ∀ cdv A outer s H E, PSs (cxOf (L2.CX P w) P w K mg base ["self", "what"] q scope f cdv A outer s H E) body (tIni K pre)) :
    FnOk P w K mg base (L2.CX P w) 1 f fd ["self", "what"] (spI K pre) := by
  refine F.ok (k := 0) S (fun vs H Q E ⟨a, C, s, h, _⟩ => by rw [h]; rfl) fun cdv A outer s H vs Q E hr h => ?_
  obtain ⟨a, C, wt, rfl, T, hno, ea, hl, q⟩ := h
  refine ⟨_, hb cdv A outer s H E, ?_⟩
  show tDrop (tVeI K (L2.tCons (tVar 0) (L2.tCons (tOp (fun x y H Q => ∃ i j, x = .str i ∧ y = .str j ∧ i.length + j.length ≤ sizeLine ∧ Q (.str (i ++ j)) H) (tC (.str pre)) (tVar 1)) L2.tNil))) _ _ H
  refine ⟨.ref a, rfl, .str wt, rfl, ⟨_, _, rfl, rfl, line1 hl, ?_⟩⟩
  refine ⟨a, C, _, rfl, by simp, T, ea, ?_⟩
  refine ⟨.str wt, rfl, .ref a, rfl, a, C, rfl, T, hno, .inl ⟨ea, fun dx n ne => q dx n ne⟩⟩
end
/-! ### raise -/
/-- class number i of errors -/
structure ErrC (P : Program) (w : World) (K : PySem.W.Frag) (mg : Str → Option Value) (base : Heap) (br : Brings) (i : Nat) (x pre : Str) : Prop where
  gl : mg x = some (.ref (br i))
  ox : OexC K (br i)
  na : PySem.W.findIn K (.ref (br i)) "what" = some none
  ini : ∃ fI fd, PySem.W.findIn K (.ref (br i)) "__init__" = some (some (.ref fI)) ∧ PySem.W.typeIn K (.ref fI) = some (.type "function") ∧ FnOk P w K mg base (L2.CX P w) 1 fI fd ["self", "what"] (spI K pre) ∧ Binds K fd ["self", "what"] []
def sRaise (i : Nat) (pre : Str) (fe : M R) : M Fl := fun S => (fe S).bind fun r S1 => match look S1 r with
  | some (.str s) => if pre.length + s.length ≤ 1000000 then .ex i (.str s) S1 else .no
  | _ => .no
section
variable {X : Cx} {z : Dx} {W : WX} {br : Brings} {i : Nat} {x pre : Str} {e : Expr} {fe : M R} {p pos pos' : Pos}
theorem S_raise (c : Ct X z W) (ec : ErrC X.prog X.w X.K X.mg X.base br i x pre) (hcl : z.cl = br) (hr : Room 2 X.A) (he : E X z W e fe) (hg : Gl X x := by rfl) (hdb : (x == ("__debug__" : Str)) = false := by decide)
    (hst : starEach [e] X.env = (false, eval e X.env) :: starEach [] X.env := by rfl) (hpl : (backTo pos (starEach [] X.env)).any (·.1) = false := by rfl) :
    Sm X z W (.Raise (some (.Call (.Name x p) [e] [] pos)) none pos') (sRaise i pre fe) := by
  obtain ⟨fI, fd, h1, h2, h3, h4⟩ := ec.ini
  refine ⟨PS.le (ps_raise c.calm c.tk (pmk_oex ec.ox h1 h2 h3 hr h4 .nil (fun _ _ _ _ u s1 I q => c.tk u s1 (XE.of_call I (fun _ _ _ z => z.elim) q)) hg ec.gl (pa_cons he.pe pa_nil hst) hdb hst hpl)) fun D σ H ⟨S, G, si, h⟩ => ?_⟩
  refine (stepS si h).mono fun v H1 ⟨ra, S1, G1, si1, g1, dn, q⟩ => ?_
  show [v].length ≤ 1000 ∧ _
  refine ⟨by simp, fun a ha => ?_⟩
  cases el : look S1 ra with
  | none => rw [el] at q; exact q.elim
  | some d =>
    rw [el] at q
    cases d with
    | str s =>
      simp only at q
      split at q
      · rename_i hz
        have vw := dn.view si1 el
        cases vw.str
        refine ⟨a, _, s, rfl, ec.ox, ec.na, upd_same, hz, fun dx n ne => ⟨rfl, dx, _, upd_same, by rw [upd_ne ne, upd_same], by rw [upd_ne ne] at n; exact n, ?_⟩⟩
        have n1 : H1 dx = none := by rw [upd_ne ne] at n; exact n
        have eH : upd (del (upd (upd (upd H1 a (exo a (br i) none)) dx (exd dx [(("what" : Str), V.str s)])) a (exo a (br i) (some dx))) a) dx (.xd [(("what" : Str), V.str s)]) = upd H1 dx (.xd [(("what" : Str), V.str s)]) := by
          funext b
          by_cases hb : b = dx
          · subst hb; rw [upd_same, upd_same]
          · rw [upd_ne hb, upd_ne hb]
            by_cases hb2 : b = a
            · subst hb2; rw [del_same, ha]
            · rw [del_ne hb2, upd_ne hb2, upd_ne hb, upd_ne hb2]
        rw [eH]
        have x1 : Ext H1 (upd H1 dx (.xd [(("what" : Str), V.str s)])) G1 G1 := Ext.own si1.le n1
        have wk := q σ _ G1 (si1.ext x1) x1.go
        have wk := wk dx (.str s) upd_same (.str s)
        rw [hcl] at wk
        exact wk
      · exact q.elim
    | _ => exact q.elim
end
end L2.Dl
/-! try: .. except X as n: .. except Y as n: .. -/
namespace L2.Dl
open PySem PySem.Spec PyProof.Rows
abbrev HdT := Value × (Addr → Value → Option Addr → TS)
/-- the wishes of the clauses, each with the name in slot i -/
def wClauses (K : PySem.W.Frag) (i : Nat) (Wo : WX) (D : Ends) : List HdT → WX
  | [] => Wo
  | p :: rest => fun k dx τ J => ∃ yes, PySem.W.exmOne K k p.1 = some yes ∧
      (yes = true → ∀ ad, J ad = none → p.2 ad k dx { nx := fun τ' J' => D.nx (τ'.set i none) J', rt := D.rt, bk := fun τ' J' => D.bk (τ'.set i none) J', ct := fun τ' J' => D.ct (τ'.set i none) J' } (τ.set i (some (.ref ad))) J) ∧
      (yes = false → wClauses K i Wo D rest k dx τ J)
inductive ClausesOk (X : Cx) (n : Str) : List ExceptHandler → List HdT → Prop
  | nil : ClausesOk X n [] []
  | cons {x : Str} {k : Value} {ts : Addr → Value → Option Addr → TS} {st : Stmt} {sts : List Stmt} {np hp : Pos} {hs : List ExceptHandler} {l : List HdT} (nm : Names X x k)
      (su : ∀ (ad : Addr) (ob : Obj) (cls : Value) (dx : Option Addr) (pn : List (Addr × Obj)), Zc cls dx ob → (∃ vs, ob.data = .fields vs) → PSs (X.suite ad ((ad, ob) :: pn)) (st :: sts) (ts ad cls dx)) (more : ClausesOk X n hs l) :
      ClausesOk X n (.ExceptHandler (some (.Name x np)) (some n) (st :: sts) hp :: hs) ((k, ts) :: l)
section
variable {X : Cx} {n : Str} {i : Nat} {body : List Stmt} {h₁ : ExceptHandler} {hs : List ExceptHandler} {l : List HdT} {pos : Pos} {tb : WX → TS} {Wo : WX}
theorem ps_try_clauses (hst : X.stack = X.env :: X.outer) (hfr : X.env.frame = some X.env.locals) (nd : X.N.Nodup) (hi : X.N[i]? = some n) (lcl : X.env.kindOf n = some .local) (tk : Takes X Wo)
    (hb : ∀ (W : WX) (pn : List (Addr × Obj)) (xe : Value → Shared → Prop), Takes (X.tr pn xe) W → PassesOwn (model X.prog X.w) X.A X.env xe → PSs (X.tr pn xe) body (tb W))
    (hh : ClausesOk X n (h₁ :: hs) l) : PS X (.Try body (h₁ :: hs) [] [] pos) (fun D σ H => tb (wClauses X.K i Wo D l) D σ H) := ⟨fun pins s σ H D I h => by
  have frames : X.A.frames = some (X.env :: X.outer) := by rw [I.ok.frames, hst]
  have isLoc : Loc X.env.scope n := .inl lcl
  refine wpAny_Try_except (wpAny_mono ((hb (wClauses X.K i Wo D l) (X.pn ++ pins) (fun e sA => wpAny (model X.prog X.w) X.A (noteFrame e X.env) (fun _ sB => wpAny (model X.prog X.w) X.A (setFlight e none) (fun _ sC =>
    wpAny (model X.prog X.w) X.A (handleBy e X.env (h₁ :: hs)) (SP X pins D) X.xe sC) X.xe sB) X.xe sA) (fun u s' xx => ?_) PassesOwn.looking).run [] s σ H D (I.toTry _) h) (fun f s1 hsp => ?_) (fun _ _ he => he))
  · obtain ⟨ad, B, sI, pins', τ, J, cls, dx, rfl, J', nb, up, sky, na, os, ag, wish⟩ := xx
    have ok := I.ok
    have JJ : Inv X pins τ J sI := J'.ofTry ok
    show wpAny (model X.prog X.w) X.A (noteFrame (.ref ad) X.env) _ _ _
    refine Sky.land Zc.steady frames hfr (by rw [← hst]; exact sky) fun hA flA upA => ?_
    have JA : Inv X pins τ J { s' with heap := hA } := JJ.landed nb flA.1 (up.trans upA) os ag
    obtain ⟨oA, vsA, geA, zcA, daA⟩ := flA.there
    have noFrame : ad ∉ frs (X.env :: X.outer) := fun hm => by
      obtain ⟨_, o', e', nf⟩ := flA.2.2.1.mem hm
      rw [geA] at e'; cases e'
      exact nf _ daA
    have nL : ad ≠ X.env.locals := fun q => noFrame (List.mem_filterMap.mpr ⟨X.env, List.mem_cons_self, by rw [hfr, q]⟩)
    have nF : ad ∉ X.fs := fun hm => by
      obtain ⟨en, he, q⟩ := List.mem_filterMap.mp hm
      exact noFrame (List.mem_filterMap.mpr ⟨en, List.mem_cons_of_mem _ he, q⟩)
    have SA := JA.suite geA daA na nL nF
    have walk : ∀ {hs' : List ExceptHandler} {l' : List HdT}, ClausesOk X n hs' l' → wClauses X.K i Wo D l' cls dx τ J → wpAny (model X.prog X.w) X.A (handleBy (.ref ad) X.env hs') (SP X pins D) X.xe { s' with heap := hA } := by
      intro hs' l' ck
      induction ck with
      | nil =>
        intro out
        refine wpAny_handleBy_nil ?_
        obtain ⟨_, _, _, o9, vs9, T9, _, ts9, ge9, zc9, da9, h19, hr9⟩ := id flA
        unfold PySem.passOn
        refine wpAny_bind (wpAny_field ge9 da9 h19 ?_)
        rw [if_neg (show ¬ ((Value.ref T9 == Value.none) = true) by simp)]
        have last : wpAny (model X.prog X.w) X.A (setFlight (.ref ad) X.env.frame) (fun _ sD => wpAny (model X.prog X.w) X.A (throw (.ref ad) : Sem Flow) (SP X pins D) X.xe sD) X.xe { s' with heap := hA } := by
          rw [hfr]
          exact HandSPX.setFlight_upZ flA fun hB' hhB upB => wpAny_throw (tk _ _ ⟨ad, B, sI, pins, τ, J, cls, dx, rfl, JJ, nb, (up.trans upA).trans upB, .inr (.inr (by rw [hst]; exact hhB)), na, os, ag, out⟩)
        first
          | exact wpAny_bind (wpAny_pure (wpAny_bind last))
          | exact wpAny_bind last
      | @cons x k ts st sts np hp hs2 l2 nm su more ih =>
        rintro ⟨yes, ey, hy, hn⟩
        refine wpAny_handleBy_cons (codeAny_handlers_test ?_) (by intro q; cases q)
        have tyA : PySem.W.Looks (model X.prog X.w) hA (typeOf (.ref ad)) cls := fun A Q E sQ kk q => wpAny_typeOf_ref (kk _ _ geA) (by rw [zcA.1]; exact q)
        have lk := PySem.W.exm_one (M := model X.prog X.w) JA.kIn tyA ey
        have nameIs : ∀ {Q : Value → Shared → Prop} {E : Value → Shared → Prop}, Q k { s' with heap := hA } → wpAny (model X.prog X.w) (X.A.mark (some (.ref ad))) (eval (.Name x np) X.env) Q E { s' with heap := hA } := by
          intro Q E q
          rcases nm with ⟨hg, hdb, hm | ⟨hm, hv, hnn⟩⟩
          · exact ld_glob (X := X.suite ad ((ad, oA) :: (X.pn ++ pins))) SA hg hm q hdb
          · exact ld_blt (X := X.suite ad ((ad, oA) :: (X.pn ++ pins))) SA hg hm hv q hnn hdb
        refine nameIs (lk.here ?_)
        cases yes with
        | false => exact ih (hn rfl)
        | true =>
          refine codeAny_handlers_suite_as (HandSPX.lands_againZ flA fun hC flC upC => ?_)
          have JC : Inv X pins τ J { s' with heap := hC } := JJ.landed nb flC.1 ((up.trans upA).trans upC) os ag
          obtain ⟨oC, vsC, geC, zcC, daC⟩ := flC.there
          have SC := JC.suite geC daC na nL nF
          refine store_ok (X := X.suite ad ((ad, oC) :: (X.pn ++ pins))) (v := .ref ad) SC nd hi isLoc rfl (fun sE SE => ?_) (.inr lcl)
          refine wpAny_mono ((su ad oC cls dx (X.pn ++ pins) zcC ⟨_, daC⟩).run [] sE _ J _ SE (hy rfl ad na)) (fun fl sF hsp => ?_) (fun _ _ q => q.elim)
          have gone : ∀ {τ6 : St} {J6 : Hp} {Q : Shared → Prop}, Inv (X.suite ad ((ad, oC) :: (X.pn ++ pins))) [] τ6 J6 sF → (∀ sG, Inv X pins (τ6.set i none) J6 sG → Q sG) →
              wpAny (model X.prog X.w) X.A (do bindName X.env n .none; unbindBehindTheSuite X.env n hp) (fun _ sG => Q sG) X.xe sF := fun S6 hq => gone_ok (S6.unsuite ok) nd hi lcl hq
          cases fl with
          | ret u =>
            obtain ⟨v6, τ6, J6, S6, r6, q6⟩ := hsp
            exact gone S6 fun sG JG => ⟨_, _, _, JG, r6, q6⟩
          | next =>
            obtain ⟨τ6, J6, S6, q6⟩ := hsp
            exact gone S6 fun sG JG => ⟨_, _, JG, q6⟩
          | brk =>
            obtain ⟨τ6, J6, S6, q6⟩ := hsp
            exact gone S6 fun sG JG => ⟨_, _, JG, q6⟩
          | cont =>
            obtain ⟨τ6, J6, S6, q6⟩ := hsp
            exact gone S6 fun sG JG => ⟨_, _, JG, q6⟩
    exact walk hh wish
  · have ok := I.ok
    cases f with
    | ret u =>
      obtain ⟨v, τ, J, JT, r, q⟩ := hsp
      exact ⟨v, τ, J, JT.ofTry ok, r, q⟩
    | next =>
      obtain ⟨τ, J, JT, q⟩ := hsp
      exact wpAny_execs_nil ⟨τ, J, JT.ofTry ok, q⟩
    | brk =>
      obtain ⟨τ, J, JT, q⟩ := hsp
      exact ⟨τ, J, JT.ofTry ok, q⟩
    | cont =>
      obtain ⟨τ, J, JT, q⟩ := hsp
      exact ⟨τ, J, JT.ofTry ok, q⟩⟩
end
end L2.Dl
/-! try over data: the clauses return what they make of the error's "what". -/
namespace L2.Dl
open PySem PySem.Spec PyProof.Rows
inductive HK where
  | what
  | pair (t : Str)
  | eq (t : Str)
def HK.app : HK → Str → D
  | .what, s => .str s
  | .pair t, s => .tup [.str t, .str s]
  | .eq t, s => .bl (s == t)
/-- where the clause's value stands -/
def HK.at_ : HK → Str → VK → Hp → Prop
  | .what, s, Q, H => Q (.str s) H
  | .pair t, s, Q, H => ∀ p, H p = none → Q (.ref p) (upd H p (.tup [.str t, .str s]))
  | .eq t, s, Q, H => Q (.bl (s == t)) H
def tHK (i : Nat) (C : Addr) (k : HK) : Addr → Value → Option Addr → TS := fun ad cls dx D σ H => ∃ (dd : Addr) (s : Str), σ[i]? = some (some (.ref ad)) ∧ cls = .ref C ∧ dx = some dd ∧ H dd = some (.xd [(("what" : Str), .str s)]) ∧ k.at_ s D.rt H
section
variable {X : Cx} {C ad : Addr} {ob : Obj} {cls : Value} {dx : Option Addr} {pn : List (Addr × Obj)} {i k0 : Nat} {n t : Str} {p p1 p2 p3 p4 p5 : Pos}
/-- error.what -/
theorem pe_what (T : XfC X.K C) (na : PySem.W.findIn X.K (.ref C) "what" = some none) (hz : Zc cls dx ob) (hf : ∃ vs, ob.data = .fields vs) (hN : X.N[i]? = some n) (hv : Vis X.env.scope n) (hd : (n == ("__debug__" : Str)) = false) (hcd : (n == ("__classdict__" : Str)) = false)
    (hb : attributeBase (.Name n p1) "what" X.env (eval (.Name n p1) X.env) = eval (.Name n p1) X.env) :
    PE (X.suite ad ((ad, ob) :: pn)) (.Attribute (.Name n p1) "what" p2) (fun σ H Q => ∃ (dd : Addr) (s : Str), σ[i]? = some (some (.ref ad)) ∧ cls = .ref C ∧ dx = some dd ∧ H dd = some (.xd [(("what" : Str), .str s)]) ∧ Q (.str s) H) :=
  PE.le (pe_xf T na hz hf (pe_var (X := X.suite ad ((ad, ob) :: pn)) hN hv hd hcd) hb) fun σ H Q ⟨dd, s, e1, e2, e3, e4, q⟩ => ⟨.ref ad, e1, rfl, e2, dd, _, .str s, e3, e4, rfl, q⟩
theorem su_what (T : XfC X.K C) (na : PySem.W.findIn X.K (.ref C) "what" = some none) (hz : Zc cls dx ob) (hf : ∃ vs, ob.data = .fields vs) (hN : X.N[i]? = some n) (hv : Vis X.env.scope n := by first | exact Or.inl rfl | exact Or.inr (Or.inl rfl) | exact Or.inr (Or.inr rfl))
    (hd : (n == ("__debug__" : Str)) = false := by decide) (hcd : (n == ("__classdict__" : Str)) = false := by decide) (hb : attributeBase (.Name n p1) "what" X.env (eval (.Name n p1) X.env) = eval (.Name n p1) X.env := by rfl) :
    PSs (X.suite ad ((ad, ob) :: pn)) [.Return (some (.Attribute (.Name n p1) "what" p2)) p] (tHK i C .what ad cls dx) :=
  PSs.le (pss_one (ps_ret (pe_what T na hz hf hN hv hd hcd hb))) fun D σ H ⟨dd, s, e1, e2, e3, e4, q⟩ => ⟨dd, s, e1, e2, e3, e4, q⟩
theorem su_pair (T : XfC X.K C) (na : PySem.W.findIn X.K (.ref C) "what" = some none) (hz : Zc cls dx ob) (hf : ∃ vs, ob.data = .fields vs) (hN : X.N[i]? = some n) (hv : Vis X.env.scope n := by first | exact Or.inl rfl | exact Or.inr (Or.inl rfl) | exact Or.inr (Or.inr rfl))
    (hd : (n == ("__debug__" : Str)) = false := by decide) (hcd : (n == ("__classdict__" : Str)) = false := by decide) (hb : attributeBase (.Name n p1) "what" X.env (eval (.Name n p1) X.env) = eval (.Name n p1) X.env := by rfl)
    (h1 : starEach [.Constant (.str t) k0 p4, .Attribute (.Name n p1) "what" p2] X.env = (false, eval (.Constant (.str t) k0 p4) X.env) :: starEach [.Attribute (.Name n p1) "what" p2] X.env := by rfl)
    (h2 : starEach [.Attribute (.Name n p1) "what" p2] X.env = (false, eval (.Attribute (.Name n p1) "what" p2) X.env) :: starEach [] X.env := by rfl) {x1 : Nat} :
    PSs (X.suite ad ((ad, ob) :: pn)) [.Return (some (.Tuple [.Constant (.str t) k0 p4, .Attribute (.Name n p1) "what" p2] x1 p3)) p] (tHK i C (.pair t) ad cls dx) :=
  PSs.le (pss_one (ps_ret (pe_tup (pa_cons pe_str (pa_cons (pe_what T na hz hf hN hv hd hcd hb) pa_nil h2) h1)))) fun D σ H ⟨dd, s, e1, e2, e3, e4, q⟩ => ⟨dd, s, e1, e2, e3, e4, by show 2 ≤ sizeLine; decide, fun p hp => q p hp⟩
theorem su_eq (T : XfC X.K C) (na : PySem.W.findIn X.K (.ref C) "what" = some none) (hz : Zc cls dx ob) (hf : ∃ vs, ob.data = .fields vs) (hN : X.N[i]? = some n) (hv : Vis X.env.scope n := by first | exact Or.inl rfl | exact Or.inr (Or.inl rfl) | exact Or.inr (Or.inr rfl))
    (hd : (n == ("__debug__" : Str)) = false := by decide) (hcd : (n == ("__classdict__" : Str)) = false := by decide) (hb : attributeBase (.Name n p1) "what" X.env (eval (.Name n p1) X.env) = eval (.Name n p1) X.env := by rfl) :
    PSs (X.suite ad ((ad, ob) :: pn)) [.Return (some (.Compare (.Attribute (.Name n p1) "what" p2) [.Eq] [.Constant (.str t) k0 p4] p3)) p] (tHK i C (.eq t) ad cls dx) :=
  PSs.le (pss_one (ps_ret (pe_cmpR op_eq (pe_what T na hz hf hN hv hd hcd hb) pe_str (by rfl)))) fun D σ H ⟨dd, s, e1, e2, e3, e4, q⟩ => ⟨dd, s, e1, e2, e3, e4, rfl, by
    have e : decide (V.str s = V.str t) = (s == t) := by rw [Bool.eq_iff_iff]; simp
    show D.rt (.bl (decide (V.str s = V.str t))) H
    rw [e]; exact q⟩
end
/-- try: a body; clauses by class number; n: how many classes there are -/
def sTry (n i : Nat) (fb : M Fl) (hs : List (Nat × HK)) : M Fl := fun S => match fb S with
  | .ex c w S1 => if c < n ∧ i < S1.length then (match hs.find? (fun h => h.1 == c), w with
    | some h, .str s => .ok (.rt (h.2.app s) false) (S1.set i .un)
    | _, _ => .no) else .no
  | r => r
/-- a class of errors that a clause names -/
structure HdC (K : PySem.W.Frag) (mg : Str → Option Value) (br : Brings) (c : Nat) (x : Str) : Prop where
  gl : mg x = some (.ref (br c))
  na : PySem.W.findIn K (.ref (br c)) "what" = some none
  xf : XfC K (br c)
section
variable {X : Cx} {z : Dx} {W : WX} {br : Brings} {n : Str} {i nc : Nat} {body : List Stmt} {h₁ : ExceptHandler} {hds : List ExceptHandler} {hs : List (Nat × HK)} {pos : Pos} {fb : M Fl}
abbrev hdl (i : Nat) (br : Brings) (hs : List (Nat × HK)) : List HdT := hs.map fun h => (.ref (br h.1), tHK i (br h.1) h.2)
theorem clauses_find {Wo : WX} {D : Ends} {c : Nat} {d : Addr} {s : Str} {σ' : L2.St} {H' : Hp} {K : PySem.W.Frag} {h : Nat × HK} : ∀ {hs : List (Nat × HK)}, (∀ g ∈ hs, PySem.W.exmOne K (.ref (br c)) (.ref (br g.1)) = some (decide (c = g.1))) → hs.find? (fun g => g.1 == c) = some h →
    i < σ'.length → H' d = some (.xd [(("what" : Str), .str s)]) → (∀ ad, H' ad = none → h.2.at_ s D.rt H') → wClauses K i Wo D (hdl i br hs) (.ref (br c)) (some d) σ' H'
  | [], _, e, _, _, _ => by simp at e
  | g :: hs, hx, e, hi, hd, q => by
    show ∃ yes, _
    refine ⟨_, hx g List.mem_cons_self, fun hy ad ha => ?_, fun hn => ?_⟩
    · have hc : c = g.1 := of_decide_eq_true hy
      rw [List.find?_cons_of_pos (by simp [hc])] at e
      cases e
      exact ⟨d, s, List.getElem?_set_self hi, by rw [hc], rfl, hd, q ad ha⟩
    · have hc : ¬ c = g.1 := of_decide_eq_false hn
      rw [List.find?_cons_of_neg (by simpa using fun z => hc z.symm)] at e
      exact clauses_find (fun g' hg => hx g' (List.mem_cons_of_mem _ hg)) e hi hd q
theorem S_try (c : Ct X z W) (hcl : z.cl = br) (hi : X.N[i]? = some n) (hb : ∀ (W' : WX) (pn : List (Addr × Obj)) (xe : Value → Shared → Prop), Ct (X.tr pn xe) z W' → Sms (X.tr pn xe) z W' body fb)
    (hh : ClausesOk X n (h₁ :: hds) (hdl i br hs)) (hx : ∀ c, c < nc → ∀ g ∈ hs, PySem.W.exmOne X.K (.ref (br c)) (.ref (br g.1)) = some (decide (c = g.1)))
    (hst : X.stack = X.env :: X.outer := by rfl) (hfr : X.env.frame = some X.env.locals := by rfl) (lcl : X.env.kindOf n = some .local := by rfl) :
    Sm X z W (.Try body (h₁ :: hds) [] [] pos) (sTry nc i fb hs) := by
  refine ⟨PS.le (ps_try_clauses hst hfr c.nd hi lcl c.tk (fun W' pn xe tk po => (hb W' pn xe ⟨c.hk, c.calm, po, tk, c.nd⟩).ps) hh) fun D σ H ⟨S, G, si, h⟩ => ⟨S, G, si, ?_⟩⟩
  unfold sTry at h
  cases e : fb S with
  | no => rw [e] at h; exact h
  | ok fl S1 => rw [e] at h; cases fl <;> exact h
  | ex cn w S1 =>
    rw [e] at h
    simp only at h
    split at h
    · rename_i hcn
      split at h
      · rename_i _ _ hd s ef
        intro σ' H' G' si' g
        intro dd v hdd rv
        cases rv
        rw [hcl]
        have hlt : i < σ'.length := by
          rw [← si'.len]
          exact hcn.2
        · refine clauses_find (hx cn hcn.1) ef hlt hdd fun ad ha => ?_
          have su : SI z (S1.set i .un) (σ'.set i (some (.ref ad))) H' G' := si'.store (w := .un) trivial
          have gu : Go S1 (S1.set i .un) σ' (σ'.set i (some (.ref ad))) H' H' G' G' := by
            refine ⟨.refl _, fun _ _ q _ => .inl q, fun a ⟨j, t, d', q1, q2⟩ => ?_, fun _ _ q => .inl q, fun _ q => q⟩
            rcases SI.get_set q1 with ⟨_, q⟩ | ⟨hj, q⟩
            · cases q
            · rw [List.getElem?_set_ne (Ne.symm hj)] at q2
              exact .inl ⟨j, t, d', q, q2⟩
          cases hk : hd.2 with
          | what =>
            rw [hk] at h
            exact h _ _ H' G' su (g.trans gu) (.str s)
          | eq t =>
            rw [hk] at h
            exact h _ _ H' G' su (g.trans gu) (.bl _)
          | pair t =>
            rw [hk] at h
            intro p hp
            have x1 : Ext H' (upd H' p (.tup [.str t, .str s])) G' (upd G' p (.tup [.str t, .str s])) := Ext.new si'.le hp
            exact h _ _ _ _ (su.ext x1) ((g.trans gu).trans x1.go) (.tup (SqT.of upd_same) (.cons (.str t) (.cons (.str s) .nil)))
      · exact h.elim
    · exact h.elim
end
end L2.Dl
/-! {k: v}; xs.index(y); a def that calls itself. -/
namespace L2.Dl
open PySem PySem.Spec PyProof.Rows
section
variable {z : Dx} {W : WX} {S S1 : SS} {G G1 H H1 : Hp} {σ : L2.St} {Q : VK}
/-- the first part is read, its result shared; what it gave is told -/
theorem stepE {fa : M R} (si : SI z S σ H G) (hno : fa S ≠ .no) (hex : ∀ c w S1, fa S = .ex c w S1 → ∀ H' G', SI z S1 σ H' G' → Go S S1 σ σ H H' G G' → WOk z W G' σ H' c w) :
    tD z W fa σ H fun x H1 => ∃ ra S1 G1, fa S = .ok ra S1 ∧ SI z S1 σ H1 G1 ∧ Go S S1 σ σ H H1 G G1 ∧ DenS z σ G1 x ra := by
  refine ⟨S, G, si, ?_⟩
  cases e : fa S with
  | ok ra S1 =>
    intro v H1 G1 si1 g1 dn
    cases ra with
    | v d => exact ⟨.v d, S1, G1, rfl, si1, g1, dn⟩
    | f d =>
      obtain ⟨p, rfl, h1, h2, h3, h4⟩ := dn
      obtain ⟨o, ho⟩ := h4.there
      have gl : GLe G1 (upd G1 p o) := fun a u q => by rw [upd_ne (ne_of_none q h2)]; exact q
      refine ⟨.f d, S1, _, rfl, si1.add ho h2 h3 (h4.nt ho), ⟨g1.ge.trans gl, fun a o' q n => (g1.fr a o' q n).ge gl, g1.ow, fun a u q => ?_, g1.th⟩, h4.rep ho gl upd_same⟩
      by_cases e : a = p
      · subst e; exact .inr (.inl h1)
      · rw [upd_ne e] at q; exact g1.nw a u q
    | «at» i => exact ⟨.at i, S1, G1, rfl, si1, g1, dn⟩
  | ex c w S1 => exact hex c w S1 e
  | no => exact hno e
end
section
variable {X : Cx} {z : Dx} {W : WX} {a b o e : Expr} {fa fb : M R} {pos apos cpos : Pos}
/-! ### {k: v} -/
def sDisp1 (fk fv : M R) : M R := fun S => (fk S).bind fun rk S1 => (fv S1).bind fun rv S2 => match valR S2 rv with
  | none => .no
  | some (d, S3) => match look S3 rk with
    | none => .no
    | some k => match keyOf k with
      | none => .no
      | some kk => .ok (.f (.dct [(kk, d)])) S3
theorem kV_of {G H : Hp} {v : V} {d : D} {k : Key} (r : View z G H v d) (h : Dl.keyOf d = some k) : v = kV k := by
  unfold Dl.keyOf at h
  split at h
  · cases h; exact r.int
  · cases h; exact r.str
  · cases h
theorem E_disp1 (ha : E X z W a fa) (hb : E X z W b fb) : E X z W (.Dict [some a] [b] pos) (sDisp1 fa fb) := by
  refine ⟨PE.le (pe_disp (pps_cons ha.pe hb.pe pps_nil) rfl rfl (by simp) (by simp)) fun σ H Q ⟨S, G, si, h⟩ p hp => ?_, ha.k⟩
  have x1 : Ext H (upd H p (.dK [])) G G := Ext.own si.le hp
  have gp : G p = none := si.le.none hp
  have np : ¬ Owns S σ p := fun q => by
    obtain ⟨_, ob, e⟩ := si.ownFree q
    rw [hp] at e; cases e
  unfold sDisp1 at h
  refine (stepE (W := W) (fa := fa) (si.ext x1) (fun e => by rw [e] at h; exact h.elim) (fun c w S1 e H' G' s1 g1 => by rw [e] at h; exact h H' G' s1 (x1.go.trans g1))).mono fun x H1 ⟨rk, S1, G1, e1, si1, g1, da⟩ => ?_
  rw [e1] at h
  simp only [Res.bind] at h
  refine (stepE (W := W) (fa := fb) si1 (fun e => by rw [e] at h; exact h.elim) (fun c w S2 e H' G' s2 g2 => by rw [e] at h; exact h H' G' s2 (x1.go.trans (g1.trans g2)))).mono fun y H2 ⟨rv, S2, G2, e2, si2, g2, db⟩ => ?_
  rw [e2] at h
  simp only at h
  cases ev : valR S2 rv with
  | none => rw [ev] at h; exact h.elim
  | some q =>
    obtain ⟨d, S3⟩ := q
    rw [ev] at h
    simp only at h
    obtain ⟨G3, si3, g3, r3⟩ := valR_run si2 db ev
    cases ek : look S3 rk with
    | none => rw [ek] at h; exact h.elim
    | some k =>
      rw [ek] at h
      simp only at h
      cases ekk : Dl.keyOf k with
      | none => rw [ekk] at h; exact h.elim
      | some kk =>
        rw [ekk] at h
        simp only at h
        have hx := kV_of (((da.mono g2.ge).mono g3.ge).view si3 ek) ekk
        have gg := (g1.trans g2).trans g3
        have g3p : G3 p = none := by
          cases e : G3 p with
          | none => rfl
          | some u =>
            rcases gg.nw p u e with q | q | q
            · rw [gp] at q; cases q
            · rw [upd_same] at q; cases q
            · exact absurd q np
        have h2p : H2 p = some (.dK []) := (gg.fr p _ upd_same np).own g3p
        have no3 : ¬ Owns S3 σ p := fun q => by
          rcases gg.ow p q with q | q
          · exact np q
          · rw [upd_same] at q; cases q
        refine ⟨h2p, [(kk, y)], by rw [hx]; rfl, by simp, ?_⟩
        show Q (.ref p) (upd H2 p (.dK [(kk, y)]))
        -- the dict at p is written: nobody else knows it
        have le' : LeH G3 (upd H2 p (.dK [(kk, y)])) := fun a u q => by
          have ne : a ≠ p := fun e => by subst e; rw [g3p] at q; cases q
          exact (si3.le a u q).imp (fun w => ⟨by rw [upd_ne ne]; exact w.1, w.2⟩) (Or.imp (fun w => by rw [upd_ne ne]; exact w) fun w => w.keep fun b' o' e' n' => by
            have nb : b' ≠ p := fun e'' => by subst e''; rw [h2p] at e'; cases e'; exact n' trivial
            rw [upd_ne nb]; exact e')
        have si4 : SI z S3 σ (upd H2 p (.dK [(kk, y)])) G3 := ⟨si3.len, le', si3.shr, fun i t d' e => by
          obtain ⟨a', q1, q2, q3, q4⟩ := si3.own i t d' e
          have ne : a' ≠ p := fun z' => no3 ⟨i, t, d', e, by rw [← z']; exact q1⟩
          exact ⟨a', q1, q2, q3.mono (.refl _) (fun o' e' => by rw [upd_ne ne]; exact e'), q4⟩, si3.sep, fun a' e => by
          by_cases hz : a' = p
          · subst hz; rw [upd_same] at e; cases e
          · rw [upd_ne hz] at e; exact si3.dom a' e, si3.tab⟩
        have g4 : Go S S3 σ σ H (upd H2 p (.dK [(kk, y)])) G G3 := ⟨gg.ge, fun a' o' e n => by
          have ne : a' ≠ p := ne_of_none e hp
          have q := gg.fr a' o' (by rw [upd_ne ne]; exact e) n
          rcases q with q | ⟨q1, q2, ob, q3⟩ | ⟨q1, ps, ps', q2, q3⟩
          · exact .inl (by rw [upd_ne ne]; exact q)
          · exact .inr (.inl ⟨q1, q2, ob, by rw [upd_ne ne]; exact q3⟩)
          · exact .inr (.inr ⟨q1, ps, ps', q2, by rw [upd_ne ne]; exact q3⟩), fun a' q => by
          rcases gg.ow a' q with w | w
          · exact .inl w
          · by_cases hz : a' = p
            · subst hz; exact .inr hp
            · rw [upd_ne hz] at w; exact .inr w, fun a' u e => by
          rcases gg.nw a' u e with w | w | w
          · exact .inl w
          · by_cases hz : a' = p
            · subst hz; exact .inr (.inl hp)
            · rw [upd_ne hz] at w; exact .inr (.inl w)
          · exact .inr (.inr w), fun a' e => by
          by_cases hz : a' = p
          · subst hz; exact hp
          · rw [upd_ne hz] at e
            have := gg.th a' e
            rw [upd_ne hz] at this
            exact this⟩
        exact h (.ref p) _ G3 si4 g4 ⟨p, rfl, hp, g3p, no3, [(kk, y)], upd_same, rfl, .cons r3 .nil⟩
/-! ### xs.index(y) -/
def gIndex : List D → Option R
  | [.lst l, y] => if y.sc = true ∧ l.all D.sc = true then (match l.findIdx? fun u => eqS u y with
    | some j => some (.v (.int (j : Nat)))
    | none => none) else none
  | _ => none
def sIdx (fa fb : M R) : M R := fun S => (fa S).bind fun ra S1 => match lookLst S1 ra with
  | none => .no
  | some _ => (fb S1).bind fun rb S2 => lift (do let da ← look S2 ra; let db ← look S2 rb; gIndex [da, db]) S2
theorem E_index (hk : z.K = X.K) (ha : E X z W o fa) (hb : E X z W e fb) (hbase : attributeBase o "index" X.env (eval o X.env) = eval o X.env := by rfl)
    (hfew : ((backTo cpos (starEach [e] X.env)).all (fun x => !x.1) && (backToKw cpos (keywordEach [] X.env)).all (fun x => x.1.isSome)
      && decide ([e].length + ([] : List Keyword).length + (if ([] : List Keyword).isEmpty then 0 else 1) < 30)) = true := by rfl)
    (hline : (apos.endLine == cpos.line) = true := by rfl) (hs : starEach [e] X.env = (false, eval e X.env) :: starEach [] X.env := by rfl) (hplain : (backTo cpos (starEach [] X.env)).any (·.1) = false := by rfl) :
    E X z W (.Call (.Attribute o "index" apos) [e] [] cpos) (sIdx fa fb) := by
  refine ⟨PE.le (pe_bm PySem.F.plainAttrs_list PySem.F.slot_list_index PySem.F.type_list_index mt_index ha.pe (pa_cons hb.pe pa_nil hs) hbase hfew hline hs hplain) fun σ H Q ⟨S, G, si, h⟩ => ?_, hk⟩
  refine (step si h).mono fun x H1 ⟨ra, S1, G1, si1, _, da, h1⟩ => ?_
  cases el : lookLst S1 ra with
  | none => rw [el] at h1; exact h1.elim
  | some l0 =>
    rw [el] at h1
    simp only at h1
    have lk : look S1 ra = some (.lst l0) := by
      unfold lookLst at el
      split at el
      · rename_i l' e'; cases el; exact e'
      · cases el
    obtain ⟨p, xs0, rfl, hp0, _⟩ := (da.view si1 lk).lst si1.le
    refine ⟨.inl ⟨rfl, xs0, SqL.of hp0⟩, (step si1 h1).mono fun y H2 ⟨rb, S2, G2, si2, g2, db, h2⟩ => ?_⟩
    cases e1 : look S2 ra with
    | none => rw [e1] at h2; exact h2.elim
    | some d1 =>
      cases e2 : look S2 rb with
      | none => rw [e1, e2] at h2; exact h2.elim
      | some d2 =>
        rw [e1, e2] at h2
        have h2 : Post z W S2 G2 H2 σ Q (lift (gIndex [d1, d2]) S2) := h2
        unfold gIndex at h2
        split at h2
        · rename_i l y' he
          cases he
          split at h2
          · rename_i hz
            cases ef : l.findIdx? fun u => eqS u d2 with
            | none => rw [ef] at h2; exact h2.elim
            | some j =>
              rw [ef] at h2
              obtain ⟨a', ys, ea, hpa, rl⟩ := ((da.mono g2.ge).view si2 e1).lst si2.le
              obtain ⟨v1, v2⟩ := sc_view hz.1 (db.view si2 e2)
              obtain ⟨w1, w2⟩ := scs_rep hz.2 rl
              obtain ⟨hj, q1, q2⟩ := List.findIdx?_eq_some_iff_getElem.mp ef
              have alls := List.all_eq_true.mp hz.2
              refine ⟨a', ys, y, j, scV l[j], ea, rfl, SqL.of hpa, v2, w2, ?_, ?_, fun m z' hm hz' => ?_, h2 (.int (j : Nat)) H2 G2 si2 .refl (.int _)⟩
              · rw [w1, List.getElem?_map, List.getElem?_eq_getElem hj]; rfl
              · rw [v1, eqS_V (alls _ (List.getElem_mem hj)) hz.1]; exact q1
              · rw [w1, List.getElem?_map, List.getElem?_eq_getElem (by omega)] at hz'
                cases hz'
                rw [v1, eqS_V (alls _ (List.getElem_mem _)) hz.1]
                simpa using q2 m hm
          · exact h2.elim
        · exact h2.elim
end
/-! ### a def that calls itself: the ground -/
theorem fn_zero {P : Program} {w : World} {K : PySem.W.Frag} {mg : Str → Option Value} {base : Heap} {br : Brings} {k : Nat} {f : Addr} {fd : FuncData} {ps : List Str} {md : List Bool} : FnOk P w K mg base (L2.CX P w) k f fd ps (spD br K md fun _ => .no) :=
  ⟨fun vs H Q E ⟨G, ds, _, _, _, _, h⟩ => h.elim, fun A outer s H args us vs Q E _ _ _ _ ⟨G, ds, _, _, _, _, h⟩ => h.elim⟩
end L2.Dl
/-! What the head tells of the classes of errors. -/
namespace L2.Dl
open PySem PySem.Spec PyProof.Rows LamX
def oexB (K : PySem.W.Frag) (C : Addr) : Bool := (match K.lookup C with
  | some ⟨.type "type", _, .cls cd, sl⟩ => (match cd.mro, sl.toList with
    | .ref C' :: bm, [_, _, _, _, some (.builtin n), _] => C' == C && (n == "ValueError.__new__" && (!cd.hasDel && (cd.hasDict && PySem.HandSPX.refsVE bm)))
    | _, _ => false)
  | _ => false) && (decide (PySem.W.findIn K (.ref C) "__setattr__" = some (some (.builtin "object.__setattr__"))) && (decide (PySem.W.subIn K (.ref C) (.type "BaseException") = some true) && (decide (PySem.W.typeIn K (.ref C) = some (.type "type")) && PySem.W.keepIn K (.ref C))))
theorem oexB_ok {K : PySem.W.Frag} {C : Addr} (h : oexB K C = true) : OexC K C := by
  unfold oexB at h
  obtain ⟨h1, h⟩ := Bool.and_eq_true_iff.mp h
  obtain ⟨h2, h⟩ := Bool.and_eq_true_iff.mp h
  obtain ⟨h3, h⟩ := Bool.and_eq_true_iff.mp h
  obtain ⟨h4, h5⟩ := Bool.and_eq_true_iff.mp h
  refine ⟨?_, of_decide_eq_true h2, of_decide_eq_true h3, of_decide_eq_true h4, h5⟩
  split at h1
  · rename_i dd cd sl ho
    split at h1
    · rename_i C' bm k0 k1 k2 k3 n k5 hm hs
      simp only [Bool.and_eq_true, beq_iff_eq, Bool.not_eq_true'] at h1
      obtain ⟨rfl, rfl, hdel, hdict, hr⟩ := h1
      obtain ⟨nm, bs, mro, nsp, qn, hd, sn, sub, ab, col, del⟩ := cd
      dsimp only at hm hdel hdict
      subst hm hdel hdict
      have hsl : sl = #[k0, k1, k2, k3, some (.builtin "ValueError.__new__"), k5] := by
        obtain ⟨l⟩ := sl
        simp only at hs
        rw [hs]
      subst hsl
      exact ⟨nm, qn, nsp, bs, bm, sn, sub, ab, col, dd, k0, k1, k2, k3, k5, ho, hr⟩
    · cases h1
  · cases h1
def errB (K : PySem.W.Frag) (x : Str) : Bool := oexB K (He.ga K x) && (decide (PySem.W.findIn K (.ref (He.ga K x)) "what" = some none) && (xfB K (He.ga K x) &&
  (decide (PySem.W.findIn K (.ref (He.ga K x)) "__init__" = some (some (.ref (He.fAd K (x, some "__init__"))))) && decide (PySem.W.typeIn K (.ref (He.fAd K (x, some "__init__"))) = some (.type "function")))))
def baseB (K : PySem.W.Frag) (x : Str) : Bool := decide (PySem.W.specialIn K (.ref (He.ga K x)) "__getattribute__" = some (some (.builtin "type.__getattribute__"))) && (decide (PySem.W.typeIn K (.ref (He.ga K x)) = some (.type "type")) &&
  (PySem.W.readsIn K (He.ga K x) (.type "type") && (match PySem.W.findCls K (.ref (He.ga K x)) (.type "type") "__init__" with
  | some (.val v) => decide (v = .builtin "ValueError.__init__")
  | _ => false)))
theorem baseB_ok {K : PySem.W.Frag} {x : Str} (h : baseB K x = true) : BaseC K (He.ga K x) := by
  unfold baseB at h
  obtain ⟨h1, h⟩ := Bool.and_eq_true_iff.mp h
  obtain ⟨h2, h⟩ := Bool.and_eq_true_iff.mp h
  obtain ⟨h3, h4⟩ := Bool.and_eq_true_iff.mp h
  refine ⟨of_decide_eq_true h1, of_decide_eq_true h2, h3, ?_⟩
  split at h4
  · rename_i v e; rw [e, of_decide_eq_true h4]
  · cases h4
/-- no class of errors is another one -/
def exsB (K : PySem.W.Frag) (cls : List Str) : Bool := (List.range cls.length).all fun i => (List.range cls.length).all fun j => decide (PySem.W.exmOne K (.ref (He.ga K (cls.getD i ""))) (.ref (He.ga K (cls.getD j ""))) = some (decide (i = j)))
def exE (tf : List He.Defn) (base : Str) (cls : List Str) (K : PySem.W.Frag) : Bool := exT tf K && (baseB K base && (cls.all (errB K) && exsB K cls))
/-- the facts together -/
structure ExF (K : PySem.W.Frag) (tf : List He.Defn) (base : Str) (cls : List Str) : Prop where
  tabs : (tf.map fun p => (He.cT K p).2).Nodup
  base : BaseC K (He.ga K base)
  err : ∀ x ∈ cls, errB K x = true
  xm : ∀ i, i < cls.length → ∀ j, j < cls.length → PySem.W.exmOne K (.ref (He.ga K (cls.getD i ""))) (.ref (He.ga K (cls.getD j ""))) = some (decide (i = j))
theorem exE_ok {K : PySem.W.Frag} {tf : List He.Defn} {base : Str} {cls : List Str} (h : exE tf base cls K = true) : ExF K tf base cls := by
  unfold exE at h
  obtain ⟨h1, h⟩ := Bool.and_eq_true_iff.mp h
  obtain ⟨h2, h⟩ := Bool.and_eq_true_iff.mp h
  obtain ⟨h3, h4⟩ := Bool.and_eq_true_iff.mp h
  refine ⟨of_decide_eq_true h1, baseB_ok h2, fun x hx => List.all_eq_true.mp h3 x hx, fun i hi j hj => ?_⟩
  exact of_decide_eq_true (List.all_eq_true.mp (List.all_eq_true.mp h4 i (List.mem_range.mpr hi)) j (List.mem_range.mpr hj))
section
variable {P : Program} {w : World} {K : PySem.W.Frag} {mg : Str → Option Value} {base : Heap} {x pre bs : Str} {i : Nat} {fd : FuncData} {tf : List He.Defn} {cls : List Str} {tfq : List (He.Defn × Str)}
theorem errC_of (F : ExF K tf bs cls) (hi : cls.getD i "" = x) (hx : x ∈ cls) (g : mg x = some (.ref (He.ga K x))) (F1 : FnOk P w K mg base (L2.CX P w) 1 (He.fAd K (x, some "__init__")) fd ["self", "what"] (spI K pre)) (b : Binds K fd ["self", "what"] []) :
    ErrC P w K mg base (brOf K cls tfq) i x pre := by
  have h := F.err x hx
  unfold errB at h
  obtain ⟨h1, h⟩ := Bool.and_eq_true_iff.mp h
  obtain ⟨h2, h⟩ := Bool.and_eq_true_iff.mp h
  obtain ⟨h3, h⟩ := Bool.and_eq_true_iff.mp h
  obtain ⟨h4, h5⟩ := Bool.and_eq_true_iff.mp h
  have e : (brOf K cls tfq) i = He.ga K x := by show He.ga K (cls.getD i "") = _; rw [hi]
  exact ⟨by rw [e]; exact g, by rw [e]; exact oexB_ok h1, by rw [e]; exact of_decide_eq_true h2, _, fd, by rw [e]; exact of_decide_eq_true h4, of_decide_eq_true h5, F1, b⟩
theorem hdC_of (F : ExF K tf bs cls) (hi : cls.getD i "" = x) (hx : x ∈ cls) (g : mg x = some (.ref (He.ga K x))) : HdC K mg (brOf K cls tfq) i x := by
  have h := F.err x hx
  unfold errB at h
  obtain ⟨h1, h⟩ := Bool.and_eq_true_iff.mp h
  obtain ⟨h2, h⟩ := Bool.and_eq_true_iff.mp h
  obtain ⟨h3, h⟩ := Bool.and_eq_true_iff.mp h
  have e : (brOf K cls tfq) i = He.ga K x := by show He.ga K (cls.getD i "") = _; rw [hi]
  exact ⟨by rw [e]; exact g, by rw [e]; exact of_decide_eq_true h2, by rw [e]; exact xfB_ok h3⟩
end
/-- classes apart, by number -/
def XM (K : PySem.W.Frag) (br : Brings) (n : Nat) : Prop := ∀ i, i < n → ∀ j, j < n → PySem.W.exmOne K (.ref (br i)) (.ref (br j)) = some (decide (i = j))
theorem xm_of {K : PySem.W.Frag} {tf : List He.Defn} {bs : Str} {cls : List Str} {tfq : List (He.Defn × Str)} (F : ExF K tf bs cls) : XM K (brOf K cls tfq) cls.length := F.xm
theorem xm_at {K : PySem.W.Frag} {br : Brings} {n : Nat} {hs : List (Nat × HK)} (h : XM K br n) (hl : (hs.all fun g => decide (g.1 < n)) = true) : ∀ c, c < n → ∀ g ∈ hs, PySem.W.exmOne K (.ref (br c)) (.ref (br g.1)) = some (decide (c = g.1)) := fun c hc g hg =>
  h c hc g.1 (of_decide_eq_true (List.all_eq_true.mp hl g hg))
/-! the class's __init__ in the text -/
def clsBody : Stmt → List Stmt
  | .ClassDef (body := b) .. => b
  | _ => []
section
variable {X : Cx} {z : Dx} {W : WX} {k : Nat}
/-- sorted(xs, key=def) -/
theorem E_sf {j : Nat} {x y : Str} {a : Expr} {fa : M R} {Fn : List D → FR} {br : Brings} {nm : Option Str} {p fp kpos pos : Pos} (h : Cl X.prog X.w X.K X.mg X.base br y [x] [false] j Fn) (hcl : z.cl = br) (hr : Room k X.A) (hm : X.mg "sorted" = none) (ha : E X z W a fa) (hj : j + 2 ≤ k := by decide)
    (hg : Gl X "sorted" := by rfl) (hgf : Gl X y := by rfl) (hdb : (y == ("__debug__" : Str)) = false := by decide)
    (hs : starEach [a] X.env = (false, eval a X.env) :: starEach [] X.env := by rfl)
    (he : backTo pos (starEach [a] X.env) = (false, eval a X.env) :: backTo pos (starEach [] X.env) := by rfl) (hpl : (backTo pos (starEach [a] X.env)).any (·.1) = false := by rfl)
    (hall : (backToKw pos (keywordEach [⟨nm, .Name y fp, kpos⟩] X.env)).all (·.1.isSome) = true := by rfl) (hnone : (backToKw pos (keywordEach [⟨nm, .Name y fp, kpos⟩] X.env)).any (·.1.isNone) = false := by rfl)
    (hks : (backToKw pos (keywordEach [⟨nm, .Name y fp, kpos⟩] X.env)).filterMap (·.1) = [Str.ofString "key"] := by rfl) :
    E X z W (.Call (.Name "sorted" p) [a] [⟨nm, .Name y fp, kpos⟩] pos) (sSortF Fn fa) := by
  obtain ⟨f, fd, F, hmf, _, hb⟩ := h.ex
  exact E_sortF F hcl (hr.mono hj) hb hmf hm ha hg hgf hdb hs he hpl hall hnone hks
end
end L2.Dl
/-! zip of three, each a list or a tuple. -/
namespace L2.Dl
open PySem PySem.Spec PyProof.Rows
/-- a list (true) or a tuple -/
def SQk (k : Bool) (K : PySem.W.Frag) (H : Hp) (a : Addr) (xs : List V) : Prop := if k then SqL K H a xs else SqT K H a xs
def SeqH (k : Bool) (h : Heap) (a : Addr) (its : Array Value) : Prop := if k then h.IsList a its else h.IsTuple a its
def IterH (k : Bool) (h : Heap) (it a : Addr) (i : Nat) : Prop := if k then h.IsListIter it a i else h.IsTupleIter it a i
def iterO (k : Bool) (a : Addr) : Obj := if k then { cls := .type "list_iterator", data := .fields #[.ref a, .int 0 0] } else { cls := .type "tuple_iterator", data := .fields #[.ref a, .int 0 0] }
theorem seqH_of {X : Cx} {pins : List (Addr × Obj)} {σ : L2.St} {H : Hp} {s : Shared} {k : Bool} {a : Addr} {xs : List V} (I : Inv X pins σ H s) (h : SQk k X.K H a xs) : ∃ its : List Value, Vals xs its ∧ SeqH k s.heap a its.toArray := by
  cases k with
  | true =>
    obtain ⟨its, rv, p, _⟩ := I.list h
    exact ⟨its, rv, p.isList⟩
  | false =>
    obtain ⟨its, rv, p, _⟩ := I.tuple h
    obtain ⟨o, e, e2, n, d⟩ := p
    exact ⟨its, rv, ⟨_, e, by assumption, by exact ⟨_, d⟩⟩⟩
theorem iterH_at {k : Bool} {h h' : Heap} {it a : Addr} {i : Nat} (x : IterH k h it a i) (e : ∀ o, h.get? it = some o → h'.get? it = some o) : IterH k h' it a i := by
  cases k with
  | true => exact Heap.IsListIter.at (show h.IsListIter it a i from x) e
  | false => exact Heap.IsTupleIter.at (show h.IsTupleIter it a i from x) e
theorem iterH_obj {k : Bool} {h : Heap} {it a : Addr} {i : Nat} (x : IterH k h it a i) : ∃ o, h.get? it = some o ∧ ∀ v, o.data ≠ .cell v := by
  cases k with
  | true => obtain ⟨o, e, _, d⟩ := (show h.IsListIter it a i from x); exact ⟨o, e, fun v q => by rw [d] at q; cases q⟩
  | false => obtain ⟨o, e, _, d⟩ := (show h.IsTupleIter it a i from x); exact ⟨o, e, fun v q => by rw [d] at q; cases q⟩
theorem iterH_0 {k : Bool} {h : Heap} {it a : Addr} (e : h.get? it = some (iterO k a)) : IterH k h it a 0 := by
  cases k with
  | true => exact ⟨_, e, rfl, rfl⟩
  | false => exact ⟨_, e, rfl, rfl⟩
theorem drawsH {P : Program} {w : World} {A : Around} (hh : A.handled = none) (k : Bool) (it a : Addr) (ne : a ≠ it) (its : Array Value) : Draws P w A it [it, a] its.size (fun i v => its[i]? = some v) (fun i h => IterH k h it a i ∧ SeqH k h a its) := by
  cases k with
  | true => exact Draws.list hh it a ne its
  | false => exact Draws.tuple hh it a ne its
theorem beginsH (k : Bool) (a : Addr) (its : Array Value) : Begins (.ref a) (iterO k a) fun h => SeqH k h a its := by
  cases k with
  | true => exact begins_list a its
  | false => exact begins_tuple a its
theorem seqH_lt {k : Bool} {h : Heap} {a : Addr} {its : Array Value} (x : SeqH k h a its) : a < h.objs.size := by
  cases k with
  | true => obtain ⟨o, e, _⟩ := (show h.IsList a its from x); exact Heap.lt_size e
  | false => obtain ⟨o, e, _⟩ := (show h.IsTuple a its from x); exact Heap.lt_size e
/-- the walk over three -/
def Itg3 (K : PySem.W.Frag) (k1 k2 k3 : Bool) (a b c : Addr) (xs ys zs : List V) : It :=
  ⟨fun i H => (SQk k1 K H a xs ∧ SQk k2 K H b ys ∧ SQk k3 K H c zs) ∧ i < xs.length ∧ i < ys.length ∧ i < zs.length,
    fun i H v H' => ∃ T x y u, v = .ref T ∧ H T = none ∧ H' = upd H T (.tup [x, y, u]) ∧ xs[i]? = some x ∧ ys[i]? = some y ∧ zs[i]? = some u,
    fun i H => (SQk k1 K H a xs ∧ SQk k2 K H b ys ∧ SQk k3 K H c zs) ∧ (i ≤ xs.length ∧ i ≤ ys.length ∧ i ≤ zs.length) ∧ (i = xs.length ∨ i = ys.length ∨ i = zs.length)⟩
theorem turn_zip3 {P : Program} {w : World} {K : PySem.W.Frag} {elts : List Expr} {kk : Nat} {tpos : Pos} {k1 k2 k3 : Bool} {a b c z TI TO i1 i2 i3 : Addr} {xs ys zs : List V} (D : ZipSep3 z TI TO i1 i2 i3 [i1, a] [i2, b] [i3, c]) (n1 : a ≠ i1) (n2 : b ≠ i2) (n3 : c ≠ i3) :
    Turn P w K (.Tuple elts kk tpos) (Itg3 K k1 k2 k3 a b c xs ys zs) [z, TI, TO, i1, i2, i3] z (fun i h => IsZip h z TI TO .none ∧ IsTupOf3 h TI (.ref i1) (.ref i2) (.ref i3) ∧ (∃ x y u, IsTupOf3 h TO x y u) ∧ IterH k1 h i1 a i ∧ IterH k2 h i2 b i ∧ IterH k3 h i3 c i) where
  mem := List.mem_cons_self
  obj := fun i h ⟨hz, hTI, ⟨x, y, u, hTO⟩, t1, t2, t3⟩ q hq => by
    have : q = z ∨ q = TI ∨ q = TO ∨ q = i1 ∨ q = i2 ∨ q = i3 := by simpa using hq
    rcases this with rfl | rfl | rfl | rfl | rfl | rfl
    · exact ⟨_, hz, fun v q => nomatch q⟩
    · exact ⟨_, hTI, fun v q => nomatch q⟩
    · exact ⟨_, hTO, fun v q => nomatch q⟩
    · exact iterH_obj t1
    · exact iterH_obj t2
    · exact iterH_obj t3
  keep := fun i h h' ⟨hz, hTI, ⟨x, y, u, hTO⟩, t1, t2, t3⟩ k =>
    ⟨k z (by simp) _ hz, k TI (by simp) _ hTI, ⟨x, y, u, k TO (by simp) _ hTO⟩, iterH_at t1 fun o q => k i1 (by simp) o q, iterH_at t2 fun o q => k i2 (by simp) o q, iterH_at t3 fun o q => k i3 (by simp) o q⟩
  item := fun X hP hw hK hc i pins s σ H E I hf ⟨hz, hTI, ⟨x0, y0, u0, hTO⟩, t1, t2, t3⟩ ⟨⟨s1, s2, s3⟩, l1, l2, l3⟩ => by
    subst hP hw hK
    obtain ⟨its1, rv1, q1⟩ := seqH_of I s1
    obtain ⟨its2, rv2, q2⟩ := seqH_of I s2
    obtain ⟨its3, rv3, q3⟩ := seqH_of I s3
    have hh : X.A.in1.handled = none := I.ok.hd hc
    have hzl : z < s.heap.objs.size := Heap.lt_size hz
    refine wpAny_pyNext_zipD3_item D (drawsH hh k1 i1 a n1 its1.toArray) (drawsH hh k2 i2 b n2 its2.toArray) (drawsH hh k3 i3 c n3 its3.toArray) hz hTI hTO ⟨t1, q1⟩ ⟨t2, q2⟩ ⟨t3, q3⟩ (by simp [← rv1.length, l1]) (by simp [← rv2.length, l2]) (by simp [← rv3.length, l3])
      fun x1 x2 x3 h' tk p1 p2 p3 z' TO' e1 e2 e3 hT hsz hk => ?_
    refine ⟨_, rfl, wpAny_letOwnedTupleGo_zip (s := { s with heap := h', toks := tk }) z' fun h'' z'' sb => ?_⟩
    obtain ⟨u1, g1, r1⟩ := rv1.get (List.getElem?_eq_getElem l1)
    obtain ⟨u2, g2, r2⟩ := rv2.get (List.getElem?_eq_getElem l2)
    obtain ⟨u3, g3, r3⟩ := rv3.get (List.getElem?_eq_getElem l3)
    have p1 : its1[i]? = some x1 := by simpa using p1
    have p2 : its2[i]? = some x2 := by simpa using p2
    have p3 : its3[i]? = some x3 := by simpa using p3
    rw [g1] at p1; cases p1
    rw [g2] at p2; cases p2
    rw [g3] at p3; cases p3
    have hT2 : h''.get? s.heap.objs.size = some { cls := .type "tuple", data := .seq #[x1, x2, x3] } := (sb.2 _ (Nat.ne_of_gt hzl)).trans hT
    have new : ObjOk X.prog X.w (upd H s.heap.objs.size (.tup [xs[i], ys[i], zs[i]])) h'' s.heap.objs.size (.tup [xs[i], ys[i], zs[i]]) :=
      ⟨by show 3 ≤ sizeLine; decide, [x1, x2, x3], .cons r1 (.cons r2 (.cons r3 .nil)), ⟨_, hT2, rfl, _, rfl⟩⟩
    have kept : ∀ q o, q ∉ [z, TI, TO, i1, i2, i3] → s.heap.get? q = some o → h''.get? q = some o := fun q o hq e => by
      simp only [List.mem_cons, List.not_mem_nil, or_false, not_or] at hq
      exact (sb.2 q hq.1).trans (hk q o hq.1 hq.2.2.1 hq.2.2.2.1 hq.2.2.2.2.1 hq.2.2.2.2.2 e)
    have I1 : Inv X pins σ (upd H s.heap.objs.size (.tup [xs[i], ys[i], zs[i]])) { s with heap := h'', toks := tk } := I.turnedNew (t' := tk) kept hf (Nat.le_refl _) new
    have ne3 : TI ≠ i3 := D.TIi3
    refine ⟨.ref s.heap.objs.size, _, I1, rfl, ⟨_, _, _, _, rfl, I.hok.fresh (Nat.le_refl _), rfl, List.getElem?_eq_getElem l1, List.getElem?_eq_getElem l2, List.getElem?_eq_getElem l3⟩,
      ⟨z'', (sb.2 _ D.TIz).trans (hk _ _ D.TIz D.TITO D.TIi1 D.TIi2 D.TIi3 hTI), ⟨x1, x2, x3, (sb.2 _ D.TOz).trans TO'⟩, iterH_at e1.1 fun o q => (sb.2 _ D.zi1.symm).trans q, iterH_at e2.1 fun o q => (sb.2 _ D.zi2.symm).trans q, iterH_at e3.1 fun o q => (sb.2 _ D.zi3.symm).trans q⟩, fun q hq => ?_⟩
    have hlt : q < s.heap.objs.size := by
      have : q = z ∨ q = TI ∨ q = TO ∨ q = i1 ∨ q = i2 ∨ q = i3 := by simpa using hq
      rcases this with rfl | rfl | rfl | rfl | rfl | rfl
      · exact hzl
      · exact Heap.lt_size hTI
      · exact Heap.lt_size hTO
      · obtain ⟨o, e, _⟩ := iterH_obj t1; exact Heap.lt_size e
      · obtain ⟨o, e, _⟩ := iterH_obj t2; exact Heap.lt_size e
      · obtain ⟨o, e, _⟩ := iterH_obj t3; exact Heap.lt_size e
    rw [upd_ne (Nat.ne_of_lt hlt)]
    exact (hf q hq).1
  done := fun X hP hw hK hc i pins s σ H E I hf ⟨hz, hTI, ⟨x0, y0, u0, hTO⟩, t1, t2, t3⟩ ⟨⟨s1, s2, s3⟩, ⟨l1, l2, l3⟩, e⟩ => by
    subst hP hw hK
    obtain ⟨its1, rv1, q1⟩ := seqH_of I s1
    obtain ⟨its2, rv2, q2⟩ := seqH_of I s2
    obtain ⟨its3, rv3, q3⟩ := seqH_of I s3
    have hh : X.A.in1.handled = none := I.ok.hd hc
    have m1 := rv1.length
    have m2 := rv2.length
    have m3 := rv3.length
    refine wpAny_pyNext_zipD3_end D (drawsH hh k1 i1 a n1 its1.toArray) (drawsH hh k2 i2 b n2 its2.toArray) (drawsH hh k3 i3 c n3 its3.toArray) hz hTI hTO ⟨t1, q1⟩ ⟨t2, q2⟩ ⟨t3, q3⟩ (by simp; omega) (by simp; omega) (by simp; omega) (by simp; omega)
      fun h' tk hk => ⟨rfl, I.turnedL (t' := tk) (ch := [z, TI, TO, i1, i2, i3]) (fun q o hq e => ?_) hf⟩
    simp only [List.mem_cons, List.not_mem_nil, or_false, not_or] at hq
    exact hk q o hq.1 hq.2.2.1 hq.2.2.2.1 hq.2.2.2.2.1 hq.2.2.2.2.2 e
  self := fun A i s Q E st h => wpAny_pyIter_zip st.1 h
section
variable {X : Cx} {e1 e2 e3 : Expr} {ta : TA} {p pos tpos : Pos} {elts : List Expr} {kk : Nat}
theorem pi_zip3 (hm : X.mg "zip" = none) (ha : PA X [e1, e2, e3] ta) (hg : Gl X "zip" := by rfl)
    (hs : starEach [e1, e2, e3] X.env = (false, eval e1 X.env) :: starEach [e2, e3] X.env := by rfl) (hpl : (backTo pos (starEach [e2, e3] X.env)).any (·.1) = false := by rfl) :
    PI X (.Tuple elts kk tpos) (.Call (.Name "zip" p) [e1, e2, e3] [] pos) (fun σ H R => ta σ H fun vs H1 => ∃ k1 k2 k3 a b c xs ys zs, vs = [.ref a, .ref b, .ref c] ∧ SQk k1 X.K H1 a xs ∧ SQk k2 X.K H1 b ys ∧ SQk k3 X.K H1 c zs ∧ R (Itg3 X.K k1 k2 k3 a b c xs ys zs) H1) := by
  refine ⟨fun pins s σ H R I h => ?_⟩
  refine Call_ (ld_blt I hg hm PyProof.Rows.boot_zip (PyProof.Rows.callWith_type1 (thn (ha.run pos pins s σ H _ I h) fun us s1 ⟨vs, H1, I1, r1, k1, k2, k3, a, b, c, xs, ys, zs, ex, s1', s2', s3', q⟩ => ?_) hs hpl))
  subst ex
  obtain ⟨its1, rv1, q1⟩ := seqH_of I1 s1'
  obtain ⟨its2, rv2, q2⟩ := seqH_of I1 s2'
  obtain ⟨its3, rv3, q3⟩ := seqH_of I1 s3'
  have eu : us = [.ref a, .ref b, .ref c] := by
    cases r1 with
    | cons ra rr =>
      cases rr with
      | cons rb rr =>
        cases rr with
        | cons rc rr => cases rr; cases ra; cases rb; cases rc; rfl
  subst eu
  have la := seqH_lt q1
  have lb := seqH_lt q2
  have lc := seqH_lt q3
  refine zip_begins3 (beginsH k1 a its1.toArray) (beginsH k2 b its2.toArray) (beginsH k3 c its3.toArray) q1 q2 q3 fun h' hz hTI hTO g1 g2 g3 hsz hk => wpAny_pyIter_zip hz ?_
  have I2 : Inv X pins σ H1 { s1 with heap := h' } := I1.kept (t' := s1.toks) hk
  have D := zip_sep3 (N := s1.heap.objs.size) (fp1 := [a]) (fp2 := [b]) (fp3 := [c]) (by simpa using la) (by simpa using lb) (by simpa using lc)
  refine ⟨_, _, _, _, H1, rfl, I2, turn_zip3 D (Nat.ne_of_lt la) (Nat.ne_of_lt (Nat.lt_of_lt_of_le lb (Nat.le_add_right _ _))) (Nat.ne_of_lt (Nat.lt_of_lt_of_le lc (Nat.le_add_right _ _))), ⟨hz, hTI, ⟨_, _, _, hTO⟩, iterH_0 g1, iterH_0 g2, iterH_0 g3⟩, fun q' hq => ?_, q⟩
  have hle : s1.heap.objs.size ≤ q' := by
    have : q' = s1.heap.objs.size + 5 ∨ q' = s1.heap.objs.size + 3 ∨ q' = s1.heap.objs.size + 4 ∨ q' = s1.heap.objs.size ∨ q' = s1.heap.objs.size + 1 ∨ q' = s1.heap.objs.size + 2 := by simpa using hq
    rcases this with w | w | w | w | w | w <;> rw [w] <;> first | exact Nat.le_refl _ | exact Nat.le_add_right _ _
  exact I1.fpOk hle (I1.hok.fresh hle)
end
end L2.Dl
/-! zip of three over data. -/
namespace L2.Dl
open PySem PySem.Spec PyProof.Rows
def seqLT : D → Option (List D)
  | .lst l => some l
  | .tup l => some l
  | _ => none
def zipD3 : List D → List D → List D → List D
  | a :: l, b :: m, c :: n => .tup [a, b, c] :: zipD3 l m n
  | _, _, _ => []
def gZip3 : List D → Option (List D)
  | [a, b, c] => match seqLT a, seqLT b, seqLT c with
    | some l, some m, some n => some (zipD3 l m n)
    | _, _, _ => none
  | _ => none
/-- what is walked is shared ahead -/
def iMake (g : List D → Option (List D)) (fl : M (List R)) : M (List D) := fun S => (fl S).bind fun rs S1 => match valsR S1 rs with
  | none => .no
  | some (ds, S2) => match g ds with
    | none => .no
    | some l => .ok l S2
theorem zipD3_length : ∀ l m n : List D, (zipD3 l m n).length = min l.length (min m.length n.length)
  | [], _, _ => by simp [zipD3]
  | _ :: _, [], _ => by simp [zipD3]
  | _ :: _, _ :: _, [] => by simp [zipD3]
  | a :: l, b :: m, c :: n => by simp [zipD3, zipD3_length l m n]
theorem zipD3_get : ∀ (l m n : List D) (i : Nat) (d : D), (zipD3 l m n)[i]? = some d → ∃ a b c, l[i]? = some a ∧ m[i]? = some b ∧ n[i]? = some c ∧ d = .tup [a, b, c]
  | a :: l, b :: m, c :: n, 0, d, h => by simp [zipD3] at h; exact ⟨a, b, c, rfl, rfl, rfl, h.symm⟩
  | a :: l, b :: m, c :: n, i + 1, d, h => by
    simp [zipD3] at h
    obtain ⟨x, y, u, h1, h2, h3, h4⟩ := zipD3_get l m n i d h
    exact ⟨x, y, u, by simpa using h1, by simpa using h2, by simpa using h3, h4⟩
  | [], _, _, i, d, h => by simp [zipD3] at h
  | _ :: _, [], _, i, d, h => by simp [zipD3] at h
  | _ :: _, _ :: _, [], i, d, h => by simp [zipD3] at h
section
variable {X : Cx} {z : Dx} {W : WX} {S S1 : SS} {G G1 H H1 : Hp} {σ : L2.St}
theorem walk_zip3 {K : PySem.W.Frag} {k1 k2 k3 : Bool} {a b c : Addr} {xs ys zs : List V} {n : Nat} (hn : n = min xs.length (min ys.length zs.length)) :
    Walk (Itg3 K k1 k2 k3 a b c xs ys zs) n (fun H => SQk k1 K H a xs ∧ SQk k2 K H b ys ∧ SQk k3 K H c zs) (fun i H v H' => ∃ T x y u, v = .ref T ∧ H T = none ∧ H' = upd H T (.tup [x, y, u]) ∧ xs[i]? = some x ∧ ys[i]? = some y ∧ zs[i]? = some u) :=
  ⟨fun i H hi q => ⟨q, by omega, by omega, by omega⟩, fun H q => ⟨q, ⟨by omega, by omega, by omega⟩, by omega⟩, fun i H x H' _ _ y => y⟩
/-- shared: at a, in G -/
theorem sq_of {v : V} {d : D} {l : List D} (hk : z.K = X.K) (le : LeH G H) (r : Rep z G v d) (e : seqLT d = some l) : ∃ k a xs, v = .ref a ∧ SQk k X.K H a xs ∧ RepL z G xs l ∧ ∀ S σ H', SI z S σ H G → (∀ b o, H b = some o → ¬ Wk o → ¬ Owns S σ b → H' b = some o) → SQk k X.K H' a xs := by
  have notO : ∀ {a : Addr} {o : HO} {S : SS} {σ : L2.St}, SI z S σ H G → G a = some o → ¬ Owns S σ a := fun {a o S σ} si2 g q => by
    obtain ⟨g', _⟩ := si2.ownFree q
    rw [g] at g'; cases g'
  cases r with
  | lst e0 rl =>
    cases e
    exact ⟨true, _, _, rfl, SqL.of (le.lst e0), rl, fun S σ H' si fr => SqL.of (fr _ _ (le.lst e0) (fun z => z) (notO si e0))⟩
  | tup e0 rl =>
    cases e
    rw [hk] at e0
    refine ⟨false, _, _, rfl, le.sqT e0, rl, fun S σ H' si fr => ?_⟩
    rcases e0 with (q | ⟨o, q⟩) | q
    · rcases le _ _ q with w | ⟨w, _⟩ | ⟨_, _, w, _⟩
      · exact .inl (.inl (fr _ _ w.1 (fun z => z) (notO si q)))
      · exact w.elim
      · cases w
    · exact .inl (.inr ⟨o, fr _ _ (le.frz q) (fun z => z) (notO si q)⟩)
    · exact .inr q
  | _ => cases e
theorem IT_zip3 {e1 e2 e3 : Expr} {fl : M (List R)} {p pos tpos : Pos} {elts : List Expr} {kk : Nat} (hk : z.K = X.K) (hm : X.mg "zip" = none) (hl : L X z W [e1, e2, e3] fl) (hg : Gl X "zip" := by rfl)
    (hs : starEach [e1, e2, e3] X.env = (false, eval e1 X.env) :: starEach [e2, e3] X.env := by rfl) (hpl : (backTo pos (starEach [e2, e3] X.env)).any (·.1) = false := by rfl) :
    IT X z W (.Tuple elts kk tpos) (.Call (.Name "zip" p) [e1, e2, e3] [] pos) (iMake gZip3 fl) := by
  refine ⟨PI.le (pi_zip3 hm hl.pa hg hs hpl) fun σ H Q ⟨S, G, si, h⟩ => ?_⟩
  refine ⟨S, G, si, ?_⟩
  unfold iMake at h
  cases e : fl S with
  | no => rw [e] at h; exact h
  | ex c w S1 => rw [e] at h; exact h
  | ok rs S1 =>
    rw [e] at h
    intro vs H1 G1 si1 g1 dl
    have h := PostI.from h g1
    cases ev : valsR S1 rs with
    | none => rw [bind_ok, ev] at h; exact h.elim
    | some q =>
      obtain ⟨ds, S2⟩ := q
      rw [bind_ok, ev] at h
      simp only at h
      obtain ⟨G2, si2, g2, r2⟩ := valsR_run dl si1 ev
      unfold gZip3 at h
      split at h
      · exact h.elim
      · rename_i l e0
        split at e0
        · rename_i d1 d2 d3
          split at e0
          · rename_i l1 l2 l3 q1 q2 q3
            cases e0
            cases r2 with
            | cons ra rr =>
              cases rr with
              | cons rb rr =>
                cases rr with
                | cons rc rr =>
                  cases rr
                  obtain ⟨k1, a, xs, rfl, sa, rla, fa⟩ := sq_of hk si2.le ra q1
                  obtain ⟨k2, b, ys, rfl, sb, rlb, fb⟩ := sq_of hk si2.le rb q2
                  obtain ⟨k3, c, zs, rfl, sc, rlc, fc⟩ := sq_of hk si2.le rc q3
                  refine ⟨k1, k2, k3, a, b, c, xs, ys, zs, rfl, sa, sb, sc, h _ H1 G2 si2 g2 ⟨_, _, walk_zip3 (by rw [zipD3_length, rla.length, rlb.length, rlc.length]), fun H' fr => ⟨fa _ _ _ si2 fr, fb _ _ _ si2 fr, fc _ _ _ si2 fr⟩, fun i d Hc x H' Gc e2 ge le y => ?_⟩⟩
                  obtain ⟨T, x1, x2, x3, rfl, hT, rfl, t1, t2, t3⟩ := y
                  obtain ⟨a', b', c', w1, w2, w3, rfl⟩ := zipD3_get _ _ _ _ _ e2
                  obtain ⟨v1, u1, y1⟩ := rla.get w1
                  obtain ⟨v2, u2, y2⟩ := rlb.get w2
                  obtain ⟨v3, u3, y3⟩ := rlc.get w3
                  rw [t1] at u1; cases u1
                  rw [t2] at u2; cases u2
                  rw [t3] at u3; cases u3
                  have x1' : Ext Hc (upd Hc T (.tup [x1, x2, x3])) Gc (upd Gc T (.tup [x1, x2, x3])) := Ext.new le hT
                  have gg := ge.trans x1'.ge
                  exact ⟨_, x1', .tup (SqT.of upd_same) (.cons (y1.mono gg) (.cons (y2.mono gg) (.cons (y3.mono gg) .nil)))⟩
          · cases e0
        · cases e0
end
end L2.Dl
/-! a <= b <= c as a test. -/
namespace L2.Dl
open PySem PySem.Spec PyProof.Rows
section
variable {X : Cx} {z : Dx} {W : WX} {a b c : Expr} {fa fb fc : M R} {pos : Pos} {g g' : D → D → Option Bool}
theorem chain_run {S : SS} {G H : Hp} {σ : L2.St} {Q : VK} (si : SI z S σ H G) (h : Post z W S G H σ Q (sChain g g' fa fb fc S)) :
    tChain (rD2 z (toB g)) (rD2 z (toB g')) (tD z W fa) (tD z W fb) (tD z W fc) σ H Q := by
  unfold sChain at h
  refine (step si h).mono fun x H1 ⟨ra, S1, G1, si1, _, da, h1⟩ => (step si1 h1).mono fun y H2 ⟨rb, S2, G2, si2, g2, db, h2⟩ => ?_
  cases e : lift2 g S2 ra rb with
  | none => rw [e] at h2; exact h2.elim
  | some k =>
    rw [e] at h2
    obtain ⟨d1, d2, l1, l2, eg⟩ := lift2_eq e
    refine ⟨G2, d1, d2, .v (.bl k), si2.le, (da.mono g2.ge).view si2 l1, db.view si2 l2, by unfold toB; rw [eg]; rfl, fun v H' G' xx dn => ?_⟩
    cases dn
    refine ⟨k, rfl, ?_⟩
    have si3 := si2.ext xx
    cases k with
    | false => exact (if_neg Bool.false_ne_true) ▸ (Post.from h2 xx.go) (.bl false) H' G' si3 .refl (.bl false)
    | true =>
      rw [if_pos rfl]
      refine (step si3 (Post.from h2 xx.go)).mono fun w H4 ⟨rc, S4, G4, si4, g4, dc, h4⟩ => ?_
      cases e' : lift2 g' S4 rb rc with
      | none => rw [e'] at h4; exact h4.elim
      | some k' =>
        rw [e'] at h4
        obtain ⟨d3, d4, l3, l4, eg'⟩ := lift2_eq e'
        exact ⟨G4, d3, d4, .v (.bl k'), si4.le, ((db.mono xx.ge).mono g4.ge).view si4 l3, dc.view si4 l4, by unfold toB; rw [eg']; rfl, VP.fin si4 h4⟩
theorem chain_bl {S S' : SS} {r : R} (h : sChain g g' fa fb fc S = .ok r S') : ∃ k, r = .v (.bl k) := by
  unfold sChain at h
  cases e1 : fa S with
  | no => rw [e1] at h; cases h
  | ex => rw [e1] at h; cases h
  | ok ra S1 =>
    rw [e1, bind_ok] at h
    cases e2 : fb S1 with
    | no => rw [e2] at h; cases h
    | ex => rw [e2] at h; cases h
    | ok rb S2 =>
      rw [e2, bind_ok] at h
      split at h
      · cases h
      · cases h; exact ⟨_, rfl⟩
      · cases e3 : fc S2 with
        | no => rw [e3] at h; cases h
        | ex => rw [e3] at h; cases h
        | ok rc S3 =>
          rw [e3, bind_ok] at h
          split at h
          · cases h
          · cases h; exact ⟨_, rfl⟩
theorem T_chain {op op' : CmpOp} (ho : OpR X (compareOp op) (rD2 z (toB g))) (ho' : OpR X (compareOp op') (rD2 z (toB g'))) (ha : E X z W a fa) (hb : E X z W b fb) (hc : E X z W c fc)
    (hm : lastMarks [op, op'] [b, c] = false := by with_unfolding_all rfl) : T X z W (.Compare a [op, op'] [b, c] pos) (sTru (sChain g g' fa fb fc)) := by
  refine ⟨PT.le (pt_chain ho ho' ha.pe hb.pe hc.pe hm) fun σ H Q ⟨S, G, si, h⟩ => ?_, ha.k⟩
  refine chain_run si ?_
  unfold sTru at h
  cases e : sChain g g' fa fb fc S with
  | no => rw [e] at h; exact h
  | ex cn w S1 => rw [e] at h; exact h
  | ok r S1 =>
    rw [e] at h
    obtain ⟨k, rfl⟩ := chain_bl e
    intro v H' G' si' g1 dn
    cases dn
    exact ⟨k, rfl, h H' G' si' g1⟩
end
end L2.Dl
/-! The head's hook, with the interpreter's own table in sight (classes are read there). -/
namespace L2.Dl
open PySem PySem.Spec PyProof.Rows LamX
abbrev asY (g : Addr → Option Obj) (n : Nat) : List Addr := He.asD g n ++ [cStatics]
def obsY (n : Nat) (fa : List He.Fa) (fn : List He.DefD) (tf : List He.Defn) (ex : PySem.W.Frag → Bool) (g : Addr → Option Obj) : He.AlX :=
  (He.obsT fa fn [] (He.frT g (asY g n)), ex (He.frT g (asY g n)) && He.tabsB g tf (He.frT g (asY g n)))
theorem saysY_of {n : Nat} {fa : List He.Fa} {fn : List He.DefD} {tf : List He.Defn} {ex : PySem.W.Frag → Bool} {w : World} {h : Heap} (e : obsY n fa fn tf ex h.get? = He.valX fn [] w) : He.SaysX fa fn [] tf ex w h (He.frT h.get? (asY h.get? n)) := by
  obtain ⟨h1, h2⟩ := Bool.and_eq_true_iff.mp (show (ex (He.frT h.get? (asY h.get? n)) && He.tabsB h.get? tf (He.frT h.get? (asY h.get? n))) = true from congrArg Prod.snd e)
  have each : ∀ p ∈ tf, PySem.W.codeHdIn (He.frT h.get? (asY h.get? n)) (He.cT (He.frT h.get? (asY h.get? n)) p).1 (He.cT (He.frT h.get? (asY h.get? n)) p).2 = true ∧ ∃ o, h.get? (He.cT (He.frT h.get? (asY h.get? n)) p).2 = some o ∧ He.emptyTab o = true := by
    intro p hp
    obtain ⟨h3, h4⟩ := Bool.and_eq_true_iff.mp (List.all_eq_true.mp h2 p hp)
    cases q : h.get? (He.cT (He.frT h.get? (asY h.get? n)) p).2 with
    | none => rw [q] at h4; cases h4
    | some o => rw [q] at h4; exact ⟨h3, o, rfl, h4⟩
  refine ⟨congrArg Prod.fst e, h1, fun p hp => (each p hp).1, fun p hp => ?_, fun p hp => ?_⟩
  · obtain ⟨_, o, q, em⟩ := each p hp
    exact He.frT_none q em
  · obtain ⟨_, o, q, em⟩ := each p hp
    rw [q, He.emptyTab_eq em]
def hookY (n : Nat) (fa : List He.Fa) (fn : List He.DefD) (tf : List He.Defn) (ex : PySem.W.Frag → Bool) : PySem.W.Hook where
  α := He.AlX
  obs := fun s => obsY n fa fn tf ex s.heap.get?
  val := fun w => He.valX fn [] w
  says := fun w h => ∃ K : PySem.W.Frag, K.In h ∧ He.SaysX fa fn [] tf ex w h K
  of := fun _ _ e => ⟨_, He.frT_in, saysY_of e⟩
  keeps := fun _ _ _ ⟨K, hK, c⟩ k => ⟨K, PySem.W.Frag.In.keeps hK k, ⟨c.t, c.more, c.hd, c.out, fun p hp => k _ _ (c.empty p hp)⟩⟩
theorem obsY_eq {n : Nat} {fa : List He.Fa} {fn : List He.DefD} {tf : List He.Defn} {ex : PySem.W.Frag → Bool} {g : Addr → Option Obj} {s : Shared} (h : ∀ a, g a = s.heap.get? a) : obsY n fa fn tf ex g = (hookY n fa fn tf ex).obs s := by
  rw [show g = s.heap.get? from funext h] <;> rfl
end L2.Dl
/-! The semantics reckoned by simp: what each form unfolds to. -/
namespace L2.Dl
open PySem PySem.Spec PyProof.Rows
section
variable {S : SS} {fa fb fc : M R} {ft fu : M Bool} {f g : M Fl} {fl : M (List R)} {fi : M (List D)} {i : Nat} {d : D} {α β : Type}
@[simp] theorem ev_bind_ok (a : α) (s : SS) (k : α → SS → Res β) : (Res.ok a s).bind k = k a s := rfl
@[simp] theorem ev_bind_ex (c : Nat) (w : D) (s : SS) (k : α → SS → Res β) : (Res.ex c w s).bind k = .ex c w s := rfl
@[simp] theorem ev_sNm : sNm i S = match S[i]? with
  | some (.shr d) => .ok (.at i) S
  | some (.own t d) => .ok (.at i) S
  | _ => .no := rfl
@[simp] theorem ev_sV : sV d S = .ok (.v d) S := rfl
@[simp] theorem ev_sNil : sNil S = .ok [] S := rfl
@[simp] theorem ev_sCons : sCons fa fl S = (fa S).bind fun ra S1 => (fl S1).bind fun rs S2 => .ok (ra :: rs) S2 := rfl
@[simp] theorem ev_sOp {g : D → D → Option R} : sOp g fa fb S = (fa S).bind fun ra S1 => (fb S1).bind fun rb S2 => lift (do let da ← look S2 ra; let db ← look S2 rb; g da db) S2 := rfl
@[simp] theorem ev_sUn {g : D → Option R} : sUn g fa S = (fa S).bind fun ra S1 => lift (do let da ← look S1 ra; g da) S1 := rfl
@[simp] theorem ev_lift_some (r : R) : lift (some r) S = .ok r S := rfl
@[simp] theorem ev_liftT_some (b : Bool) : liftT (some b) S = .ok b S := rfl
@[simp] theorem ev_sTru : sTru fa S = (fa S).bind fun ra S1 => liftT (lookB S1 ra) S1 := rfl
@[simp] theorem ev_sCmpT {g : D → D → Option Bool} : sCmpT g fa fb S = (fa S).bind fun ra S1 => (fb S1).bind fun rb S2 => liftT (do let da ← look S2 ra; let db ← look S2 rb; g da db) S2 := rfl
@[simp] theorem ev_sAnd : sAnd ft fu S = (ft S).bind fun b S1 => if b = true then fu S1 else .ok false S1 := rfl
@[simp] theorem ev_sOr : sOr ft fu S = (ft S).bind fun b S1 => if b = true then .ok true S1 else fu S1 := rfl
@[simp] theorem ev_sNot : sNot ft S = (ft S).bind fun b S1 => .ok (!b) S1 := rfl
@[simp] theorem ev_sCall {g : List D → Option R} : sCall g fl S = (fl S).bind fun rs S1 => lift (do let ds ← lookL S1 rs; g ds) S1 := rfl
@[simp] theorem ev_sMake {g : List D → Option R} : sMake g fl S = (fl S).bind fun rs S1 => match valsR S1 rs with
  | none => .no
  | some (ds, S2) => lift (g ds) S2 := rfl
@[simp] theorem ev_sSeq : sSeq f g S = (f S).bind fun fl S1 => match fl with
  | .nx => g S1
  | fl => .ok fl S1 := rfl
@[simp] theorem ev_sNext : sNext S = .ok .nx S := rfl
@[simp] theorem ev_sIfS : sIfS ft f g S = (ft S).bind fun b S1 => if b = true then f S1 else g S1 := rfl
@[simp] theorem ev_sExpr : sExpr fa S = (fa S).bind fun _ S1 => .ok .nx S1 := rfl
@[simp] theorem ev_sAsg : sAsg i fa S = (fa S).bind fun ra S1 => nxt (setR S1 i ra) := rfl
@[simp] theorem ev_nxt (s : SS) : nxt (some s) = .ok .nx s := rfl
@[simp] theorem ev_sRet : sRet fa S = (fa S).bind fun ra S1 => match retR S1 ra with
  | some (d, fr, S2) => .ok (.rt d fr) S2
  | none => .no := rfl
@[simp] theorem ev_sRetN : sRetN S = .ok (.rt .non false) S := rfl
@[simp] theorem ev_tNm : tNm i d S = some (S.set i (.shr d)) := rfl
@[simp] theorem ev_sFor {tg : D → SS → Option SS} : sFor fi tg f S = (fi S).bind fun ds S1 => forL tg f ds S1 := rfl
@[simp] theorem ev_forL_nil {tg : D → SS → Option SS} : forL tg f [] S = .ok .nx S := rfl
@[simp] theorem ev_setR_v : setR S i (.v d) = some (S.set i (.shr d)) := rfl
@[simp] theorem ev_setR_f : setR S i (.f d) = some (S.set i (.own none d)) := rfl
@[simp] theorem ev_setR_at {j : Nat} : setR S i (.at j) = match S[j]? with
    | some (.shr d) => some (S.set i (.shr d))
    | some (.own t d) => some ((S.set j (.shr d)).set i (.shr d))
    | _ => none := rfl
@[simp] theorem ev_retR_v : retR S (.v d) = some (d, false, S) := rfl
@[simp] theorem ev_retR_f : retR S (.f d) = some (d, true, S) := rfl
@[simp] theorem ev_retR_at : retR S (.at i) = match S[i]? with
    | some (.shr d) => some (d, false, S)
    | some (.own none d) => some (d, true, S.set i .un)
    | _ => none := rfl
@[simp] theorem ev_look_v : look S (.v d) = some d := rfl
@[simp] theorem ev_look_f : look S (.f d) = some d := rfl
@[simp] theorem ev_look_at : look S (.at i) = slotD S i := rfl
@[simp] theorem ev_slotD : slotD S i = match S[i]? with
  | some x => x.data
  | none => none := rfl
@[simp] theorem ev_data_shr : (AV.shr d).data = some d := rfl
@[simp] theorem ev_data_own {t : Option Nat} : (AV.own t d).data = some d := rfl
@[simp] theorem ev_lookB {r : R} : lookB S r = (look S r).bind D.truth := rfl
@[simp] theorem ev_lookL_nil : lookL S [] = some [] := rfl
@[simp] theorem ev_lookL_cons {r : R} {rs : List R} : lookL S (r :: rs) = match look S r with
    | none => none
    | some d => match lookL S rs with
      | none => none
      | some ds => some (d :: ds) := rfl
@[simp] theorem ev_valR_v : valR S (.v d) = some (d, S) := rfl
@[simp] theorem ev_valR_f : valR S (.f d) = some (d, S) := rfl
@[simp] theorem ev_valR_at : valR S (.at i) = match S[i]? with
    | some (.shr d) => some (d, S)
    | some (.own t d) => some (d, S.set i (.shr d))
    | _ => none := rfl
@[simp] theorem ev_valsR_nil : valsR S [] = some ([], S) := rfl
@[simp] theorem ev_valsR_cons {r : R} {rs : List R} : valsR S (r :: rs) = match valR S r with
    | none => none
    | some (d, S1) => match valsR S1 rs with
      | none => none
      | some (ds, S2) => some (d :: ds, S2) := rfl
@[simp] theorem ev_mutL {h : List D → List D → Option (List D × D)} : mutL i h fl S = match ownL S i with
  | none => .no
  | some _ => (fl S).bind fun rs S1 => match valsR S1 rs with
    | none => .no
    | some (ds, S2) => match ownL S2 i with
      | none => .no
      | some (t, l) => match h l ds with
        | none => .no
        | some (l', d) => .ok (.v d) (S2.set i (.own t (.lst l'))) := rfl
@[simp] theorem ev_ownL : ownL S i = match S[i]? with
  | some (.own t (.lst l)) => some (t, l)
  | _ => none := rfl
@[simp] theorem ev_ownK : ownK S i = match S[i]? with
  | some (.own t (.dct l)) => some (t, l)
  | _ => none := rfl
@[simp] theorem ev_ownC : ownC S i = match S[i]? with
  | some (.own t (.lst l)) => some (t, .lst l)
  | some (.own t (.dct l)) => some (t, .dct l)
  | _ => none := rfl
@[simp] theorem ev_sPut : sPut i fa fb S = (fa S).bind fun rv S1 => match valR S1 rv with
  | none => .no
  | some (d, S2) => match ownC S2 i with
    | none => .no
    | some _ => (fb S2).bind fun rk S3 => match look S3 rk, ownC S3 i with
      | some k, some (t, c) => match putAt c k d with
        | none => .no
        | some c' => .ok .nx (S3.set i (.own t c'))
      | _, _ => .no := rfl
@[simp] theorem ev_sDel : sDel i fa S = match ownK S i with
  | none => .no
  | some _ => (fa S).bind fun rk S1 => match look S1 rk, ownK S1 i with
    | some k, some (t, l) => match keyOf k with
      | none => .no
      | some k => if (valD l k).isSome = true then .ok .nx (S1.set i (.own t (.dct (dropD l k)))) else .no
    | _, _ => .no := rfl
@[simp] theorem ev_sAugN {g : D → D → Option R} : sAugN i fa g S = match S[i]? with
  | some (.shr d0) => (fa S).bind fun re S1 => match look S1 re with
    | none => .no
    | some d1 => match g d0 d1 with
      | some (.v d) => .ok .nx (S1.set i (.shr d))
      | _ => .no
  | _ => .no := by
  unfold sAugN
  rfl
@[simp] theorem ev_sAugS {g : D → D → Option R} : sAugS i fa fb g S = match ownC S i with
  | none => .no
  | some _ => (fa S).bind fun rk S1 => match look S1 rk, ownC S1 i with
    | some k, some (_, c) => match getAt c k with
      | none => .no
      | some d0 => (fb S1).bind fun re S2 => match look S2 re, look S2 rk, ownC S2 i with
        | some d1, some k2, some (t, c2) => match g d0 d1 with
          | some (.v d2) => match putAt c2 k2 d2 with
            | none => .no
            | some c' => .ok .nx (S2.set i (.own t c'))
          | _ => .no
        | _, _, _ => .no
    | _, _ => .no := by
  unfold sAugS
  rfl
@[simp] theorem ev_iSeq : iSeq fa S = (fa S).bind fun ra S1 => match valR S1 ra with
  | none => .no
  | some (d, S2) => match seqOf d with
    | none => .no
    | some l => .ok l S2 := by
  unfold iSeq
  rfl
@[simp] theorem ev_iRng {h : List D → Option (List D)} : iRng h fl S = (fl S).bind fun rs S1 => match lookL S1 rs with
  | none => .no
  | some ds => match h ds with
    | none => .no
    | some l => .ok l S1 := rfl
@[simp] theorem ev_sGet1 : sGet1 fa fb S = (fa S).bind fun ra S1 => match lookD S1 ra with
  | none => .no
  | some _ => (fb S1).bind fun rk S2 => match lookD S2 ra, look S2 rk with
    | some l, some k => match keyOf k with
      | none => .no
      | some k => .ok (.v ((valD l k).getD .non)) S2
    | _, _ => .no := by
  unfold sGet1
  rfl
@[simp] theorem ev_lookD {r : R} : lookD S r = match look S r with
  | some (.dct l) => some l
  | _ => none := rfl
@[simp] theorem ev_callM {md : List Bool} {Fn : List D → FR} : callM md Fn fl S = (fl S).bind fun rs S1 => match argD S1 md rs with
  | none => .no
  | some (ds, io, bo) => if io.Nodup ∧ (∀ i ∈ io, i ∉ bo) then (match Fn ds with
    | .no => .no
    | .ret d fr iod => .ok (if fr then .f d else .v d) (callK S1 io bo (flatR fr d) iod)
    | .ex c w iod => .ex c w (callK S1 io bo false iod)) else .no := rfl
@[simp] theorem ev_argD_nil : argD S [] [] = some ([], [], []) := rfl
@[simp] theorem ev_argD_v {ms : List Bool} {rs : List R} : argD S (false :: ms) (.v d :: rs) = match argD S ms rs with
  | some (ds, io, bo) => some (d :: ds, io, bo)
  | none => none := by
  rw [argD.eq_2]
  simp only [look]
  cases argD S ms rs <;> rfl
@[simp] theorem ev_argD_f {ms : List Bool} {rs : List R} : argD S (false :: ms) (.f d :: rs) = match argD S ms rs with
  | some (ds, io, bo) => some (d :: ds, io, bo)
  | none => none := by
  rw [argD.eq_2]
  simp only [look]
  cases argD S ms rs <;> rfl
@[simp] theorem ev_argD_at {ms : List Bool} {rs : List R} : argD S (false :: ms) (.at i :: rs) = match S[i]? with
  | some (.shr d) => (match argD S ms rs with
    | some (ds, io, bo) => some (d :: ds, io, bo)
    | none => none)
  | some (.own t d) => (match argD S ms rs with
    | some (ds, io, bo) => some (d :: ds, io, i :: bo)
    | none => none)
  | _ => none := by
  rw [argD.eq_2]
  simp only [look, slotD]
  cases h : S[i]? with
  | none => rfl
  | some x => cases x <;> simp only [AV.data] <;> cases argD S ms rs <;> rfl
@[simp] theorem ev_argD_own {ms : List Bool} {rs : List R} : argD S (true :: ms) (.at i :: rs) = match S[i]? with
  | some (.own t d) => (match argD S ms rs with
    | some (ds, io, bo) => some (d :: ds, i :: io, bo)
    | none => none)
  | _ => none := by
  rw [argD.eq_3]
  cases h : S[i]? with
  | none => rfl
  | some x => cases x <;> cases argD S ms rs <;> rfl
end
end L2.Dl
/-! The deck that all laws draw from. -/
namespace L2.Dl
open PySem PySem.Spec PyProof.Rows
@[simp] theorem addD_int (i j : Int) : addD (.int i) (.int j) = some (.v (.int (i + j))) := rfl
@[simp] theorem iaddD_int (i j : Int) : iaddD (.int i) (.int j) = some (.v (.int (i + j))) := rfl
@[simp] theorem subD_int (i j : Int) : subD (.int i) (.int j) = some (.v (.int (i - j))) := rfl
@[simp] theorem ltD_int (i j : Int) : ltD (.int i) (.int j) = some (decide (i < j)) := rfl
@[simp] theorem leD_int (i j : Int) : leD (.int i) (.int j) = some (decide (i ≤ j)) := rfl
@[simp] theorem gtD_int (i j : Int) : gtD (.int i) (.int j) = some (decide (j < i)) := rfl
@[simp] theorem geD_int (i j : Int) : geD (.int i) (.int j) = some (decide (j ≤ i)) := rfl
@[simp] theorem negD_int (i : Int) : negD (.int i) = some (.v (.int (-i))) := rfl
@[simp] theorem gInt_int (i : Int) : gInt [.int i] = some (.v (.int i)) := rfl
@[simp] theorem gInt_bl (b : Bool) : gInt [.bl b] = some (.v (.int (if b then 1 else 0))) := rfl
@[simp] theorem gAbs_int (i : Int) : gAbs [.int i] = some (.v (.int (if i < 0 then -i else i))) := rfl
@[simp] theorem deq_int' (a b : Int) : deq (.int a) (.int b) = some (a == b) := rfl
@[simp] theorem dne_int' (a b : Int) : dne (.int a) (.int b) = some (!(a == b)) := rfl
@[simp] theorem gLen_lst (l : List D) : gLen [.lst l] = some (.v (.int l.length)) := rfl
@[simp] theorem gLen_tup (l : List D) : gLen [.tup l] = some (.v (.int l.length)) := rfl
@[simp] theorem gLen_dct (l : List (Key × D)) : gLen [.dct l] = some (.v (.int l.length)) := rfl
@[simp] theorem gLen_scr (l : List Int) : gLen [.scr l] = some (.v (.int l.length)) := rfl
@[simp] theorem gLst_0 : gLst [] = some (.f (.lst [])) := rfl
@[simp] theorem gLst_1 (a : D) : gLst [a] = some (.f (.lst [a])) := rfl
@[simp] theorem gLst_2 (a b : D) : gLst [a, b] = some (.f (.lst [a, b])) := rfl
@[simp] theorem gLst_3 (a b c : D) : gLst [a, b, c] = some (.f (.lst [a, b, c])) := rfl
@[simp] theorem gTup_1 (a : D) : gTup [a] = some (.v (.tup [a])) := rfl
@[simp] theorem gTup_2 (a b : D) : gTup [a, b] = some (.v (.tup [a, b])) := rfl
@[simp] theorem gTup_3 (a b c : D) : gTup [a, b, c] = some (.v (.tup [a, b, c])) := rfl
@[simp] theorem gTup_4 (a b c d : D) : gTup [a, b, c, d] = some (.v (.tup [a, b, c, d])) := rfl
@[simp] theorem sNewK_eq (S : SS) : sNewK S = .ok (.f (.dct [])) S := rfl
@[simp] theorem gPop_snoc (l : List D) (d : D) : gPop (l ++ [d]) [] = some (l, d) := by simp [gPop]
theorem gApp_lt {l : List D} {d : D} (h : l.length < 1000000) : gApp l [d] = some (l ++ [d], .non) := by simp [gApp, h]
@[simp] theorem gRev_eq (l : List D) : gRev l [] = some (l.reverse, .non) := rfl
@[simp] theorem truth_bl (b : Bool) : (D.bl b).truth = some b := rfl
@[simp] theorem truth_lst (l : List D) : (D.lst l).truth = some (!l.isEmpty) := rfl
@[simp] theorem truth_dct (l : List (Key × D)) : (D.dct l).truth = some (!l.isEmpty) := rfl
@[simp] theorem toB_ltD (i j : Int) : toB ltD (.int i) (.int j) = some (.v (.bl (decide (i < j)))) := rfl
theorem modD_pos {i j : Int} (h : 0 < j) : modD (.int i) (.int j) = some (.v (.int (i % j))) := by simp [modD, intD, h]
/-- a for by a fold -/
theorem forL_fold' {α β : Type} {g : D → SS → Option SS} {body : M Fl} (f : β → D) (st : α → SS) (step : α → β → α) (P : Nat → α → Prop) (N : Nat) : ∀ (xs : List β) (k : Nat) (a : α), k + xs.length ≤ N → P k a →
    (∀ x ∈ xs, ∀ k a, k < N → P k a → ∃ S1, g (f x) (st a) = some S1 ∧ body S1 = .ok .nx (st (step a x)) ∧ P (k + 1) (step a x)) → forL g body (xs.map f) (st a) = .ok .nx (st (xs.foldl step a)) ∧ P (k + xs.length) (xs.foldl step a)
  | [], k, a, _, hp, _ => ⟨rfl, hp⟩
  | x :: xs, k, a, hN, hp, h => by
    have hN' : k + (xs.length + 1) ≤ N := hN
    obtain ⟨S1, e1, e2, hp'⟩ := h x List.mem_cons_self k a (by omega) hp
    obtain ⟨e3, hp2⟩ := forL_fold' f st step P N xs (k + 1) (step a x) (by omega) hp' fun y hy => h y (List.mem_cons_of_mem _ hy)
    refine ⟨?_, by have e : k + (x :: xs).length = k + 1 + xs.length := by simp only [List.length_cons]; omega
                   rw [e]; exact hp2⟩
    simp only [List.map_cons]
    unfold forL
    simp only [e1, e2, Res.bind]
    exact e3
theorem forL_fold {α β : Type} {g : D → SS → Option SS} {body : M Fl} (f : β → D) (st : α → SS) (step : α → β → α) (P : Nat → α → Prop) (xs : List β) (a : α) (h0 : P 0 a)
    (h : ∀ x ∈ xs, ∀ k a, k < xs.length → P k a → ∃ S1, g (f x) (st a) = some S1 ∧ body S1 = .ok .nx (st (step a x)) ∧ P (k + 1) (step a x)) : forL g body (xs.map f) (st a) = .ok .nx (st (xs.foldl step a)) ∧ P xs.length (xs.foldl step a) := by
  have q := forL_fold' f st step P xs.length xs 0 a (by omega) h0 h
  rw [Nat.zero_add] at q
  exact q
theorem rangeD_eq (n : Nat) : rangeD 0 n = (List.range n).map fun k => .int (k : Nat) := by
  unfold rangeD
  apply List.map_congr_left
  intro k _
  simp
theorem fRng1_nat {n : Nat} (h : n ≤ 1000000) : fRng1 [.int (n : Int)] = some ((List.range n).map fun k => .int (k : Nat)) := by
  show (if -1000000 ≤ (n : Int) ∧ (n : Int) ≤ 1000000 then some (rangeD 0 (n : Int).toNat) else none) = _
  rw [if_pos (by omega), Int.toNat_natCast, rangeD_eq]
/-! ### the deck -/
def deckI (ds : List Int) : D := .lst (ds.map .int)
noncomputable abbrev dkA : M Fl := (sSeq (sExpr (mutL 3 gApp (sCons (sOp modD (sCall gInt (sCons (sNm 7) sNil)) (sV (.int 1000003))) sNil)))
    (sAsg 7 (sOp fdivD (sNm 7) (sV (.int 1000003)))))
noncomputable abbrev dkB : M Fl := (sSeq (sAsg 4 (sOp modD (sCall gInt (sCons (sOp addD (sOp addD (sOp mulD (sNm 4) (sV (.int 69621))) (sNm 8)) (sV (.int 1))) sNil)) (sV (.int 2147483629))))
    (sExpr (mutL 3 gApp (sCons (sOp modD (sCall gInt (sCons (sOp fdivD (sNm 4) (sV (.int 5))) sNil)) (sV (.int 1000003))) sNil))))
noncomputable abbrev dkC : M Fl := (sSeq (sAsg 6 (sV (.int 0)))
    (sSeq (sIfS (sCmpT ltD (sNm 5) (sCall gLen (sCons (sNm 0) sNil))) (sAsg 6 (sOp subscD (sNm 0) (sNm 5))) sNext)
    (sSeq (sAsg 7 (sCall gAbs (sCons (sNm 6) sNil)))
    (sIfS (sCmpT geD (sNm 7) (sOp powD (sV (.int 10)) (sV (.int 30)))) (sFor (iRng fRng1 (sCons (sNm 2) sNil)) (tNm 8) dkA) (sSeq (sAsg 4 (sOp modD (sCall gInt (sCons (sOp addD (sOp addD (sOp addD (sOp mulD (sNm 4) (sV (.int 48271))) (sOp mulD (sV (.int 2)) (sNm 7))) (sCall gInt (sCons (sOp (toB ltD) (sNm 6) (sV (.int 0))) sNil))) (sNm 5)) sNil)) (sV (.int 2147483647))))
    (sFor (iRng fRng1 (sCons (sNm 2) sNil)) (tNm 8) dkB))))))
noncomputable abbrev deckSem : M Fl := (sSeq (sAsg 3 (sMake gLst sNil))
    (sSeq (sAsg 4 (sOp addD (sV (.int 7)) (sCall gLen (sCons (sNm 0) sNil))))
    (sSeq (sFor (iRng fRng1 (sCons (sNm 1) sNil)) (tNm 5) dkC)
    (sSeq (sExpr (mutL 3 gRev sNil))
    (sRet (sNm 3))))))
abbrev dkS (ns : List Int) (c e : Nat) (ds : List Int) (seed : Int) (k cell : AV) (rest : Int) (a : AV) : SS :=
  [.shr (.scr ns), .shr (.int c), .shr (.int e), .own none (.lst (ds.map .int)), .shr (.int seed), k, cell, .shr (.int rest), a]
variable {ns ds : List Int} {c e : Nat} {seed rest : Int} {k cell a : AV}
theorem map_snoc (ds : List Int) (x : Int) : ds.map D.int ++ [.int x] = (ds ++ [x]).map .int := by simp
theorem dkA_eq (h : ds.length < 1000000) : dkA (dkS ns c e ds seed k cell rest a) = .ok .nx (dkS ns c e (ds ++ [rest % 1000003]) seed k cell (rest / 1000003) a) := by
  simp [dkA, dkS, modD, fdivD, intD, gApp, h]
theorem dkB_eq (h : ds.length < 1000000) (x : Int) : dkB (dkS ns c e ds seed k cell rest (.shr (.int x))) = .ok .nx (dkS ns c e (ds ++ [(seed * 69621 + x + 1) % 2147483629 / 5 % 1000003]) ((seed * 69621 + x + 1) % 2147483629) k cell rest (.shr (.int x))) := by
  simp [dkB, dkS, modD, fdivD, mulD, intD, gApp, h]
theorem dkA_loop (h : ds.length + e < 1000000) : ∃ ds' rest' a', forL (tNm 8) dkA ((List.range e).map fun k => .int (k : Nat)) (dkS ns c e ds seed k cell rest a) = .ok .nx (dkS ns c e ds' seed k cell rest' a') ∧ ds'.length = ds.length + e := by
  obtain ⟨e1, e2⟩ := forL_fold (g := tNm 8) (body := dkA) (fun k : Nat => D.int (k : Nat)) (fun q : List Int × Int × AV => dkS ns c e q.1 seed k cell q.2.1 q.2.2) (fun q i => (q.1 ++ [q.2.1 % 1000003], q.2.1 / 1000003, .shr (.int (i : Nat)))) (fun i q => q.1.length = ds.length + i)
    (List.range e) (ds, rest, a) rfl fun x hx i q hi hq => by
      rw [List.length_range] at hi
      exact ⟨_, rfl, dkA_eq (by omega), by simp [hq]; omega⟩
  exact ⟨_, _, _, e1, by simpa using e2⟩
theorem dkB_loop (h : ds.length + e < 1000000) : ∃ ds' seed' a', forL (tNm 8) dkB ((List.range e).map fun k => .int (k : Nat)) (dkS ns c e ds seed k cell rest a) = .ok .nx (dkS ns c e ds' seed' k cell rest a') ∧ ds'.length = ds.length + e := by
  obtain ⟨e1, e2⟩ := forL_fold (g := tNm 8) (body := dkB) (fun k : Nat => D.int (k : Nat)) (fun q : List Int × Int × AV => dkS ns c e q.1 q.2.1 k cell rest q.2.2) (fun q i => (q.1 ++ [(q.2.1 * 69621 + (i : Nat) + 1) % 2147483629 / 5 % 1000003], (q.2.1 * 69621 + (i : Nat) + 1) % 2147483629, .shr (.int (i : Nat)))) (fun i q => q.1.length = ds.length + i)
    (List.range e) (ds, seed, a) rfl fun x hx i q hi hq => by
      rw [List.length_range] at hi
      exact ⟨_, rfl, dkB_eq (by omega) _, by simp [hq]; omega⟩
  exact ⟨_, _, _, e1, by simpa using e2⟩
theorem subscD_scr {x : Nat} (h : x < ns.length) : subscD (.scr ns) (.int (x : Int)) = some (.v (.int ns[x])) := by
  show (atI ns (x : Int)).map (fun n => R.v (.int n)) = _
  unfold atI ixN
  rw [if_pos (by omega), if_pos (by omega)]
  simp [h]
theorem dkC_eq {x : Nat} {rest0 : AV} (h : ds.length + e < 1000000) (he : e ≤ 1000) : ∃ ds' seed' cell' rest' a', dkC [.shr (.scr ns), .shr (.int c), .shr (.int e), .own none (.lst (ds.map .int)), .shr (.int seed), .shr (.int x), cell, rest0, a] = .ok .nx (dkS ns c e ds' seed' (.shr (.int x)) cell' rest' a') ∧ ds'.length = ds.length + e := by
  have key : ∀ (v : Int), ∃ ds' seed' cell' rest' a', (sSeq (sAsg 7 (sCall gAbs (sCons (sNm 6) sNil)))
    (sIfS (sCmpT geD (sNm 7) (sOp powD (sV (.int 10)) (sV (.int 30)))) (sFor (iRng fRng1 (sCons (sNm 2) sNil)) (tNm 8) dkA) (sSeq (sAsg 4 (sOp modD (sCall gInt (sCons (sOp addD (sOp addD (sOp addD (sOp mulD (sNm 4) (sV (.int 48271))) (sOp mulD (sV (.int 2)) (sNm 7))) (sCall gInt (sCons (sOp (toB ltD) (sNm 6) (sV (.int 0))) sNil))) (sNm 5)) sNil)) (sV (.int 2147483647))))
    (sFor (iRng fRng1 (sCons (sNm 2) sNil)) (tNm 8) dkB)))) [.shr (.scr ns), .shr (.int c), .shr (.int e), .own none (.lst (ds.map .int)), .shr (.int seed), .shr (.int x), .shr (.int v), rest0, a] = .ok .nx (dkS ns c e ds' seed' (.shr (.int x)) cell' rest' a') ∧ ds'.length = ds.length + e := by
    intro v
    have hr := fRng1_nat (n := e) (by omega)
    have e30 : powD (.int 10) (.int 30) = some (.v (.int (10 ^ 30))) := by
      show (if decide ((0 : Int) ≤ 30 ∧ (30 : Int) ≤ 1000000 ∧ (10 : Int).natAbs < 2 ^ 64) = true then some (R.v (.int ((10 : Int) ^ (30 : Int).toNat))) else none) = _
      rw [if_pos (by decide)]
      rfl
    by_cases hb : (10 : Int) ^ 30 ≤ (if v < 0 then -v else v)
    · obtain ⟨ds', rest', a', h1, h2⟩ := dkA_loop (ns := ns) (c := c) (seed := seed) (k := .shr (.int x)) (cell := .shr (.int v)) (rest := if v < 0 then -v else v) (a := a) h
      refine ⟨ds', seed, .shr (.int v), rest', a', ?_, h2⟩
      rw [← h1]
      simp only [ev_sSeq, ev_sAsg, ev_sCall, ev_sCons, ev_sNm, ev_sNil, ev_bind_ok, ev_sIfS, ev_sCmpT, ev_sOp, ev_sV, ev_look_v, ev_look_at, ev_slotD, ev_lookL_cons, ev_lookL_nil, ev_data_shr, ev_lift_some, ev_setR_v, ev_nxt, gAbs_int, geD_int, ev_liftT_some, List.getElem?_cons_succ, List.getElem?_cons_zero, List.set_cons_succ, List.set_cons_zero, Option.bind_eq_bind, Option.bind_some, e30, decide_eq_true hb, if_true, ev_sFor, ev_iRng, hr]
    · obtain ⟨ds', seed', a', h1, h2⟩ := dkB_loop (ns := ns) (c := c) (seed := (seed * 48271 + 2 * (if v < 0 then -v else v) + (if decide (v < 0) then 1 else 0) + (x : Int)) % 2147483647) (k := .shr (.int x)) (cell := .shr (.int v)) (rest := if v < 0 then -v else v) (a := a) h
      refine ⟨ds', seed', .shr (.int v), (if v < 0 then -v else v), a', ?_, h2⟩
      rw [← h1]
      have m1 : ∀ i : Int, mulD (.int i) (.int 48271) = some (.v (.int (i * 48271))) := fun i => by simp [mulD, intD]
      have m2 : ∀ i : Int, mulD (.int 2) (.int i) = some (.v (.int (2 * i))) := fun i => by simp [mulD, intD]
      have m3 : ∀ i : Int, modD (.int i) (.int 2147483647) = some (.v (.int (i % 2147483647))) := fun i => by simp [modD, intD]
      simp only [ev_sSeq, ev_sAsg, ev_sCall, ev_sCons, ev_sNm, ev_sNil, ev_bind_ok, ev_sIfS, ev_sCmpT, ev_sOp, ev_sV, ev_look_v, ev_look_at, ev_slotD, ev_lookL_cons, ev_lookL_nil, ev_data_shr, ev_lift_some, ev_setR_v, ev_nxt, gAbs_int, geD_int, ev_liftT_some, List.getElem?_cons_succ, List.getElem?_cons_zero, List.set_cons_succ, List.set_cons_zero, Option.bind_eq_bind, Option.bind_some, e30, decide_eq_false hb, Bool.false_eq_true, if_false, ev_sFor, ev_iRng, hr, m1, m2, m3, addD_int, toB_ltD, gInt_bl, gInt_int]
  by_cases hx : x < ns.length
  · obtain ⟨ds', seed', cell', rest', a', h1, h2⟩ := key ns[x]
    refine ⟨ds', seed', cell', rest', a', ?_, h2⟩
    rw [← h1]
    have hx' : decide ((x : Int) < (ns.length : Int)) = true := decide_eq_true (by omega)
    unfold dkC
    rw [ev_sSeq]
    simp only [ev_sSeq, ev_sAsg, ev_sCall, ev_sCons, ev_sNm, ev_sNil, ev_bind_ok, ev_sIfS, ev_sCmpT, ev_sOp, ev_sV, ev_look_v, ev_look_at, ev_slotD, ev_lookL_cons, ev_lookL_nil, ev_data_shr, ev_lift_some, ev_setR_v, ev_nxt, gLen_scr, ltD_int, ev_liftT_some, List.getElem?_cons_succ, List.getElem?_cons_zero, List.set_cons_succ, List.set_cons_zero, Option.bind_eq_bind, Option.bind_some, hx', if_true, subscD_scr hx]
  · obtain ⟨ds', seed', cell', rest', a', h1, h2⟩ := key 0
    refine ⟨ds', seed', cell', rest', a', ?_, h2⟩
    rw [← h1]
    have hx' : decide ((x : Int) < (ns.length : Int)) = false := decide_eq_false (by omega)
    unfold dkC
    rw [ev_sSeq]
    simp only [ev_sSeq, ev_sAsg, ev_sCall, ev_sCons, ev_sNm, ev_sNil, ev_bind_ok, ev_sIfS, ev_sCmpT, ev_sOp, ev_sV, ev_look_v, ev_look_at, ev_slotD, ev_lookL_cons, ev_lookL_nil, ev_data_shr, ev_lift_some, ev_setR_v, ev_nxt, gLen_scr, ltD_int, ev_liftT_some, List.getElem?_cons_succ, List.getElem?_cons_zero, List.set_cons_succ, List.set_cons_zero, Option.bind_eq_bind, Option.bind_some, hx', Bool.false_eq_true, if_false, ev_sNext]
theorem deck_run (hc : c ≤ 500) (he : e ≤ 500) : ∃ ds, runF 9 [false, false, false] deckSem [.scr ns, .int c, .int e] = .ret (deckI ds) true [] := by
  have loop : ∃ S', forL (tNm 5) dkC ((List.range c).map fun k => .int (k : Nat)) [.shr (.scr ns), .shr (.int c), .shr (.int e), .own none (.lst []), .shr (.int (7 + (ns.length : Int))), .un, .un, .un, .un] = .ok .nx S' ∧
      ∃ (ds : List Int) (seed : Int) (k cell rest a : AV), S' = [.shr (.scr ns), .shr (.int c), .shr (.int e), .own none (.lst (ds.map .int)), .shr (.int seed), k, cell, rest, a] ∧ ds.length = e * (List.range c).length := by
    refine forL_list (fun k : Nat => D.int (k : Nat)) (xs := List.range c) (I := fun (pre : List Nat) S => ∃ (ds : List Int) (seed : Int) (k cell rest a : AV), S = [.shr (.scr ns), .shr (.int c), .shr (.int e), .own none (.lst (ds.map .int)), .shr (.int seed), k, cell, rest, a] ∧ ds.length = e * pre.length) (pre := []) (fun pre x S he' hI => ?_) ⟨[], _, _, _, _, _, rfl, rfl⟩
    obtain ⟨post, ep⟩ := he'
    obtain ⟨ds, seed, k, cell, rest, a, rfl, hl⟩ := hI
    have lp := congrArg List.length ep
    rw [List.length_range, List.length_append, List.length_cons] at lp
    have hb : e * pre.length ≤ 500 * 500 := Nat.mul_le_mul he (by omega)
    obtain ⟨ds', seed', cell', rest', a', h1, h2⟩ := dkC_eq (ns := ns) (c := c) (e := e) (ds := ds) (seed := seed) (x := x) (cell := cell) (rest0 := rest) (a := a) (by omega) (by omega)
    refine ⟨_, _, rfl, h1, ds', seed', _, cell', _, a', rfl, ?_⟩
    rw [h2, hl, List.length_append, List.length_singleton, Nat.mul_add, Nat.mul_one]
  obtain ⟨S', e1, ds, seed, k, cell, rest, a, rfl, _⟩ := loop
  refine ⟨ds.reverse, ?_⟩
  have hr := fRng1_nat (n := c) (by omega)
  refine ok_runF (S := [.shr (.scr ns), .shr (.int c), .shr (.int e), .un, .shr (.int seed), k, cell, rest, a]) ?_ rfl
  show deckSem [.shr (.scr ns), .shr (.int c), .shr (.int e), .un, .un, .un, .un, .un, .un] = _
  simp only [deckSem, ev_sSeq, ev_sAsg, ev_sMake, ev_sNil, ev_bind_ok, ev_valsR_nil, gLst_0, ev_lift_some, ev_setR_f, ev_nxt, List.set_cons_succ, List.set_cons_zero, ev_sOp, ev_sV, ev_sCall, ev_sCons, ev_sNm, List.getElem?_cons_succ, List.getElem?_cons_zero, ev_lookL_cons, ev_lookL_nil, ev_look_at, ev_slotD, ev_data_shr, gLen_scr, Option.bind_eq_bind, Option.bind_some, ev_look_v, addD_int, ev_setR_v, ev_sFor, ev_iRng, hr, e1, ev_sExpr, ev_mutL, ev_ownL, gRev_eq, ev_sRet, ev_retR_at, deckI, List.map_reverse]
/-! ### drawing -/
noncomputable abbrev takeSem : M Fl := (sSeq (sIfS (sCmpT deq (sCall gLen (sCons (sNm 0) sNil)) (sV (.int 0))) (sRet (sV (.int 0))) sNext)
    (sRet (sOp modD (sCall gInt (sCons (mutL 0 gPop sNil) sNil)) (sNm 1))))
def takeI (ds : List Int) (many : Int) : Int := match ds.getLast? with
  | none => 0
  | some x => x % many
theorem takeI_nonneg {many : Int} (h : 0 < many) : 0 ≤ takeI ds many := by
  unfold takeI
  split
  · omega
  · exact Int.emod_nonneg _ (by omega)
theorem takeI_lt {many : Int} (h : 0 < many) : takeI ds many < many := by
  unfold takeI
  split
  · omega
  · exact Int.emod_lt_of_pos _ h
theorem take_run {many : Int} (h : 0 < many) : runF 2 [true, false] takeSem [deckI ds, .int many] = .ret (.int (takeI ds many)) false [deckI ds.dropLast] := by
  rcases List.eq_nil_or_concat ds with rfl | ⟨init, x, he⟩
  · refine ok_runF (S := [.own (some 0) (deckI []), .shr (.int many)]) ?_ rfl
    show takeSem [.own (some 0) (.lst []), .shr (.int many)] = _
    simp [takeSem, takeI, deckI]
  · rw [List.concat_eq_append] at he
    subst he
    refine ok_runF (S := [.own (some 0) (deckI init), .shr (.int many)]) ?_ (by simp; rfl)
    show takeSem [.own (some 0) (.lst ((init ++ [x]).map .int)), .shr (.int many)] = _
    have : ¬ ((init.length : Int) + 1 = 0) := by omega
    simp [takeSem, takeI, deckI, modD_pos h, this]
end L2.Dl
/-! Names made of a letter and a number; places and wishes drawn. -/
namespace L2.Dl
open PySem PySem.Spec PyProof.Rows
@[simp] theorem ev_setIO_nil (S : SS) (io : List Nat) : setIO S io [] = S := by cases io <;> rfl
@[simp] theorem ev_setIO_nil' (S : SS) (ds : List D) : setIO S [] ds = S := by cases ds <;> rfl
@[simp] theorem ev_setIO_cons (S : SS) (i : Nat) (io : List Nat) (d : D) (ds : List D) : setIO S (i :: io) (d :: ds) = setIO (match S[i]? with
    | some (.own t _) => S.set i (.own t d)
    | _ => S) io ds := rfl
@[simp] theorem ev_callK_nil (S : SS) (io : List Nat) (b : Bool) (ds : List D) : callK S io [] b ds = setIO S io ds := by simp [callK]
/-- a number's text -/
def numS (k : Nat) : Str := ((toString (k : Int) : String) : Str)
def nmS (p : Str) (k : Nat) : Str := p ++ numS k
def namesS (p : Str) (n : Nat) : List Str := (List.range n).map (nmS p)
theorem namesS_succ (p : Str) (n : Nat) : namesS p (n + 1) = namesS p n ++ [nmS p n] := by simp [namesS, List.range_succ]
@[simp] theorem namesS_length (p : Str) (n : Nat) : (namesS p n).length = n := by simp [namesS]
@[simp] theorem namesS_0 (p : Str) : namesS p 0 = [] := rfl
/-- a letter that makes names apart -/
structure Pfx (p : Str) : Prop where
  inj : ∀ j : Nat, j < 16 → ∀ k : Nat, k < 16 → nmS p j = nmS p k → j = k
  lay : ∀ k : Nat, k < 16 → Lay (nmS p k)
  add : ∀ k : Nat, k < 16 → addD (.str p) (.str (numS k)) = some (.v (.str (nmS p k)))
theorem pfx_s : Pfx "s" := ⟨by decide +kernel, fun k hk => by unfold Lay; revert k; decide +kernel, fun k hk => by
  show (if _ then _ else _) = _
  have : ∀ k : Nat, k < 16 → (Str.ofString "s").length + (numS k).length ≤ 1000000 := by decide +kernel
  rw [if_pos (this k hk)]; rfl⟩
theorem pfx_o : Pfx "o" := ⟨by decide +kernel, fun k hk => by unfold Lay; revert k; decide +kernel, fun k hk => by
  show (if _ then _ else _) = _
  have : ∀ k : Nat, k < 16 → (Str.ofString "o").length + (numS k).length ≤ 1000000 := by decide +kernel
  rw [if_pos (this k hk)]; rfl⟩
theorem Pfx.nin {p : Str} (h : Pfx p) {n : Nat} (hn : n < 16) : nmS p n ∉ namesS p n := by
  intro q
  obtain ⟨k, hk, e⟩ := List.mem_map.mp q
  have hk := List.mem_range.mp hk
  have := h.inj k (by omega) n hn e
  omega
theorem Pfx.nodup {p : Str} (h : Pfx p) : ∀ {n : Nat}, n ≤ 16 → (namesS p n).Nodup
  | 0, _ => List.nodup_nil
  | n + 1, hn => by
    rw [namesS_succ]
    exact List.nodup_append.mpr ⟨h.nodup (by omega), by simp, fun a ha b hb e => by
      rw [List.mem_singleton.mp hb] at e
      exact h.nin (by omega) (e ▸ ha)⟩
theorem Pfx.layAll {p : Str} (h : Pfx p) {n : Nat} (hn : n ≤ 16) : ∀ s ∈ namesS p n, Lay s := fun s hs => by
  obtain ⟨k, hk, rfl⟩ := List.mem_map.mp hs
  exact h.lay k (by have := List.mem_range.mp hk; omega)
theorem gStr_nat {k : Nat} (h : k < 1000000) : gStr [.int (k : Int)] = some (.v (.str (numS k))) := by
  show (if ((k : Int)).natAbs < 2 ^ 64 then _ else _) = _
  rw [if_pos (by omega)]; rfl
noncomputable abbrev takeF : List D → FR := runF 2 [true, false] takeSem
theorem take_F {ds : List Int} {many : Int} (h : 0 < many) : takeF [deckI ds, .int many] = .ret (.int (takeI ds many)) false [deckI ds.dropLast] := take_run h
/-! ### places -/
noncomputable abbrev plB : M Fl := (sPut 2 (callM [true, false] takeF (sCons (sNm 0) (sCons (sV (.int 4)) sNil))) (sOp addD (sV (.str "s")) (sCall gStr (sCons (sNm 3) sNil))))
noncomputable abbrev placesSem : M Fl := (sSeq (sAsg 2 sNewK)
    (sSeq (sFor (iRng fRng1 (sCons (sOp addD (sV (.int 1)) (callM [true, false] takeF (sCons (sNm 0) (sCons (sNm 1) sNil)))) sNil)) (tNm 3) plB)
    (sRet (sNm 2))))
def plD (cap : Str → Nat) (Sl : List Str) : D := .dct (nd (fun s => .int (cap s)) Sl)
variable {ds : List Int}
theorem plB_eq {cap : Str → Nat} {most : D} {k : Nat} (hk : k < 16) : plB [.own (some 0) (deckI ds), .shr most, .own none (plD cap (namesS "s" k)), .shr (.int (k : Int))] =
    .ok .nx [.own (some 0) (deckI ds.dropLast), .shr most, .own none (plD (fun x => if x = nmS "s" k then (takeI ds 4).toNat else cap x) (namesS "s" (k + 1))), .shr (.int (k : Int))] := by
  have t0 := takeI_nonneg (ds := ds) (many := 4) (by decide)
  have e : nd (fun x => D.int (cap x : Nat)) (namesS "s" k) = nd (fun x => D.int ((if x = nmS "s" k then (takeI ds 4).toNat else cap x : Nat) : Int)) (namesS "s" k) := nd_congr fun x hx => by
    have : x ≠ nmS "s" k := fun z => pfx_s.nin hk (z ▸ hx)
    simp [this]
  have hp : putAt (plD cap (namesS "s" k)) (.str (nmS "s" k)) (.int (takeI ds 4)) = some (plD (fun x => if x = nmS "s" k then (takeI ds 4).toNat else cap x) (namesS "s" (k + 1))) := by
    show (if (nd (fun x => D.int (cap x : Nat)) (namesS "s" k)).length < 1000000 then some (D.dct (putD (nd (fun x => D.int (cap x : Nat)) (namesS "s" k)) (.inr (nmS "s" k)) (.int (takeI ds 4)))) else none) = _
    rw [if_pos (by simp [nd]; omega), e, putD_nd_new (pfx_s.nin hk), namesS_succ]
    · rfl
    · rw [if_pos rfl, Int.toNat_of_nonneg t0]
  have hg := gStr_nat (k := k) (by omega)
  have hd : ∀ l, D.dct l = D.dct l := fun _ => rfl
  simp [plB, take_F, hg, pfx_s.add k hk, plD] at hp ⊢
  rw [hp]
theorem places_run {most : Int} (h0 : 0 < most) (h1 : most ≤ 12) : ∃ cap ds' n, runF 4 [true, false] placesSem [deckI ds, .int most] = .ret (plD cap (namesS "s" n)) true [deckI ds'] ∧ 0 < n ∧ (n : Int) ≤ most ∧ ∀ s, cap s < 4 := by
  have t0 := takeI_nonneg (ds := ds) h0
  have t1 := takeI_lt (ds := ds) h0
  have loop : ∃ S', forL (tNm 3) plB ((List.range (1 + takeI ds most).toNat).map fun k => .int (k : Nat)) [.own (some 0) (deckI ds.dropLast), .shr (.int most), .own none (plD (fun _ => 0) (namesS "s" 0)), .un] = .ok .nx S' ∧
      ∃ ds' cap a, S' = [.own (some 0) (deckI ds'), .shr (.int most), .own none (plD cap (namesS "s" (List.range (1 + takeI ds most).toNat).length)), a] ∧ ∀ s, cap s < 4 := by
    refine forL_list (fun k : Nat => D.int (k : Nat)) (xs := List.range (1 + takeI ds most).toNat) (I := fun (pre : List Nat) S => ∃ ds' cap a, S = [.own (some 0) (deckI ds'), .shr (.int most), .own none (plD cap (namesS "s" pre.length)), a] ∧ ∀ s, cap s < 4) (pre := []) (fun pre x S he hI => ?_) ⟨_, _, _, rfl, by simp⟩
    obtain ⟨post, ep⟩ := he
    obtain ⟨ds', cap, a, rfl, hc⟩ := hI
    have hx : x = pre.length ∧ x < 16 := by
      have q : (List.range (1 + takeI ds most).toNat)[pre.length]? = some x := by rw [ep]; simp
      have l1 := congrArg List.length ep
      rw [List.length_range, List.length_append, List.length_cons] at l1
      rw [List.getElem?_range (by omega)] at q
      cases q
      exact ⟨rfl, by omega⟩
    obtain ⟨hx, hx2⟩ := hx
    subst hx
    refine ⟨_, _, rfl, plB_eq hx2, _, _, _, by rw [List.length_append]; rfl, fun s => ?_⟩
    have := takeI_lt (ds := ds') (many := 4) (by decide)
    show (if s = _ then _ else _) < 4
    split
    · omega
    · exact hc s
  obtain ⟨S', e, ds', cap, a, rfl, hc⟩ := loop
  rw [List.length_range] at e
  refine ⟨cap, ds', (1 + takeI ds most).toNat, ?_, by omega, by omega, hc⟩
  have hr : fRng1 [.int (1 + takeI ds most)] = some ((List.range (1 + takeI ds most).toNat).map fun k => .int (k : Nat)) := by
    have := fRng1_nat (n := (1 + takeI ds most).toNat) (by omega)
    rw [Int.toNat_of_nonneg (by omega)] at this
    exact this
  refine ok_runF (S := [.own (some 0) (deckI ds'), .shr (.int most), .un, a]) ?_ rfl
  show placesSem [.own (some 0) (deckI ds), .shr (.int most), .un, .un] = _
  have e' : forL (tNm 3) plB ((List.range (1 + takeI ds most).toNat).map fun k => .int (k : Nat)) [.own (some 0) (deckI ds.dropLast), .shr (.int most), .own none (.dct []), .un] = .ok .nx _ := e
  simp [-ev_sPut, placesSem, take_F, h0, hr, e']
end L2.Dl
namespace L2.Dl
open PySem PySem.Spec PyProof.Rows
/-! ### wishes -/
theorem subscD_strs {l : List Str} {i : Int} (h0 : 0 ≤ i) (h1 : i < l.length) : ∃ x ∈ l, subscD (.lst (l.map .str)) (.int i) = some (.v (.str x)) := by
  have hi : i.toNat < l.length := by omega
  refine ⟨l[i.toNat], List.getElem_mem hi, ?_⟩
  show (atI (l.map D.str) i).map R.v = _
  unfold atI ixN
  rw [if_pos h0, if_pos (by simpa using h1)]
  simp [hi]
theorem forL_range {g : D → SS → Option SS} {body : M Fl} {n : Nat} {S : SS} (I : Nat → SS → Prop) (step : ∀ k S, k < n → I k S → ∃ S1 S2, g (.int (k : Nat)) S = some S1 ∧ body S1 = .ok .nx S2 ∧ I (k + 1) S2) (h : I 0 S) :
    ∃ S', forL g body ((List.range n).map fun k => .int (k : Nat)) S = .ok .nx S' ∧ I n S' := by
  have := forL_inv (g := g) (body := body) (ds := (List.range n).map fun k => D.int (k : Nat)) (I := I) (S := S) (fun i d S hd hI => by
    rw [List.getElem?_map] at hd
    by_cases hi : i < n
    · rw [List.getElem?_range hi] at hd
      cases hd
      exact step i S hi hI
    · rw [List.getElem?_eq_none (by simpa using hi)] at hd
      cases hd) h
  simpa using this
def rwD (W : Str → List Str) (O : List Str) : D := .dct (nd (fun o => .lst ((W o).map .str)) O)
noncomputable abbrev wiB : M Fl := (sSeq (sAsg 8 (sOp subscD (sNm 3) (callM [true, false] takeF (sCons (sNm 0) (sCons (sCall gLen (sCons (sNm 3) sNil)) sNil)))))
    (sIfS (sCmpT nmemD (sNm 8) (sNm 6)) (sExpr (mutL 6 gApp (sCons (sNm 8) sNil))) sNext))
noncomputable abbrev wiC : M Fl := (sSeq (sAsg 6 (sMake gLst sNil))
    (sSeq (sFor (iRng fRng1 (sCons (callM [true, false] takeF (sCons (sNm 0) (sCons (sV (.int 4)) sNil))) sNil)) (tNm 7) wiB)
    (sPut 4 (sNm 6) (sOp addD (sV (.str "o")) (sCall gStr (sCons (sNm 5) sNil))))))
noncomputable abbrev wishesSem : M Fl := (sSeq (sAsg 3 (sCall gSorted (sCons (sNm 2) sNil)))
    (sSeq (sAsg 4 sNewK)
    (sSeq (sFor (iRng fRng1 (sCons (callM [true, false] takeF (sCons (sNm 0) (sCons (sOp addD (sNm 1) (sV (.int 1))) sNil))) sNil)) (tNm 5) wiC)
    (sRet (sNm 4)))))
variable {ds : List Int} {Sl r : List Str} {W : Str → List Str}
abbrev wiS (ds : List Int) (most pd : D) (Sl : List Str) (w : D) (a : AV) (r : List Str) (b c : AV) : SS :=
  [.own (some 0) (deckI ds), .shr most, .shr pd, .own none (.lst (Sl.map .str)), .own none w, a, .own none (.lst (r.map .str)), b, c]
theorem wiB_eq {most pd w : D} (a b c : AV) (hS : 0 < Sl.length) (hr : r.length < 100) : ∃ x r', wiB (wiS ds most pd Sl w a r b c) = .ok .nx (wiS ds.dropLast most pd Sl w a r' b (.shr (.str x))) ∧ x ∈ Sl ∧ (r' = r ∨ (r' = r ++ [x] ∧ x ∉ r)) := by
  have p : (0 : Int) < Sl.length := by omega
  obtain ⟨x, hx, e⟩ := subscD_strs (l := Sl) (takeI_nonneg (ds := ds) p) (takeI_lt (ds := ds) p)
  have tk := take_F (ds := ds) p
  by_cases hm : x ∈ r
  · refine ⟨x, r, ?_, hx, .inl rfl⟩
    simp [wiB, wiS, tk, e, nmemD_strs, hm]
  · refine ⟨x, r ++ [x], ?_, hx, .inr ⟨rfl, hm⟩⟩
    simp [wiB, wiS, tk, e, nmemD_strs, hm, gApp_lt (l := r.map D.str) (d := .str x) (by simp; omega)]
theorem wiB_loop {most pd w : D} {n : Nat} (a b c : AV) (hS : 0 < Sl.length) (hn : n < 50) : ∃ S', forL (tNm 7) wiB ((List.range n).map fun k => .int (k : Nat)) (wiS ds most pd Sl w a [] b c) = .ok .nx S' ∧
    ∃ ds' r b c, S' = wiS ds' most pd Sl w a r b c ∧ r.length ≤ n ∧ r.Nodup ∧ ∀ x ∈ r, x ∈ Sl := by
  refine forL_range (fun k S => ∃ ds' r b c, S = wiS ds' most pd Sl w a r b c ∧ r.length ≤ k ∧ r.Nodup ∧ ∀ x ∈ r, x ∈ Sl) (fun k S hk hI => ?_) ⟨ds, [], b, c, rfl, by simp, List.nodup_nil, by simp⟩
  obtain ⟨ds', r, b, c, rfl, h1, h2, h3⟩ := hI
  obtain ⟨x, r', e, hx, hr⟩ := wiB_eq (ds := ds') (most := most) (pd := pd) (w := w) a (.shr (.int (k : Nat))) c hS (r := r) (by omega)
  refine ⟨_, _, rfl, e, _, _, _, _, rfl, ?_⟩
  rcases hr with rfl | ⟨rfl, hm⟩
  · exact ⟨by omega, h2, h3⟩
  · refine ⟨by simp; omega, List.nodup_append.mpr ⟨h2, by simp, fun y hy z hz => ?_⟩, fun y hy => ?_⟩
    · rw [List.mem_singleton.mp hz]; exact fun q => hm (q ▸ hy)
    · rcases List.mem_append.mp hy with q | q
      · exact h3 y q
      · rw [List.mem_singleton.mp q]; exact hx
theorem fRng1_int {i : Int} (h0 : 0 ≤ i) (h1 : i ≤ 1000000) : fRng1 [.int i] = some ((List.range i.toNat).map fun k => .int (k : Nat)) := by
  have := fRng1_nat (n := i.toNat) (by omega)
  rw [Int.toNat_of_nonneg h0] at this
  exact this
abbrev wjS (ds : List Int) (most pd : D) (Sl : List Str) (w : D) (a r b c : AV) : SS :=
  [.own (some 0) (deckI ds), .shr most, .shr pd, .own none (.lst (Sl.map .str)), .own none w, a, r, b, c]
theorem wiC_eq {most pd : D} {k : Nat} (q b c : AV) (hS : 0 < Sl.length) (hk : k < 16) : ∃ ds' r q' b' c', wiC (wjS ds most pd Sl (rwD W (namesS "o" k)) (.shr (.int (k : Nat))) q b c) = .ok .nx (wjS ds' most pd Sl (rwD (fun o => if o = nmS "o" k then r else W o) (namesS "o" (k + 1))) (.shr (.int (k : Nat))) q' b' c') ∧
    r.length ≤ 3 ∧ r.Nodup ∧ ∀ x ∈ r, x ∈ Sl := by
  have t0 := takeI_nonneg (ds := ds) (many := 4) (by decide)
  have t1 := takeI_lt (ds := ds) (many := 4) (by decide)
  obtain ⟨S', e, ds', r, b', c', rfl, h1, h2, h3⟩ := wiB_loop (ds := ds.dropLast) (most := most) (pd := pd) (w := rwD W (namesS "o" k)) (n := (takeI ds 4).toNat) (.shr (.int (k : Nat))) b c hS (by omega)
  refine ⟨ds', r, .shr (.lst (r.map .str)), b', c', ?_, by omega, h2, h3⟩
  have e1 : nd (fun o => D.lst ((W o).map .str)) (namesS "o" k) = nd (fun o => .lst ((if o = nmS "o" k then r else W o).map .str)) (namesS "o" k) := nd_congr fun x hx => by
    have : x ≠ nmS "o" k := fun z => pfx_o.nin hk (z ▸ hx)
    simp [this]
  have hp : putAt (rwD W (namesS "o" k)) (.str (nmS "o" k)) (.lst (r.map .str)) = some (rwD (fun o => if o = nmS "o" k then r else W o) (namesS "o" (k + 1))) := by
    show (if (nd (fun o => D.lst ((W o).map .str)) (namesS "o" k)).length < 1000000 then some (D.dct (putD (nd (fun o => D.lst ((W o).map .str)) (namesS "o" k)) (.inr (nmS "o" k)) (.lst (r.map .str)))) else none) = _
    rw [if_pos (by simp [nd]; omega), e1, putD_nd_new (pfx_o.nin hk), namesS_succ]
    · rfl
    · rw [if_pos rfl]
  have hg := gStr_nat (k := k) (by omega)
  have hr := fRng1_int t0 (by omega)
  simp only [rwD, wiS, List.map_nil] at e hp
  simp [wiC, wjS, rwD, take_F, hr, e, hg, pfx_o.add k hk, hp]
theorem wishes_run {most : Int} {cap : Str → Nat} (h0 : 0 ≤ most) (h1 : most ≤ 12) (hS : 0 < Sl.length) : ∃ W ds' n, runF 9 [true, false, false] wishesSem [deckI ds, .int most, plD cap Sl] = .ret (rwD W (namesS "o" n)) true [deckI ds'] ∧ (n : Int) ≤ most ∧
    ∀ o, (W o).length ≤ 3 ∧ (W o).Nodup ∧ ∀ x ∈ W o, x ∈ Sl := by
  have hm : (0 : Int) < most + 1 := by omega
  have t0 := takeI_nonneg (ds := ds) hm
  have t1 := takeI_lt (ds := ds) hm
  have hS' : 0 < (sortS Sl).length := by rw [length_sortS]; exact hS
  have loop : ∃ S', forL (tNm 5) wiC ((List.range (takeI ds (most + 1)).toNat).map fun k => .int (k : Nat)) (wjS ds.dropLast (.int most) (plD cap Sl) (sortS Sl) (rwD (fun _ => []) (namesS "o" 0)) .un .un .un .un) = .ok .nx S' ∧
      ∃ ds' W a r b c, S' = wjS ds' (.int most) (plD cap Sl) (sortS Sl) (rwD W (namesS "o" (takeI ds (most + 1)).toNat)) a r b c ∧ ∀ o, (W o).length ≤ 3 ∧ (W o).Nodup ∧ ∀ x ∈ W o, x ∈ Sl := by
    refine forL_range (fun k S => ∃ ds' W a r b c, S = wjS ds' (.int most) (plD cap Sl) (sortS Sl) (rwD W (namesS "o" k)) a r b c ∧ ∀ o, (W o).length ≤ 3 ∧ (W o).Nodup ∧ ∀ x ∈ W o, x ∈ Sl) (fun k S hk hI => ?_) ⟨_, fun _ => [], _, _, _, _, rfl, by simp⟩
    obtain ⟨ds', W, a, r, b, c, rfl, hW⟩ := hI
    obtain ⟨ds2, r2, q2, b2, c2, e, h1, h2, h3⟩ := wiC_eq (ds := ds') (W := W) (most := .int most) (pd := plD cap Sl) (k := k) r b c hS' (by omega)
    refine ⟨_, _, rfl, e, _, _, _, _, _, _, rfl, fun o => ?_⟩
    show (if o = _ then r2 else W o).length ≤ 3 ∧ (if o = _ then r2 else W o).Nodup ∧ ∀ x ∈ (if o = _ then r2 else W o), x ∈ Sl
    split
    · exact ⟨h1, h2, fun x hx => mem_sortS.mp (h3 x hx)⟩
    · exact hW o
  obtain ⟨S', e, ds', W, a, r, b, c, rfl, hW⟩ := loop
  refine ⟨W, ds', (takeI ds (most + 1)).toNat, ?_, by omega, hW⟩
  have hr := fRng1_int t0 (by omega)
  have tk := take_F (ds := ds) hm
  have gs : gSorted [plD cap Sl] = some (.f (.lst ((sortS Sl).map .str))) := gSorted_nd _ _
  refine ok_runF (S := [.own (some 0) (deckI ds'), .shr (.int most), .shr (plD cap Sl), .own none (.lst ((sortS Sl).map .str)), .un, a, r, b, c]) ?_ rfl
  show wishesSem [.own (some 0) (deckI ds), .shr (.int most), .shr (plD cap Sl), .un, .un, .un, .un, .un, .un] = _
  have e' : forL (tNm 5) wiC ((List.range (takeI ds (most + 1)).toNat).map fun k => .int (k : Nat)) [.own (some 0) (deckI ds.dropLast), .shr (.int most), .shr (plD cap Sl), .own none (.lst ((sortS Sl).map .str)), .own none (.dct []), .un, .un, .un, .un] = .ok .nx _ := e
  simp [wishesSem, tk, hr, gs, e']
end L2.Dl
namespace L2.Dl
open PySem PySem.Spec PyProof.Rows
/-! ### dicts of names compared -/
theorem eq0_str {a b : Str} (ha : Lay a) (hb : Lay b) : eq0 (.str a) (.str b) = some (a == b) := by
  unfold eq0
  exact pyEq_str ha hb
theorem hits_names {f : D → D → Option Bool} {p q : Str → D} {e : Str → Bool} {k : List Str} : ∀ {l : List Str}, (∀ o ∈ l, o ∈ k → f (p o) (q o) = some (e o)) → hitsD f (nd q k) (nd p l) = some (decide (∀ o ∈ l, o ∈ k ∧ e o = true))
  | [], _ => by simp [hitsD, nd]
  | o :: l, h => by
    have ih := hits_names (l := l) fun x hx => h x (List.mem_cons_of_mem _ hx)
    show (match valD (nd q k) (.inr o) with
      | none => some false
      | some u => match f (p o) u, hitsD f (nd q k) (nd p l) with
        | some e, some b => some (e && b)
        | _, _ => none) = _
    by_cases hk : o ∈ k
    · rw [valD_nd hk]
      simp only [h o List.mem_cons_self hk, ih]
      congr 1
      rw [Bool.eq_iff_iff]
      simp [hk]
    · rw [valD_nd_none hk]
      simp [hk]
theorem toPy_dct (l : List (Key × D)) : toPy (.dct l) = none := by unfold toPy; rfl
theorem pyEq_dct (l : List (Key × D)) (d : D) : pyEq (.dct l) d = none := by
  unfold pyEq
  rw [toPy_dct]
theorem nodup_length_le {l m : List Str} (h : l.Nodup) (hs : ∀ x ∈ l, x ∈ m) : l.length ≤ m.length := by
  induction l generalizing m with
  | nil => simp
  | cons a l ih =>
    obtain ⟨h1, h2⟩ := List.nodup_cons.mp h
    have ha := hs a List.mem_cons_self
    have := ih (m := m.erase a) h2 fun x hx => by
      have ne : x ≠ a := fun z => h1 (z ▸ hx)
      exact (List.mem_erase_of_ne ne).mpr (hs x (List.mem_cons_of_mem _ hx))
    rw [List.length_erase_of_mem ha] at this
    have : 0 < m.length := List.length_pos_of_mem ha
    simp only [List.length_cons]
    omega
theorem mem_of_le {l m : List Str} (h : l.Nodup) (hs : ∀ x ∈ l, x ∈ m) (hl : m.length ≤ l.length) (hm : m.Nodup) : ∀ x ∈ m, x ∈ l := by
  intro x hx
  by_cases q : x ∈ l
  · exact q
  · exfalso
    have := nodup_length_le (l := x :: l) (m := m) (List.nodup_cons.mpr ⟨q, h⟩) fun y hy => by
      rcases List.mem_cons.mp hy with z | z
      · exact z ▸ hx
      · exact hs y z
    simp only [List.length_cons] at this
    omega
/-- the same keys with equal values -/
def SameK (e : Str → Bool) (l k : List Str) : Prop := (∀ o, o ∈ l ↔ o ∈ k) ∧ ∀ o ∈ l, e o = true
theorem hits_len {f : D → D → Option Bool} {p q : Str → D} {e : Str → Bool} {l k : List Str} (hl : l.Nodup) (hk : k.Nodup) (h : ∀ o ∈ l, o ∈ k → f (p o) (q o) = some (e o)) :
    ∃ b, (if (nd p l).length = (nd q k).length then hitsD f (nd q k) (nd p l) else some false) = some b ∧ (b = true ↔ SameK e l k) := by
  by_cases hn : l.length = k.length
  · refine ⟨decide (∀ o ∈ l, o ∈ k ∧ e o = true), ?_, ?_⟩
    · rw [if_pos (by simp [nd, hn]), hits_names h]
    · rw [decide_eq_true_iff]
      constructor
      · intro q
        exact ⟨fun o => ⟨fun ho => (q o ho).1, fun ho => mem_of_le hl (fun x hx => (q x hx).1) (by omega) hk o ho⟩, fun o ho => (q o ho).2⟩
      · intro q o ho
        exact ⟨(q.1 o).mp ho, q.2 o ho⟩
  · refine ⟨false, ?_, ?_⟩
    · rw [if_neg (by simpa [nd] using hn)]
    · constructor
      · intro z; cases z
      · intro q
        exact absurd ((List.perm_ext_iff_of_nodup hl hk).mpr q.1).length_eq hn
theorem deq_nd {p q : Str → D} {e : Str → Bool} {l k : List Str} (hl : l.Nodup) (hk : k.Nodup) (h : ∀ o ∈ l, o ∈ k → eq0 (p o) (q o) = some (e o)) :
    ∃ b, deq (.dct (nd p l)) (.dct (nd q k)) = some b ∧ (b = true ↔ SameK e l k) := by
  obtain ⟨b, h1, h2⟩ := hits_len (f := eq0) hl hk h
  refine ⟨b, ?_, h2⟩
  unfold deq
  rw [pyEq_dct]
  exact h1
theorem eq0_nd {p q : Str → D} {e : Str → Bool} {l k : List Str} (hl : l.Nodup) (hk : k.Nodup) (h : ∀ o ∈ l, o ∈ k → pyEq (p o) (q o) = some (e o)) :
    ∃ b, eq0 (.dct (nd p l)) (.dct (nd q k)) = some b ∧ (b = true ↔ SameK e l k) := hits_len hl hk h
theorem toPyL_dct {d : D} {l : List D} (h : toPy d = none) : toPyL (d :: l) = none := by
  unfold toPyL
  rw [h]
theorem deq_nil (l : List D) : deq (.lst l) (.lst []) = some l.isEmpty := by
  cases l with
  | nil => rfl
  | cons a l =>
    unfold deq
    have q : pyEq (.lst (a :: l)) (.lst []) = none ∨ pyEq (.lst (a :: l)) (.lst []) = some false := by
      unfold pyEq
      simp only [toPy, toPyL]
      cases toPy a with
      | none => exact .inl rfl
      | some p =>
        cases toPyL l with
        | none => exact .inl rfl
        | some ps =>
          simp only []
          split
          · exact .inr rfl
          · exact .inl rfl
    rcases q with q | q <;> rw [q] <;> simp
theorem gPopAt_strs {l : List Str} {i : Int} (h0 : 0 ≤ i) (h1 : i < l.length) (hl : l.length < 1000000) : ∃ x l', gPopAt (l.map .str) [.int i] = some (l'.map .str, .str x) ∧ l.Perm (x :: l') ∧ l'.length + 1 = l.length := by
  have hi : i.toNat < l.length := by omega
  have e : l = l.take i.toNat ++ l[i.toNat] :: l.drop (i.toNat + 1) := by
    rw [← List.drop_eq_getElem_cons hi, List.take_append_drop]
  refine ⟨l[i.toNat], l.take i.toNat ++ l.drop (i.toNat + 1), ?_, ?_, ?_⟩
  · show (if -(2 ^ 63) ≤ i ∧ i < 2 ^ 63 then _ else none) = _
    rw [if_pos (by omega)]
    simp only [List.length_map, seqIndex_of h0 h1, List.getElem?_map, List.getElem?_eq_getElem hi, Option.map_some, List.eraseIdx_eq_take_drop_succ, List.map_append, List.map_take, List.map_drop]
  · exact (List.Perm.of_eq e).trans List.perm_middle
  · simp
    omega
@[simp] theorem ev_freezeL_nil (S : SS) : freezeL S [] = S := rfl
@[simp] theorem ev_freezeL_cons (S : SS) (i : Nat) (bo : List Nat) : freezeL S (i :: bo) = freezeL (freeze S i) bo := rfl
@[simp] theorem ev_freeze (S : SS) (i : Nat) : freeze S i = match S[i]? with
  | some (.own t d) => S.set i (.shr d)
  | _ => S := by unfold freeze; rfl
theorem callK_keep {S : SS} {io bo : List Nat} {fl : Bool} {iod : List D} (h : (fl && iod.all D.flat) = true) : callK S io bo fl iod = setIO S io iod := by
  unfold callK
  rw [h, Bool.or_true, if_pos rfl]
theorem callK_frz {S : SS} {io : List Nat} {i : Nat} {bo : List Nat} {fl : Bool} {iod : List D} (h : (fl && iod.all D.flat) = false) : callK S io (i :: bo) fl iod = setIO (freezeL S (i :: bo)) io iod := by
  unfold callK
  rw [h]
  rfl
theorem deckI_flat (ds : List Int) : (deckI ds).flat = true := by simp [deckI, D.flat, D.sc]
end L2.Dl
namespace L2.Dl
open PySem PySem.Spec PyProof.Rows
/-! ### plain data -/
/-- lists, tuples, texts, numbers: no deeper than n, no list longer than N -/
inductive OkD (N : Nat) : Nat → D → Prop
  | bl {n b} : OkD N n (.bl b)
  | int {n i} : OkD N n (.int i)
  | str {n s} : Lay s → OkD N n (.str s)
  | lst {n l} : l.length ≤ N → (∀ d ∈ l, OkD N n d) → OkD N (n + 1) (.lst l)
  | tup {n l} : l.length ≤ N → (∀ d ∈ l, OkD N n d) → OkD N (n + 1) (.tup l)
theorem toPyL_of {l : List D} {n : Nat} (h : ∀ d ∈ l, ∃ p, toPy d = some p ∧ p.canLay0 = true ∧ p.depth ≤ n) : ∃ ps, toPyL l = some ps ∧ PyData.canLayAll0 ps = true ∧ PyData.depthAll ps ≤ n := by
  induction l with
  | nil => exact ⟨[], rfl, rfl, Nat.zero_le _⟩
  | cons d l ih =>
    obtain ⟨p, h1, h2, h3⟩ := h d List.mem_cons_self
    obtain ⟨ps, g1, g2, g3⟩ := ih fun x hx => h x (List.mem_cons_of_mem _ hx)
    refine ⟨p :: ps, ?_, ?_, ?_⟩
    · simp only [toPyL, h1, g1]
    · simp only [PyData.canLayAll0, h2, g2, Bool.and_self]
    · simp only [PyData.depthAll]
      omega
theorem OkD.py {N n : Nat} {d : D} (h : OkD N n d) : ∃ p, toPy d = some p ∧ p.canLay0 = true ∧ p.depth ≤ n := by
  induction h with
  | bl => exact ⟨.bool _, rfl, rfl, Nat.zero_le _⟩
  | int => exact ⟨.int _, rfl, rfl, Nat.zero_le _⟩
  | str h => exact ⟨.str _, rfl, h, Nat.zero_le _⟩
  | lst _ _ ih =>
    obtain ⟨ps, g1, g2, g3⟩ := toPyL_of ih
    exact ⟨.list ps, by simp only [toPy, g1], by simp only [PyData.canLay0, g2], by simp only [PyData.depth]; omega⟩
  | tup _ _ ih =>
    obtain ⟨ps, g1, g2, g3⟩ := toPyL_of ih
    exact ⟨.tuple ps, by simp only [toPy, g1], by simp only [PyData.canLay0, g2], by simp only [PyData.depth]; omega⟩
theorem OkD.pyEq_self {N n : Nat} {d : D} (h : OkD N n d) (hn : n ≤ 64) : pyEq d d = some true := by
  obtain ⟨p, h1, h2, h3⟩ := h.py
  unfold pyEq
  simp only [h1]
  have : SeqAt.shaped p = true := by
    unfold SeqAt.shaped
    rw [h2, decide_eq_true (by omega)]
    rfl
  rw [this, SeqAt.eqv_refl p h2]
  rfl
theorem OkD.deq_self {N n : Nat} {d : D} (h : OkD N n d) (hn : n ≤ 64) : deq d d = some true := by
  unfold deq
  rw [h.pyEq_self hn]
theorem OkD.dne_self {N n : Nat} {d : D} (h : OkD N n d) (hn : n ≤ 64) : dne d d = some false := by
  unfold dne
  rw [h.deq_self hn]
  rfl
theorem OkD.up {N n : Nat} {d : D} (h : OkD N n d) : OkD N (n + 1) d := by
  induction h with
  | bl => exact .bl
  | int => exact .int
  | str h => exact .str h
  | lst hl _ ih => exact .lst hl ih
  | tup hl _ ih => exact .tup hl ih
/-! ### the laws' own telling of a value -/
noncomputable def plainSem (Fr : List D → FR) : M Fl := (sSeq (sIfS (sTru (sIsi ["tuple", "list"] (sNm 0))) (sRet (sOp addD (sMake gLst (sCons (sIsi ["list"] (sNm 0)) sNil)) (sLc [1] (iSeq (sNm 0)) (tNm 1) sYes (callM [false] Fr (sCons (sNm 1) sNil))))) sNext)
    (sSeq (sIfS (sOr (sCmpT (isD false) (sNm 0) (sV .non)) (sTru (sIsi ["bool"] (sNm 0)))) (sRet (sOp subscD (sMake gLst (sCons (sV (.str "None")) (sCons (sV (.str "False")) (sCons (sV (.str "True")) sNil)))) (sOp addD (sCall gInt (sCons (sOp (toB (isD true)) (sNm 0) (sV .non)) sNil)) (sCall gInt (sCons (sOp (toB (isD false)) (sNm 0) (sV (.bl true))) sNil))))) sNext)
    (sSeq (sIfS (sTru (sIsi ["int", "str"] (sNm 0))) (sRet (sMake gLst (sCons (sIsi ["str"] (sNm 0)) (sCons (sNm 0) sNil)))) sNext)
    (sRet (sV (.str "another"))))))
noncomputable def plainF : Nat → List D → FR
  | 0 => fun _ => .no
  | n + 1 => runF 2 [false] (plainSem (plainF n))
@[simp] theorem ev_sIsi {Ts : List String} {fa : M R} {S : SS} : sIsi Ts fa S = (fa S).bind fun ra S1 => match look S1 ra with
  | none => .no
  | some d => match tyD d with
    | none => .no
    | some t => .ok (.v (.bl (Ts.any (isTy t)))) S1 := rfl
def resD : FR → D
  | .ret e _ _ => e
  | _ => .non
theorem ok_plain_list {Fr : List D → FR} {N n : Nat} {d : D} {l : List D} {b : Bool} (hd : (d = .lst l ∧ b = true) ∨ (d = .tup l ∧ b = false)) (hN : N < 1000000) (hl : l.length ≤ N) (h : ∀ x ∈ l, ∃ e fr, Fr [x] = .ret e fr [] ∧ OkD (N + 1) (n + 1) e) (h2 : 2 ≤ N) :
    ∃ e, runF 2 [false] (plainSem Fr) [d] = .ret e true [] ∧ OkD (N + 1) (n + 2) e := by
  obtain ⟨Y, hY⟩ : ∃ Y : D → D, ∀ x ∈ l, (∃ fr, Fr [x] = .ret (Y x) fr []) ∧ OkD (N + 1) (n + 1) (Y x) := by
    refine ⟨fun x => resD (Fr [x]), fun x hx => ?_⟩
    obtain ⟨e, fr, h1, h2⟩ := h x hx
    show (∃ fr, Fr [x] = .ret (resD (Fr [x])) fr []) ∧ OkD (N + 1) (n + 1) (resD (Fr [x]))
    rw [h1]
    exact ⟨⟨fr, rfl⟩, h2⟩
  have e1 : sLc [1] (iSeq (sNm 0)) (tNm 1) sYes (callM [false] Fr (sCons (sNm 1) sNil)) [.shr d, .un] = .ok (.f (.lst (l.map Y))) [.shr d, .un] := by
    have q := sLc_pure (v := 1) (fi := iSeq (sNm 0)) (ft := sYes) (fe := callM [false] Fr (sCons (sNm 1) sNil)) (S := [.shr d, .un]) (S1 := [.shr d, .un]) (ds := l) (w := .un) (fun _ => true) Y (by rcases hd with ⟨rfl, _⟩ | ⟨rfl, _⟩ <;> rfl) (by omega) rfl fun x hx => by
      obtain ⟨⟨fr, h1⟩, _⟩ := hY x hx
      refine ⟨rfl, fun _ => ?_⟩
      cases fr with
      | true => exact ⟨.f (Y x), by simp [h1], rfl⟩
      | false => exact ⟨.v (Y x), by simp [h1], rfl⟩
    rw [q]
    congr 3
    rw [List.filter_eq_self.mpr fun _ _ => rfl]
  have ad : addD (.lst [.bl b]) (.lst (l.map Y)) = some (.f (.lst (.bl b :: l.map Y))) := by
    show (if [D.bl b].length + (l.map Y).length ≤ 1000000 then _ else none) = _
    rw [if_pos (by simp; omega)]
    rfl
  refine ⟨.lst (.bl b :: l.map Y), ok_runF (S := [.shr d, .un]) ?_ rfl, .lst (by simp; omega) fun x hx => ?_⟩
  · unfold plainSem
    rw [ev_sSeq]
    have : sIfS (sTru (sIsi ["tuple", "list"] (sNm 0))) (sRet (sOp addD (sMake gLst (sCons (sIsi ["list"] (sNm 0)) sNil)) (sLc [1] (iSeq (sNm 0)) (tNm 1) sYes (callM [false] Fr (sCons (sNm 1) sNil))))) sNext [.shr d, .un] = .ok (.rt (.lst (.bl b :: l.map Y)) true) [.shr d, .un] := by
      rw [ev_sIfS]
      have c : sTru (sIsi ["tuple", "list"] (sNm 0)) [.shr d, .un] = .ok true [.shr d, .un] := by
        rcases hd with ⟨rfl, _⟩ | ⟨rfl, _⟩ <;> rfl
      rw [c]
      simp only [ev_bind_ok, if_true]
      have m : sMake gLst (sCons (sIsi ["list"] (sNm 0)) sNil) [.shr d, .un] = .ok (.f (.lst [.bl b])) [.shr d, .un] := by
        rcases hd with ⟨rfl, rfl⟩ | ⟨rfl, rfl⟩ <;> rfl
      simp only [ev_sRet, ev_sOp, m, ev_bind_ok, e1, ev_look_f, Option.bind_eq_bind, Option.bind_some, ad, ev_lift_some, ev_retR_f]
    have tup : [AV.shr d, AV.un] = [AV.shr d, AV.un] := rfl
    show (sIfS _ _ _ [.shr d, .un]).bind _ = _
    rw [this]
    rfl
  · rcases List.mem_cons.mp hx with rfl | hx
    · exact .bl
    · obtain ⟨y, hy, rfl⟩ := List.mem_map.mp hx
      exact (hY y hy).2
theorem plain_run {N n : Nat} {d : D} (hN : N < 1000000) (h2 : 2 ≤ N) (h : OkD N n d) : ∀ k, n < k → ∃ e fr, plainF k [d] = .ret e fr [] ∧ OkD (N + 1) (n + 1) e := by
  induction h with
  | @bl n b =>
    intro k hk
    obtain ⟨k, rfl⟩ : ∃ j, k = j + 1 := ⟨k - 1, by omega⟩
    cases b with
    | true => exact ⟨.str "True", false, rfl, .str (by unfold Lay; decide +kernel)⟩
    | false => exact ⟨.str "False", false, rfl, .str (by unfold Lay; decide +kernel)⟩
  | int =>
    intro k hk
    obtain ⟨k, rfl⟩ : ∃ j, k = j + 1 := ⟨k - 1, by omega⟩
    refine ⟨.lst [.bl false, .int _], true, rfl, .lst (by simp; omega) fun x hx => ?_⟩
    simp at hx
    rcases hx with rfl | rfl
    · exact .bl
    · exact .int
  | str hs =>
    intro k hk
    obtain ⟨k, rfl⟩ : ∃ j, k = j + 1 := ⟨k - 1, by omega⟩
    refine ⟨.lst [.bl true, .str _], true, rfl, .lst (by simp; omega) fun x hx => ?_⟩
    simp at hx
    rcases hx with rfl | rfl
    · exact .bl
    · exact .str hs
  | lst hl _ ih =>
    intro k hk
    obtain ⟨k, rfl⟩ : ∃ j, k = j + 1 := ⟨k - 1, by omega⟩
    obtain ⟨e, h1, h3⟩ := ok_plain_list (b := true) (.inl ⟨rfl, rfl⟩) hN hl (fun x hx => ih x hx k (by omega)) h2
    exact ⟨e, true, h1, h3⟩
  | tup hl _ ih =>
    intro k hk
    obtain ⟨k, rfl⟩ : ∃ j, k = j + 1 := ⟨k - 1, by omega⟩
    obtain ⟨e, h1, h3⟩ := ok_plain_list (b := false) (.inr ⟨rfl, rfl⟩) hN hl (fun x hx => ih x hx k (by omega)) h2
    exact ⟨e, true, h1, h3⟩
end L2.Dl
namespace L2.Dl
open PySem PySem.Spec PyProof.Rows
/-! ### comprehensions over any list, the state kept within I -/
theorem lcL_map {α : Type} {vs : List Nat} {g : D → SS → Option SS} {ft : M Bool} {fe : M R} (f : α → D) (T : α → Bool) (Y : α → D) (I : SS → Prop) : ∀ (xs : List α),
    (∀ x ∈ xs, ∀ S, I S → ∃ S1 S2, g (f x) S = some S1 ∧ ft S1 = .ok (T x) S2 ∧ (T x = true → ∃ r S3 S4, fe S2 = .ok r S3 ∧ valR S3 r = some (Y x, S4) ∧ I (wipeS S4 vs)) ∧ (T x = false → I (wipeS S2 vs))) →
    ∀ S, I S → ∃ S', lcL vs g ft fe (xs.map f) S = .ok ((xs.filter T).map Y) S' ∧ I S'
  | [], _, S, hI => ⟨S, rfl, hI⟩
  | x :: xs, h, S, hI => by
    obtain ⟨S1, S2, h1, h2, h3, h4⟩ := h x List.mem_cons_self S hI
    have ih := lcL_map (ft := ft) (fe := fe) f T Y I xs fun y hy => h y (List.mem_cons_of_mem _ hy)
    simp only [List.map_cons, lcL, h1, h2, noEx, Res.bind]
    cases c : T x with
    | true =>
      obtain ⟨r, S3, S4, e1, e2, e3⟩ := h3 c
      obtain ⟨S', q1, q2⟩ := ih _ e3
      refine ⟨S', ?_, q2⟩
      simp only [if_true, e1, noEx, Res.bind, e2, q1, List.filter_cons, c, List.map_cons]
    | false =>
      obtain ⟨S', q1, q2⟩ := ih _ (h4 c)
      refine ⟨S', ?_, q2⟩
      simp only [q1, List.filter_cons, c]
      simp
theorem lc_map {α : Type} {vs : List Nat} {fi : M (List D)} {g : D → SS → Option SS} {ft : M Bool} {fe : M R} {S S1 : SS} (f : α → D) (T : α → Bool) (Y : α → D) (I : SS → Prop) {xs : List α} (hi : fi S = .ok (xs.map f) S1) (hl : xs.length ≤ 1000000)
    (h : ∀ x ∈ xs, ∀ S, I S → ∃ S1 S2, g (f x) S = some S1 ∧ ft S1 = .ok (T x) S2 ∧ (T x = true → ∃ r S3 S4, fe S2 = .ok r S3 ∧ valR S3 r = some (Y x, S4) ∧ I (wipeS S4 vs)) ∧ (T x = false → I (wipeS S2 vs)))
    (hI : I (wipeS S1 vs)) : ∃ S', sLc vs fi g ft fe S = .ok (.f (.lst ((xs.filter T).map Y))) (unwipe S1 S' vs) ∧ I S' := by
  obtain ⟨S', e, q⟩ := lcL_map (ft := ft) (fe := fe) f T Y I xs h (wipeS S1 vs) hI
  refine ⟨S', ?_, q⟩
  unfold sLc
  simp only [hi, Res.bind, List.length_map, if_pos hl, e, noEx]
end L2.Dl
namespace L2.Dl
open PySem PySem.Spec PyProof.Rows
/-- a for that raises at one of its items -/
theorem forL_list_ex {g : D → SS → Option SS} {body : M Fl} {α : Type} (f : α → D) {xs pre post : List α} {x : α} {I : List α → SS → Prop} {S : SS} {c : Nat} {w : D} (e : xs = pre ++ x :: post)
    (step : ∀ p y S, (∃ r, pre = p ++ y :: r) → I p S → ∃ S1 S2, g (f y) S = some S1 ∧ body S1 = .ok .nx S2 ∧ I (p ++ [y]) S2)
    {Q : SS → Prop} (last : ∀ S, I pre S → ∃ S1 S2, g (f x) S = some S1 ∧ body S1 = .ex c w S2 ∧ Q S2) (h : I [] S) : ∃ S', forL g body (xs.map f) S = .ex c w S' ∧ Q S' := by
  have key : ∀ (r p : List α) (S : SS), pre = p ++ r → I p S → ∃ S', forL g body ((r ++ x :: post).map f) S = .ex c w S' ∧ Q S' := by
    intro r
    induction r with
    | nil =>
      intro p S e hI
      rw [List.append_nil] at e
      obtain ⟨S1, S2, e1, e2, hQ⟩ := last S (e ▸ hI)
      refine ⟨S2, ?_, hQ⟩
      simp only [List.nil_append, List.map_cons]
      unfold forL
      simp only [e1, e2, Res.bind]
    | cons y r ih =>
      intro p S e hI
      obtain ⟨S1, S2, e1, e2, h2⟩ := step p y S ⟨r, e⟩ hI
      obtain ⟨S', e3, hQ⟩ := ih (p ++ [y]) S2 (by rw [e]; simp) h2
      refine ⟨S', ?_, hQ⟩
      simp only [List.cons_append, List.map_cons]
      unfold forL
      simp only [e1, e2, Res.bind]
      exact e3
  rw [e]
  exact key pre [] S rfl h
section
variable {S S1 : SS} {f g : M Fl} {c : Nat} {w : D}
theorem ex_runF {n : Nat} {md : List Bool} {ds : List D} {io : List D} (h : f (startS md ds 0 ++ List.replicate (n - ds.length) .un) = .ex c w S) (ho : outS md S 0 = some io) : runF n md f ds = .ex c w io := by
  unfold runF; simp only [h, ho]
theorem ex_sSeq (hf : f S = .ex c w S1) : sSeq f g S = .ex c w S1 := by unfold sSeq; simp only [hf, Res.bind]
theorem ex_callM {md : List Bool} {Fn : List D → FR} {fl : M (List R)} {rs : List R} {ds : List D} {io bo : List Nat} {iod : List D} (hl : fl S = .ok rs S1) (ha : argD S1 md rs = some (ds, io, bo)) (hn : io.Nodup ∧ ∀ i ∈ io, i ∉ bo) (hf : Fn ds = .ex c w iod) :
    callM md Fn fl S = .ex c w (callK S1 io bo false iod) := by
  unfold callM; simp only [hl, Res.bind, ha, if_pos hn, hf]
theorem ex_sExpr {fa : M R} (ha : fa S = .ex c w S1) : sExpr fa S = .ex c w S1 := by unfold sExpr; simp only [ha, Res.bind]
end
end L2.Dl
namespace Lk75
open PySem PySem.Spec PyProof.Rows L2 L2.Dl LamX NdefX
def top (i : Nat) : Stmt := PySem.Challenge.pw_slotwork_k75_whole_stable_plans.main.body.getD i (.Pass ⟨0, 0, 0, 0⟩)
/-- what the text's top leaves -/
structure TopF (mg : Str → Option Value) : Prop where
  f_abs : mg "abs" = none
  f_bool : mg "bool" = none
  f_dict : mg "dict" = none
  f_int : mg "int" = none
  f_isinstance : mg "isinstance" = none
  f_len : mg "len" = none
  f_list : mg "list" = none
  f_range : mg "range" = none
  f_set : mg "set" = none
  f_sorted : mg "sorted" = none
  f_str : mg "str" = none
  f_tuple : mg "tuple" = none
  f_zip : mg "zip" = none
  g_MOST_ORDERS : ∃ t, mg "MOST_ORDERS" = some (.int 400 t)
section
variable {P : Program} {w : World} {K : PySem.W.Frag} {mg : Str → Option Value} {base : Heap} {br : Brings}
/-! ### holders -/
abbrev st_holders : Stmt := top 9
noncomputable def sem_holders : M Fl := (sRet (sCall gSorted (sCons (sLc [2] (iSeq (sNm 0)) (tNm 2) (sCmpT deq (sOp subscD (sNm 0) (sNm 2)) (sNm 1)) (sNm 2)) sNil)))
noncomputable def Fn_holders : List D → FR := runF 3 [false, false] sem_holders
theorem sc_holders : FnScope ["plan", "slot", "order"] ["plan", "slot"] (defScope st_holders) := ⟨rfl, rfl, rfl, by decide +kernel, rfl, by decide +kernel, by decide +kernel⟩
theorem ok_holders {f : Addr} {fd : FuncData} (F : FunD K "holders" "holders" (defArgs st_holders) (defBody st_holders) (defScope st_holders) [] [] f fd) (T : TopF mg)  :
    FnOk P w K mg base (L2.CX P w) 1 f fd ["plan", "slot"] (spD br K [false, false] Fn_holders) := FnD (k := 0) F sc_holders rfl fun cdv A outer s H E z W hcode hcl hr c =>
    (Ss_one (S_ret (E_callB c.hk (cr_sortedD c.hk c.calm (hu70 hr)) (by rfl) T.f_sorted (by rfl) (L_cons (E_lc c (IT_seq (E_nm c.hk 0)) (blkOk_by (N := ["plan", "slot", "order"]) (sc := defScope st_holders) (own := [("order", 2)]) (by decide +kernel)) (by decide) (fun s H C cl fp => (Tg_nm (c.blk s H _ _ fp).nd rfl (by first | exact Or.inl rfl | exact Or.inr rfl))) (fun s H C cl fp => (Ts_one (T_cmp (op_deq (c.blk s H _ _ fp).hk (hu70 hr)) (E_ix (ix_sub (c.blk s H _ _ fp).hk (hu1 hr)) (E_nm (c.blk s H _ _ fp).hk 0) (E_nm (c.blk s H _ _ fp).hk 2) (by intro _ _; rfl)) (E_nm (c.blk s H _ _ fp).hk 1) (by rfl)))) (fun s H C cl fp => (E_nm (c.blk s H _ _ fp).hk 2))) L_nil))))

/-! ### check_wishes -/
abbrev st_check_wishes : Stmt := top 8
noncomputable def sem_check_wishes : M Fl := (sSeq (sIfS (sTru (sLc [4] (iSeq (sNm 0)) (tNm 4) (sCmpT ltD (sOp subscD (sNm 0) (sNm 4)) (sV (.int 0))) (sNm 4))) (sRaise 0 "invalid slot: " (sV (.str "places"))) sNext)
    (sSeq (sFor (iSeq (sNm 1)) (tNm 2) (sSeq (sAsg 3 (sOp subscD (sNm 1) (sNm 2)))
    (sIfS (sOr (sTru (sLc [4] (iSeq (sNm 3)) (tNm 4) (sCmpT nmemD (sNm 4) (sNm 0)) (sNm 4))) (sCmpT dne (sUn gLenSet (sNm 3)) (sCall gLen (sCons (sNm 3) sNil)))) (sRaise 2 "invalid order: " (sV (.str "wishes"))) sNext)))
    (sIfS (sCmpT gtD (sCall gLen (sCons (sNm 1) sNil)) (sV (.int 400))) (sRaise 1 "too many " (sV (.str "orders"))) sNext)))
noncomputable def Fn_check_wishes : List D → FR := runF 5 [false, false] sem_check_wishes
theorem sc_check_wishes : FnScope ["places", "wishes", "order", "row", "slot"] ["places", "wishes"] (defScope st_check_wishes) := ⟨rfl, rfl, rfl, by decide +kernel, rfl, by decide +kernel, by decide +kernel⟩
theorem ok_check_wishes {f : Addr} {fd : FuncData} (F : FunD K "check_wishes" "check_wishes" (defArgs st_check_wishes) (defBody st_check_wishes) (defScope st_check_wishes) [] [] f fd) (T : TopF mg)  (e_InvalidSlot : ErrC P w K mg base br 0 "InvalidSlot" "invalid slot: ") (e_InvalidOrder : ErrC P w K mg base br 2 "InvalidOrder" "invalid order: ") (e_TooMany : ErrC P w K mg base br 1 "TooMany" "too many ") :
    FnOk P w K mg base (L2.CX P w) 3 f fd ["places", "wishes"] (spD br K [false, false] Fn_check_wishes) := FnD (k := 2) F sc_check_wishes rfl fun cdv A outer s H E z W hcode hcl hr c =>
    (Ss_cons (S_if (T_tru (E_lc c (IT_seq (E_nm c.hk 0)) (blkOk_by (N := ["places", "wishes", "order", "row", "slot"]) (sc := defScope st_check_wishes) (own := [("slot", 4)]) (by decide +kernel)) (by decide) (fun s H C cl fp => (Tg_nm (c.blk s H _ _ fp).nd rfl (by first | exact Or.inl rfl | exact Or.inr rfl))) (fun s H C cl fp => (Ts_one (T_cmp op_ltD (E_ix (ix_sub (c.blk s H _ _ fp).hk (hu1 hr)) (E_nm (c.blk s H _ _ fp).hk 0) (E_nm (c.blk s H _ _ fp).hk 4) (by intro _ _; rfl)) (E_int (c.blk s H _ _ fp).hk) (by rfl)))) (fun s H C cl fp => (E_nm (c.blk s H _ _ fp).hk 4)))) (Ss_one (S_raise c e_InvalidSlot hcl (hr.mono (by decide)) (E_str c.hk))) Ss_nil)
    (Ss_cons (S_for c (IT_seq (E_nm c.hk 1)) (Tg_nm c.nd rfl (by first | exact Or.inl rfl | exact Or.inr rfl)) (Ss_cons (S_set c rfl (by first | exact Or.inl rfl | exact Or.inr rfl) (E_ix (ix_sub c.hk (hu1 hr)) (E_nm c.hk 1) (E_nm c.hk 2) (by intro _ _; rfl)))
    (Ss_one (S_if (Tw_or (T_tru (E_lc c (IT_seq (E_nm c.hk 3)) (blkOk_by (N := ["places", "wishes", "order", "row", "slot"]) (sc := defScope st_check_wishes) (own := [("slot", 4)]) (by decide +kernel)) (by decide) (fun s H C cl fp => (Tg_nm (c.blk s H _ _ fp).nd rfl (by first | exact Or.inl rfl | exact Or.inr rfl))) (fun s H C cl fp => (Ts_one (T_cmp (op_nmemD (c.blk s H _ _ fp).hk (hu1 hr)) (E_nm (c.blk s H _ _ fp).hk 4) (E_nm (c.blk s H _ _ fp).hk 0) (by rfl)))) (fun s H C cl fp => (E_nm (c.blk s H _ _ fp).hk 4)))) (Tw_or1 (T_cmp (op_dne c.hk (hu70 hr)) (E_lenSet c.calm T.f_len T.f_set (E_nm c.hk 3)) (E_callB c.hk (cr_lenD c.hk) (by rfl) T.f_len (by rfl) (L_cons (E_nm c.hk 3) L_nil)) (by rfl)))).t (Ss_one (S_raise c e_InvalidOrder hcl (hr.mono (by decide)) (E_str c.hk))) Ss_nil))))
    (Ss_one (S_if (T_cmp op_gtD (E_callB c.hk (cr_lenD c.hk) (by rfl) T.f_len (by rfl) (L_cons (E_nm c.hk 1) L_nil)) (E_gintX c.hk T.g_MOST_ORDERS) (by rfl)) (Ss_one (S_raise c e_TooMany hcl (hr.mono (by decide)) (E_str c.hk))) Ss_nil))))

/-! ### check_ranks -/
abbrev st_check_ranks : Stmt := top 12
noncomputable def sem_check_ranks : M Fl := (sSeq (sExpr (callM [false, false] Fn_check_wishes (sCons (sNm 0) (sCons (sNm 1) sNil))))
    (sSeq (sFor (iSeq (sNm 0)) (tNm 3) (sSeq (sAsg 4 (sCall gSorted (sCons (sLc [5] (iSeq (sNm 1)) (tNm 5) (sCmpT memD (sNm 3) (sOp subscD (sNm 1) (sNm 5))) (sNm 5)) sNil)))
    (sIfS (sCmpT dne (sCall gSorted (sCons (sGet2 (sNm 2) (sNm 3) (sMake gLst sNil)) sNil)) (sNm 4)) (sRaise 2 "invalid order: " (sV (.str "ranks"))) sNext)))
    (sIfS (sTru (sLc [3] (iSeq (sNm 2)) (tNm 3) (sCmpT nmemD (sNm 3) (sNm 0)) (sNm 3))) (sRaise 2 "invalid order: " (sV (.str "ranks"))) sNext)))
noncomputable def Fn_check_ranks : List D → FR := runF 6 [false, false, false] sem_check_ranks
theorem sc_check_ranks : FnScope ["places", "wishes", "ranks", "slot", "wanted", "order"] ["places", "wishes", "ranks"] (defScope st_check_ranks) := ⟨rfl, rfl, rfl, by decide +kernel, rfl, by decide +kernel, by decide +kernel⟩
theorem ok_check_ranks {f : Addr} {fd : FuncData} (F : FunD K "check_ranks" "check_ranks" (defArgs st_check_ranks) (defBody st_check_ranks) (defScope st_check_ranks) [] [] f fd) (T : TopF mg) (h_check_wishes : Cl P w K mg base br "check_wishes" ["places", "wishes"] [false, false] 3 Fn_check_wishes) (e_InvalidOrder : ErrC P w K mg base br 2 "InvalidOrder" "invalid order: ") :
    FnOk P w K mg base (L2.CX P w) 4 f fd ["places", "wishes", "ranks"] (spD br K [false, false, false] Fn_check_ranks) := FnD (k := 3) F sc_check_ranks rfl fun cdv A outer s H E z W hcode hcl hr c =>
    (Ss_cons (S_expr (E_cl c h_check_wishes hcl hr (L_cons (E_nm c.hk 0) (L_cons (E_nm c.hk 1) L_nil))))
    (Ss_cons (S_for c (IT_seq (E_nm c.hk 0)) (Tg_nm c.nd rfl (by first | exact Or.inl rfl | exact Or.inr rfl)) (Ss_cons (S_set c rfl (by first | exact Or.inl rfl | exact Or.inr rfl) (E_callB c.hk (cr_sortedD c.hk c.calm (hu70 hr)) (by rfl) T.f_sorted (by rfl) (L_cons (E_lc c (IT_seq (E_nm c.hk 1)) (blkOk_by (N := ["places", "wishes", "ranks", "slot", "wanted", "order"]) (sc := defScope st_check_ranks) (own := [("order", 5)]) (by decide +kernel)) (by decide) (fun s H C cl fp => (Tg_nm (c.blk s H _ _ fp).nd rfl (by first | exact Or.inl rfl | exact Or.inr rfl))) (fun s H C cl fp => (Ts_one (T_cmp (op_memD (c.blk s H _ _ fp).hk (hu1 hr)) (E_nm (c.blk s H _ _ fp).hk 3) (E_ix (ix_sub (c.blk s H _ _ fp).hk (hu1 hr)) (E_nm (c.blk s H _ _ fp).hk 1) (E_nm (c.blk s H _ _ fp).hk 5) (by intro _ _; rfl)) (by rfl)))) (fun s H C cl fp => (E_nm (c.blk s H _ _ fp).hk 5))) L_nil)))
    (Ss_one (S_if (T_cmp (op_dne c.hk (hu70 hr)) (E_callB c.hk (cr_sortedD c.hk c.calm (hu70 hr)) (by rfl) T.f_sorted (by rfl) (L_cons (E_get2 (hu1 hr) (E_nm c.hk 2) (E_nm c.hk 3) (E_lst c.hk L_nil) ⟨by rfl, by rfl, by rfl, by rfl⟩) L_nil)) (E_nm c.hk 4) (by rfl)) (Ss_one (S_raise c e_InvalidOrder hcl (hr.mono (by decide)) (E_str c.hk))) Ss_nil))))
    (Ss_one (S_if (T_tru (E_lc c (IT_seq (E_nm c.hk 2)) (blkOk_by (N := ["places", "wishes", "ranks", "slot", "wanted", "order"]) (sc := defScope st_check_ranks) (own := [("slot", 3)]) (by decide +kernel)) (by decide) (fun s H C cl fp => (Tg_nm (c.blk s H _ _ fp).nd rfl (by first | exact Or.inl rfl | exact Or.inr rfl))) (fun s H C cl fp => (Ts_one (T_cmp (op_nmemD (c.blk s H _ _ fp).hk (hu1 hr)) (E_nm (c.blk s H _ _ fp).hk 3) (E_nm (c.blk s H _ _ fp).hk 0) (by rfl)))) (fun s H C cl fp => (E_nm (c.blk s H _ _ fp).hk 3)))) (Ss_one (S_raise c e_InvalidOrder hcl (hr.mono (by decide)) (E_str c.hk))) Ss_nil))))

/-! ### place_in -/
abbrev st_place_in : Stmt := top 13
noncomputable def sem_place_in : M Fl := (sRet (sOp subscD (sLc [2] (iRng fRng1 (sCons (sCall gLen (sCons (sNm 0) sNil)) sNil)) (tNm 2) (sCmpT deq (sOp subscD (sNm 0) (sNm 2)) (sNm 1)) (sNm 2)) (sV (.int 0))))
noncomputable def Fn_place_in : List D → FR := runF 3 [false, false] sem_place_in
theorem sc_place_in : FnScope ["row", "item", "at"] ["row", "item"] (defScope st_place_in) := ⟨rfl, rfl, rfl, by decide +kernel, rfl, by decide +kernel, by decide +kernel⟩
theorem ok_place_in {f : Addr} {fd : FuncData} (F : FunD K "place_in" "place_in" (defArgs st_place_in) (defBody st_place_in) (defScope st_place_in) [] [] f fd) (T : TopF mg)  :
    FnOk P w K mg base (L2.CX P w) 1 f fd ["row", "item"] (spD br K [false, false] Fn_place_in) := FnD (k := 0) F sc_place_in rfl fun cdv A outer s H E z W hcode hcl hr c =>
    (Ss_one (S_ret (E_ix (ix_sub c.hk (hu1 hr)) (E_lc c (IT_range1 (by rfl) T.f_range (L_cons (E_callB c.hk (cr_lenD c.hk) (by rfl) T.f_len (by rfl) (L_cons (E_nm c.hk 0) L_nil)) L_nil)) (blkOk_by (N := ["row", "item", "at"]) (sc := defScope st_place_in) (own := [("at", 2)]) (by decide +kernel)) (by decide) (fun s H C cl fp => (Tg_nm (c.blk s H _ _ fp).nd rfl (by first | exact Or.inl rfl | exact Or.inr rfl))) (fun s H C cl fp => (Ts_one (T_cmp (op_deq (c.blk s H _ _ fp).hk (hu70 hr)) (E_ix (ix_sub (c.blk s H _ _ fp).hk (hu1 hr)) (E_nm (c.blk s H _ _ fp).hk 0) (E_nm (c.blk s H _ _ fp).hk 2) (by intro _ _; rfl)) (E_nm (c.blk s H _ _ fp).hk 1) (by rfl)))) (fun s H C cl fp => (E_nm (c.blk s H _ _ fp).hk 2))) (E_int c.hk) (by intro _ _; rfl))))

/-! ### stable_plan -/
abbrev st_stable_plan : Stmt := top 14
noncomputable def sem_stable_plan : M Fl := (sSeq (sExpr (callM [false, false, false] Fn_check_ranks (sCons (sNm 0) (sCons (sNm 1) (sCons (sNm 2) sNil)))))
    (sSeq (sAsg 3 (sDc [6] (iSeq (sNm 1)) (tNm 6) sYes (sNm 6) (sV (.int 0))))
    (sSeq (sAsg 4 sNewK)
    (sSeq (sAsg 5 (sCall gSorted (sCons (sNm 1) sNil)))
    (sSeq (whileN (sTru (sNm 5)) (sSeq (sAsg 6 (mutL 5 gPop sNil))
    (sIfS (sCmpT ltD (sOp subscD (sNm 3) (sNm 6)) (sCall gLen (sCons (sOp subscD (sNm 1) (sNm 6)) sNil))) (sSeq (sAsg 7 (sOp subscD (sOp subscD (sNm 1) (sNm 6)) (sOp subscD (sNm 3) (sNm 6))))
    (sSeq (sAugS 3 (sNm 6) (sV (.int 1)) iaddD)
    (sSeq (sPut 4 (sNm 7) (sNm 6))
    (sSeq (sAsg 8 (sSortL 3 [2, 7] (callM [false, false] Fn_place_in (sCons (sOp subscD (sNm 1) (sNm 2)) (sCons (sNm 0) sNil))) (callM [false, false] Fn_holders (sCons (sNm 4) (sCons (sNm 7) sNil)))))
    (sIfS (sCmpT gtD (sCall gLen (sCons (sNm 8) sNil)) (sOp subscD (sNm 0) (sNm 7))) (sSeq (sDel 4 (sOp subscD (sNm 8) (sUn negD (sV (.int 1)))))
    (sExpr (mutL 5 gApp (sCons (sOp subscD (sNm 8) (sUn negD (sV (.int 1)))) sNil)))) sNext))))) sNext)) 1000000)
    (sRet (sDc [6] (iSeq (sCall gSorted (sCons (sNm 4) sNil))) (tNm 6) sYes (sNm 6) (sOp subscD (sNm 4) (sNm 6)))))))))
noncomputable def Fn_stable_plan : List D → FR := runF 9 [false, false, false] sem_stable_plan
theorem sc_stable_plan : FnScope ["places", "wishes", "ranks", "asked", "plan", "waiting", "order", "slot", "row"] ["places", "wishes", "ranks"] (defScope st_stable_plan) := ⟨rfl, rfl, rfl, by decide +kernel, rfl, by decide +kernel, by decide +kernel⟩
theorem ok_stable_plan {f : Addr} {fd : FuncData} (F : FunD K "stable_plan" "stable_plan" (defArgs st_stable_plan) (defBody st_stable_plan) (defScope st_stable_plan) [] [] f fd) (T : TopF mg) (h_check_ranks : Cl P w K mg base br "check_ranks" ["places", "wishes", "ranks"] [false, false, false] 4 Fn_check_ranks) (h_holders : Cl P w K mg base br "holders" ["plan", "slot"] [false, false] 1 Fn_holders) (h_place_in : Cl P w K mg base br "place_in" ["row", "item"] [false, false] 1 Fn_place_in) {cc PT : Addr} (TB : TabB base mg cc PT) (hTc : fd.code = .ref cc) (hTT : (PT, ("stable_plan" : Str) ++ ".<locals>." ++ "<lambda>") ∈ br.T) :
    FnOk P w K mg base (L2.CX P w) 5 f fd ["places", "wishes", "ranks"] (spD br K [false, false, false] Fn_stable_plan) := FnD (k := 4) F sc_stable_plan rfl fun cdv A outer s H E z W hcode hcl hr c =>
    (Ss_cons (S_expr (E_cl c h_check_ranks hcl hr (L_cons (E_nm c.hk 0) (L_cons (E_nm c.hk 1) (L_cons (E_nm c.hk 2) L_nil)))))
    (Ss_cons (S_setDc c (IT_seq (E_nm c.hk 1)) (blkOk_by (N := ["places", "wishes", "ranks", "asked", "plan", "waiting", "order", "slot", "row"]) (sc := defScope st_stable_plan) (own := [("order", 6)]) (by decide +kernel)) (by decide) (fun s H C cl fp => (Tg_nm (c.blk s H _ _ fp).nd rfl (by first | exact Or.inl rfl | exact Or.inr rfl))) (fun s H C cl fp => Ts_nil) (fun s H C cl fp => (E_nm (c.blk s H _ _ fp).hk 6)) (fun s H C cl fp => (E_int (c.blk s H _ _ fp).hk)))
    (Ss_cons (S_set c rfl (by first | exact Or.inl rfl | exact Or.inr rfl) (E_newK c.hk))
    (Ss_cons (S_set c rfl (by first | exact Or.inl rfl | exact Or.inr rfl) (E_callB c.hk (cr_sortedD c.hk c.calm (hu70 hr)) (by rfl) T.f_sorted (by rfl) (L_cons (E_nm c.hk 1) L_nil)))
    (Ss_cons (S_while 1000000 c (T_tru (E_nm c.hk 5)) (Ss_cons (S_set c rfl (by first | exact Or.inl rfl | exact Or.inr rfl) (E_pop c.hk 5))
    (Ss_one (S_if (T_cmp op_ltD (E_ix (ix_sub c.hk (hu1 hr)) (E_nm c.hk 3) (E_nm c.hk 6) (by intro _ _; rfl)) (E_callB c.hk (cr_lenD c.hk) (by rfl) T.f_len (by rfl) (L_cons (E_ix (ix_sub c.hk (hu1 hr)) (E_nm c.hk 1) (E_nm c.hk 6) (by intro _ _; rfl)) L_nil)) (by rfl)) (Ss_cons (S_set c rfl (by first | exact Or.inl rfl | exact Or.inr rfl) (E_ix (ix_sub c.hk (hu1 hr)) (E_ix (ix_sub c.hk (hu1 hr)) (E_nm c.hk 1) (E_nm c.hk 6) (by intro _ _; rfl)) (E_ix (ix_sub c.hk (hu1 hr)) (E_nm c.hk 3) (E_nm c.hk 6) (by intro _ _; rfl)) (by intro _ _; rfl)))
    (Ss_cons (S_augS c (hu1 hr) 3 op_iaddD (E_nm c.hk 6) (E_int c.hk))
    (Ss_cons (S_put c (hu1 hr) 4 (E_nm c.hk 7) (E_nm c.hk 6))
    (Ss_cons (S_set c rfl (by first | exact Or.inl rfl | exact Or.inr rfl) (E_sortL (k := 1) (N := ["one", "ranks", "slot"]) (fr := ["ranks", "slot"]) (xp := "one") (js := [2, 7]) (n := 3) (E_cl c h_holders hcl hr (L_cons (E_nm c.hk 4) (L_cons (E_nm c.hk 7) L_nil))) TB (hcode.symm.trans hTc) (by rw [hcl]; exact hTT) T.f_sorted (hr.mono (by decide)) (nscope_by (by decide +kernel)) rfl rfl (capS_by (sc := defScope st_stable_plan) (by decide +kernel)) (by decide +kernel) (fun c1 f1 A1 outer1 s1 H1 z1 hz1 hrL ct => have hclL := hz1.trans hcl; (E_cl ct h_place_in hclL hrL (L_cons (E_ix (ix_sub ct.hk (hu1 hrL)) (E_nm ct.hk 1) (E_nm ct.hk 2) (by intro _ _; rfl)) (L_cons (E_nm ct.hk 0) L_nil))))))
    (Ss_one (S_if (T_cmp op_gtD (E_callB c.hk (cr_lenD c.hk) (by rfl) T.f_len (by rfl) (L_cons (E_nm c.hk 8) L_nil)) (E_ix (ix_sub c.hk (hu1 hr)) (E_nm c.hk 0) (E_nm c.hk 7) (by intro _ _; rfl)) (by rfl)) (Ss_cons (S_del 4 (E_ix (ix_sub c.hk (hu1 hr)) (E_nm c.hk 8) (E_un un_negD (E_int c.hk)) (by intro _ _; rfl)))
    (Ss_one (S_expr (E_append c.hk 5 (L_cons (E_ix (ix_sub c.hk (hu1 hr)) (E_nm c.hk 8) (E_un un_negD (E_int c.hk)) (by intro _ _; rfl)) L_nil))))) Ss_nil)))))) Ss_nil))))
    (Ss_one (S_ret (E_dc c (IT_seq (E_callB c.hk (cr_sortedD c.hk c.calm (hu70 hr)) (by rfl) T.f_sorted (by rfl) (L_cons (E_nm c.hk 4) L_nil))) (blkOk_by (N := ["places", "wishes", "ranks", "asked", "plan", "waiting", "order", "slot", "row"]) (sc := defScope st_stable_plan) (own := [("order", 6)]) (by decide +kernel)) (by decide) (fun s H C cl fp => (Tg_nm (c.blk s H _ _ fp).nd rfl (by first | exact Or.inl rfl | exact Or.inr rfl))) (fun s H C cl fp => Ts_nil) (fun s H C cl fp => (E_nm (c.blk s H _ _ fp).hk 6)) (fun s H C cl fp => (E_ix (ix_sub (c.blk s H _ _ fp).hk (hu1 hr)) (E_nm (c.blk s H _ _ fp).hk 4) (E_nm (c.blk s H _ _ fp).hk 6) (by intro _ _; rfl)))))))))))

/-! ### likes_more -/
abbrev st_likes_more : Stmt := top 15
noncomputable def sem_likes_more : M Fl := (sRet (sOrV (sOp (toB nmemD) (sNm 2) (sNm 1)) (sOp (toB ltD) (callM [false, false] Fn_place_in (sCons (sOp subscD (sNm 0) (sNm 2)) (sCons (sNm 3) sNil))) (callM [false, false] Fn_place_in (sCons (sOp subscD (sNm 0) (sNm 2)) (sCons (sOp subscD (sNm 1) (sNm 2)) sNil))))))
noncomputable def Fn_likes_more : List D → FR := runF 4 [false, false, false, false] sem_likes_more
theorem sc_likes_more : FnScope ["wishes", "plan", "order", "slot"] ["wishes", "plan", "order", "slot"] (defScope st_likes_more) := ⟨rfl, rfl, rfl, by decide +kernel, rfl, by decide +kernel, by decide +kernel⟩
theorem ok_likes_more {f : Addr} {fd : FuncData} (F : FunD K "likes_more" "likes_more" (defArgs st_likes_more) (defBody st_likes_more) (defScope st_likes_more) [] [] f fd) (T : TopF mg) (h_place_in : Cl P w K mg base br "place_in" ["row", "item"] [false, false] 1 Fn_place_in) :
    FnOk P w K mg base (L2.CX P w) 2 f fd ["wishes", "plan", "order", "slot"] (spD br K [false, false, false, false] Fn_likes_more) := FnD (k := 1) F sc_likes_more rfl fun cdv A outer s H E z W hcode hcl hr c =>
    (Ss_one (S_ret (E_or (E_cmp (op_nmemD c.hk (hu1 hr)) (E_nm c.hk 2) (E_nm c.hk 1) (by rfl)) (E_one (E_cmp op_ltD (E_cl c h_place_in hcl hr (L_cons (E_ix (ix_sub c.hk (hu1 hr)) (E_nm c.hk 0) (E_nm c.hk 2) (by intro _ _; rfl)) (L_cons (E_nm c.hk 3) L_nil))) (E_cl c h_place_in hcl hr (L_cons (E_ix (ix_sub c.hk (hu1 hr)) (E_nm c.hk 0) (E_nm c.hk 2) (by intro _ _; rfl)) (L_cons (E_ix (ix_sub c.hk (hu1 hr)) (E_nm c.hk 1) (E_nm c.hk 2) (by intro _ _; rfl)) L_nil))) (by rfl))))))

/-! ### stable_for_slots -/
abbrev st_stable_for_slots : Stmt := top 16
noncomputable def sem_stable_for_slots : M Fl := (sSeq (sExpr (callM [false, false, false] Fn_check_ranks (sCons (sNm 0) (sCons (sNm 1) (sCons (sNm 2) sNil)))))
    (sSeq (sAsg 3 (sDc [6] (iSeq (sNm 0)) (tNm 6) sYes (sNm 6) (sV (.int 0))))
    (sSeq (sAsg 4 sNewK)
    (sSeq (sAsg 5 (sV (.bl true)))
    (sSeq (whileN (sTru (sNm 5)) (sSeq (sAsg 5 (sV (.bl false)))
    (sFor (iSeq (sCall gSorted (sCons (sNm 0) sNil))) (tNm 6) (sIfS (sAnd (sCmpT ltD (sCall gLen (sCons (callM [false, false] Fn_holders (sCons (sNm 4) (sCons (sNm 6) sNil))) sNil)) (sOp subscD (sNm 0) (sNm 6))) (sCmpT ltD (sOp subscD (sNm 3) (sNm 6)) (sCall gLen (sCons (sOp subscD (sNm 2) (sNm 6)) sNil)))) (sSeq (sAsg 7 (sOp subscD (sOp subscD (sNm 2) (sNm 6)) (sOp subscD (sNm 3) (sNm 6))))
    (sSeq (sAugS 3 (sNm 6) (sV (.int 1)) iaddD)
    (sSeq (sAsg 5 (sV (.bl true)))
    (sIfS (sTru (callM [false, false, false, false] Fn_likes_more (sCons (sNm 1) (sCons (sNm 4) (sCons (sNm 7) (sCons (sNm 6) sNil)))))) (sPut 4 (sNm 6) (sNm 7)) sNext)))) sNext))) 1000000)
    (sRet (sDc [7] (iSeq (sCall gSorted (sCons (sNm 4) sNil))) (tNm 7) sYes (sNm 7) (sOp subscD (sNm 4) (sNm 7)))))))))
noncomputable def Fn_stable_for_slots : List D → FR := runF 8 [false, false, false] sem_stable_for_slots
theorem sc_stable_for_slots : FnScope ["places", "wishes", "ranks", "asked", "plan", "going", "slot", "order"] ["places", "wishes", "ranks"] (defScope st_stable_for_slots) := ⟨rfl, rfl, rfl, by decide +kernel, rfl, by decide +kernel, by decide +kernel⟩
theorem ok_stable_for_slots {f : Addr} {fd : FuncData} (F : FunD K "stable_for_slots" "stable_for_slots" (defArgs st_stable_for_slots) (defBody st_stable_for_slots) (defScope st_stable_for_slots) [] [] f fd) (T : TopF mg) (h_check_ranks : Cl P w K mg base br "check_ranks" ["places", "wishes", "ranks"] [false, false, false] 4 Fn_check_ranks) (h_holders : Cl P w K mg base br "holders" ["plan", "slot"] [false, false] 1 Fn_holders) (h_likes_more : Cl P w K mg base br "likes_more" ["wishes", "plan", "order", "slot"] [false, false, false, false] 2 Fn_likes_more) :
    FnOk P w K mg base (L2.CX P w) 5 f fd ["places", "wishes", "ranks"] (spD br K [false, false, false] Fn_stable_for_slots) := FnD (k := 4) F sc_stable_for_slots rfl fun cdv A outer s H E z W hcode hcl hr c =>
    (Ss_cons (S_expr (E_cl c h_check_ranks hcl hr (L_cons (E_nm c.hk 0) (L_cons (E_nm c.hk 1) (L_cons (E_nm c.hk 2) L_nil)))))
    (Ss_cons (S_setDc c (IT_seq (E_nm c.hk 0)) (blkOk_by (N := ["places", "wishes", "ranks", "asked", "plan", "going", "slot", "order"]) (sc := defScope st_stable_for_slots) (own := [("slot", 6)]) (by decide +kernel)) (by decide) (fun s H C cl fp => (Tg_nm (c.blk s H _ _ fp).nd rfl (by first | exact Or.inl rfl | exact Or.inr rfl))) (fun s H C cl fp => Ts_nil) (fun s H C cl fp => (E_nm (c.blk s H _ _ fp).hk 6)) (fun s H C cl fp => (E_int (c.blk s H _ _ fp).hk)))
    (Ss_cons (S_set c rfl (by first | exact Or.inl rfl | exact Or.inr rfl) (E_newK c.hk))
    (Ss_cons (S_set c rfl (by first | exact Or.inl rfl | exact Or.inr rfl) (E_bl c.hk))
    (Ss_cons (S_while 1000000 c (T_tru (E_nm c.hk 5)) (Ss_cons (S_set c rfl (by first | exact Or.inl rfl | exact Or.inr rfl) (E_bl c.hk))
    (Ss_one (S_for c (IT_seq (E_callB c.hk (cr_sortedD c.hk c.calm (hu70 hr)) (by rfl) T.f_sorted (by rfl) (L_cons (E_nm c.hk 0) L_nil))) (Tg_nm c.nd rfl (by first | exact Or.inl rfl | exact Or.inr rfl)) (Ss_one (S_if (Tw_and (T_cmp op_ltD (E_callB c.hk (cr_lenD c.hk) (by rfl) T.f_len (by rfl) (L_cons (E_cl c h_holders hcl hr (L_cons (E_nm c.hk 4) (L_cons (E_nm c.hk 6) L_nil))) L_nil)) (E_ix (ix_sub c.hk (hu1 hr)) (E_nm c.hk 0) (E_nm c.hk 6) (by intro _ _; rfl)) (by rfl)) (Tw_and1 (T_cmp op_ltD (E_ix (ix_sub c.hk (hu1 hr)) (E_nm c.hk 3) (E_nm c.hk 6) (by intro _ _; rfl)) (E_callB c.hk (cr_lenD c.hk) (by rfl) T.f_len (by rfl) (L_cons (E_ix (ix_sub c.hk (hu1 hr)) (E_nm c.hk 2) (E_nm c.hk 6) (by intro _ _; rfl)) L_nil)) (by rfl)))).t (Ss_cons (S_set c rfl (by first | exact Or.inl rfl | exact Or.inr rfl) (E_ix (ix_sub c.hk (hu1 hr)) (E_ix (ix_sub c.hk (hu1 hr)) (E_nm c.hk 2) (E_nm c.hk 6) (by intro _ _; rfl)) (E_ix (ix_sub c.hk (hu1 hr)) (E_nm c.hk 3) (E_nm c.hk 6) (by intro _ _; rfl)) (by intro _ _; rfl)))
    (Ss_cons (S_augS c (hu1 hr) 3 op_iaddD (E_nm c.hk 6) (E_int c.hk))
    (Ss_cons (S_set c rfl (by first | exact Or.inl rfl | exact Or.inr rfl) (E_bl c.hk))
    (Ss_one (S_if (T_tru (E_cl c h_likes_more hcl hr (L_cons (E_nm c.hk 1) (L_cons (E_nm c.hk 4) (L_cons (E_nm c.hk 7) (L_cons (E_nm c.hk 6) L_nil)))))) (Ss_one (S_put c (hu1 hr) 4 (E_nm c.hk 6) (E_nm c.hk 7))) Ss_nil))))) Ss_nil))))))
    (Ss_one (S_ret (E_dc c (IT_seq (E_callB c.hk (cr_sortedD c.hk c.calm (hu70 hr)) (by rfl) T.f_sorted (by rfl) (L_cons (E_nm c.hk 4) L_nil))) (blkOk_by (N := ["places", "wishes", "ranks", "asked", "plan", "going", "slot", "order"]) (sc := defScope st_stable_for_slots) (own := [("order", 7)]) (by decide +kernel)) (by decide) (fun s H C cl fp => (Tg_nm (c.blk s H _ _ fp).nd rfl (by first | exact Or.inl rfl | exact Or.inr rfl))) (fun s H C cl fp => Ts_nil) (fun s H C cl fp => (E_nm (c.blk s H _ _ fp).hk 7)) (fun s H C cl fp => (E_ix (ix_sub (c.blk s H _ _ fp).hk (hu1 hr)) (E_nm (c.blk s H _ _ fp).hk 4) (E_nm (c.blk s H _ _ fp).hk 7) (by intro _ _; rfl)))))))))))

/-! ### is_plan -/
abbrev st_is_plan : Stmt := top 10
noncomputable def sem_is_plan : M Fl := (sSeq (sIfS (sOr (sNot (sTru (sIsi ["dict"] (sNm 2)))) (sTru (sLc [3] (iSeq (sNm 2)) (tNm 3) (sCmpT nmemD (sNm 3) (sNm 1)) (sNm 3)))) (sRet (sV (.bl false))) sNext)
    (sSeq (sIfS (sTru (sLc [3] (iSeq (sNm 2)) (tNm 3) (sCmpT nmemD (sOp subscD (sNm 2) (sNm 3)) (sOp subscD (sNm 1) (sNm 3))) (sNm 3))) (sRet (sV (.bl false))) sNext)
    (sRet (sUn notD (sLc [4] (iSeq (sNm 0)) (tNm 4) (sCmpT gtD (sCall gLen (sCons (callM [false, false] Fn_holders (sCons (sNm 2) (sCons (sNm 4) sNil))) sNil)) (sOp subscD (sNm 0) (sNm 4))) (sNm 4))))))
noncomputable def Fn_is_plan : List D → FR := runF 5 [false, false, false] sem_is_plan
theorem sc_is_plan : FnScope ["places", "wishes", "plan", "order", "slot"] ["places", "wishes", "plan"] (defScope st_is_plan) := ⟨rfl, rfl, rfl, by decide +kernel, rfl, by decide +kernel, by decide +kernel⟩
theorem ok_is_plan {f : Addr} {fd : FuncData} (F : FunD K "is_plan" "is_plan" (defArgs st_is_plan) (defBody st_is_plan) (defScope st_is_plan) [] [] f fd) (T : TopF mg) (h_holders : Cl P w K mg base br "holders" ["plan", "slot"] [false, false] 1 Fn_holders) :
    FnOk P w K mg base (L2.CX P w) 2 f fd ["places", "wishes", "plan"] (spD br K [false, false, false] Fn_is_plan) := FnD (k := 1) F sc_is_plan rfl fun cdv A outer s H E z W hcode hcl hr c =>
    (Ss_cons (S_if (Tw_or (T_not (T_tru (E_isi T.f_isinstance T.f_dict (E_nm c.hk 2)))) (Tw_or1 (T_tru (E_lc c (IT_seq (E_nm c.hk 2)) (blkOk_by (N := ["places", "wishes", "plan", "order", "slot"]) (sc := defScope st_is_plan) (own := [("order", 3)]) (by decide +kernel)) (by decide) (fun s H C cl fp => (Tg_nm (c.blk s H _ _ fp).nd rfl (by first | exact Or.inl rfl | exact Or.inr rfl))) (fun s H C cl fp => (Ts_one (T_cmp (op_nmemD (c.blk s H _ _ fp).hk (hu1 hr)) (E_nm (c.blk s H _ _ fp).hk 3) (E_nm (c.blk s H _ _ fp).hk 1) (by rfl)))) (fun s H C cl fp => (E_nm (c.blk s H _ _ fp).hk 3)))))).t (Ss_one (S_ret (E_bl c.hk))) Ss_nil)
    (Ss_cons (S_if (T_tru (E_lc c (IT_seq (E_nm c.hk 2)) (blkOk_by (N := ["places", "wishes", "plan", "order", "slot"]) (sc := defScope st_is_plan) (own := [("order", 3)]) (by decide +kernel)) (by decide) (fun s H C cl fp => (Tg_nm (c.blk s H _ _ fp).nd rfl (by first | exact Or.inl rfl | exact Or.inr rfl))) (fun s H C cl fp => (Ts_one (T_cmp (op_nmemD (c.blk s H _ _ fp).hk (hu1 hr)) (E_ix (ix_sub (c.blk s H _ _ fp).hk (hu1 hr)) (E_nm (c.blk s H _ _ fp).hk 2) (E_nm (c.blk s H _ _ fp).hk 3) (by intro _ _; rfl)) (E_ix (ix_sub (c.blk s H _ _ fp).hk (hu1 hr)) (E_nm (c.blk s H _ _ fp).hk 1) (E_nm (c.blk s H _ _ fp).hk 3) (by intro _ _; rfl)) (by rfl)))) (fun s H C cl fp => (E_nm (c.blk s H _ _ fp).hk 3)))) (Ss_one (S_ret (E_bl c.hk))) Ss_nil)
    (Ss_one (S_ret (E_not (E_lc c (IT_seq (E_nm c.hk 0)) (blkOk_by (N := ["places", "wishes", "plan", "order", "slot"]) (sc := defScope st_is_plan) (own := [("slot", 4)]) (by decide +kernel)) (by decide) (fun s H C cl fp => (Tg_nm (c.blk s H _ _ fp).nd rfl (by first | exact Or.inl rfl | exact Or.inr rfl))) (fun s H C cl fp => (Ts_one (T_cmp op_gtD (E_callB (c.blk s H _ _ fp).hk (cr_lenD (c.blk s H _ _ fp).hk) (by rfl) T.f_len (by rfl) (L_cons (E_cl (c.blk s H _ _ fp) h_holders hcl hr (L_cons (E_nm (c.blk s H _ _ fp).hk 2) (L_cons (E_nm (c.blk s H _ _ fp).hk 4) L_nil))) L_nil)) (E_ix (ix_sub (c.blk s H _ _ fp).hk (hu1 hr)) (E_nm (c.blk s H _ _ fp).hk 0) (E_nm (c.blk s H _ _ fp).hk 4) (by intro _ _; rfl)) (by rfl)))) (fun s H C cl fp => (E_nm (c.blk s H _ _ fp).hk 4))))))))

/-! ### blocking_pairs -/
abbrev st_blocking_pairs : Stmt := top 17
noncomputable def sem_blocking_pairs : M Fl := (sSeq (sExpr (callM [false, false, false] Fn_check_ranks (sCons (sNm 0) (sCons (sNm 1) (sCons (sNm 2) sNil)))))
    (sSeq (sIfS (sNot (sTru (callM [false, false, false] Fn_is_plan (sCons (sNm 0) (sCons (sNm 1) (sCons (sNm 3) sNil)))))) (sRaise 3 "invalid plan: " (sV (.str "plan"))) sNext)
    (sSeq (sAsg 4 (sMake gLst sNil))
    (sSeq (sFor (iSeq (sCall gSorted (sCons (sNm 1) sNil))) (tNm 5) (sFor (iSeq (sCall gSorted (sCons (sOp subscD (sNm 1) (sNm 5)) sNil))) (tNm 6) (sIfS (sAnd (sCmpT dne (sGet1 (sNm 3) (sNm 5)) (sNm 6)) (sTru (callM [false, false, false, false] Fn_likes_more (sCons (sNm 1) (sCons (sNm 3) (sCons (sNm 5) (sCons (sNm 6) sNil))))))) (sSeq (sAsg 7 (callM [false, false] Fn_holders (sCons (sNm 3) (sCons (sNm 6) sNil))))
    (sSeq (sAsg 8 (sLc [9] (iSeq (sNm 7)) (tNm 9) (sCmpT gtD (callM [false, false] Fn_place_in (sCons (sOp subscD (sNm 2) (sNm 6)) (sCons (sNm 9) sNil))) (callM [false, false] Fn_place_in (sCons (sOp subscD (sNm 2) (sNm 6)) (sCons (sNm 5) sNil)))) (sNm 9)))
    (sIfS (sOr (sCmpT ltD (sCall gLen (sCons (sNm 7) sNil)) (sOp subscD (sNm 0) (sNm 6))) (sTru (sNm 8))) (sExpr (mutL 4 gApp (sCons (sMake gTup (sCons (sNm 5) (sCons (sNm 6) sNil))) sNil))) sNext))) sNext)))
    (sRet (sNm 4))))))
noncomputable def Fn_blocking_pairs : List D → FR := runF 10 [false, false, false, false] sem_blocking_pairs
theorem sc_blocking_pairs : FnScope ["places", "wishes", "ranks", "plan", "found", "order", "slot", "row", "worse", "one"] ["places", "wishes", "ranks", "plan"] (defScope st_blocking_pairs) := ⟨rfl, rfl, rfl, by decide +kernel, rfl, by decide +kernel, by decide +kernel⟩
theorem ok_blocking_pairs {f : Addr} {fd : FuncData} (F : FunD K "blocking_pairs" "blocking_pairs" (defArgs st_blocking_pairs) (defBody st_blocking_pairs) (defScope st_blocking_pairs) [] [] f fd) (T : TopF mg) (h_check_ranks : Cl P w K mg base br "check_ranks" ["places", "wishes", "ranks"] [false, false, false] 4 Fn_check_ranks) (h_is_plan : Cl P w K mg base br "is_plan" ["places", "wishes", "plan"] [false, false, false] 2 Fn_is_plan) (h_likes_more : Cl P w K mg base br "likes_more" ["wishes", "plan", "order", "slot"] [false, false, false, false] 2 Fn_likes_more) (h_holders : Cl P w K mg base br "holders" ["plan", "slot"] [false, false] 1 Fn_holders) (h_place_in : Cl P w K mg base br "place_in" ["row", "item"] [false, false] 1 Fn_place_in) (e_InvalidPlan : ErrC P w K mg base br 3 "InvalidPlan" "invalid plan: ") :
    FnOk P w K mg base (L2.CX P w) 5 f fd ["places", "wishes", "ranks", "plan"] (spD br K [false, false, false, false] Fn_blocking_pairs) := FnD (k := 4) F sc_blocking_pairs rfl fun cdv A outer s H E z W hcode hcl hr c =>
    (Ss_cons (S_expr (E_cl c h_check_ranks hcl hr (L_cons (E_nm c.hk 0) (L_cons (E_nm c.hk 1) (L_cons (E_nm c.hk 2) L_nil)))))
    (Ss_cons (S_if (T_not (T_tru (E_cl c h_is_plan hcl hr (L_cons (E_nm c.hk 0) (L_cons (E_nm c.hk 1) (L_cons (E_nm c.hk 3) L_nil)))))) (Ss_one (S_raise c e_InvalidPlan hcl (hr.mono (by decide)) (E_str c.hk))) Ss_nil)
    (Ss_cons (S_set c rfl (by first | exact Or.inl rfl | exact Or.inr rfl) (E_lst c.hk L_nil))
    (Ss_cons (S_for c (IT_seq (E_callB c.hk (cr_sortedD c.hk c.calm (hu70 hr)) (by rfl) T.f_sorted (by rfl) (L_cons (E_nm c.hk 1) L_nil))) (Tg_nm c.nd rfl (by first | exact Or.inl rfl | exact Or.inr rfl)) (Ss_one (S_for c (IT_seq (E_callB c.hk (cr_sortedD c.hk c.calm (hu70 hr)) (by rfl) T.f_sorted (by rfl) (L_cons (E_ix (ix_sub c.hk (hu1 hr)) (E_nm c.hk 1) (E_nm c.hk 5) (by intro _ _; rfl)) L_nil))) (Tg_nm c.nd rfl (by first | exact Or.inl rfl | exact Or.inr rfl)) (Ss_one (S_if (Tw_and (T_cmp (op_dne c.hk (hu70 hr)) (E_get1 (hu1 hr) (E_nm c.hk 3) (E_nm c.hk 5) ⟨by rfl, by rfl, by rfl, by rfl⟩) (E_nm c.hk 6) (by rfl)) (Tw_and1 (T_tru (E_cl c h_likes_more hcl hr (L_cons (E_nm c.hk 1) (L_cons (E_nm c.hk 3) (L_cons (E_nm c.hk 5) (L_cons (E_nm c.hk 6) L_nil)))))))).t (Ss_cons (S_set c rfl (by first | exact Or.inl rfl | exact Or.inr rfl) (E_cl c h_holders hcl hr (L_cons (E_nm c.hk 3) (L_cons (E_nm c.hk 6) L_nil))))
    (Ss_cons (S_setLcN c (IT_seq (E_nm c.hk 7)) (blkOk_by (N := ["places", "wishes", "ranks", "plan", "found", "order", "slot", "row", "worse", "one"]) (sc := defScope st_blocking_pairs) (own := [("one", 9)]) (by decide +kernel)) (by decide) (fun s H C cl fp => (Tg_nm (c.blk s H _ _ fp).nd rfl (by first | exact Or.inl rfl | exact Or.inr rfl))) (fun s H C cl fp => (Ts_one (T_cmp op_gtD (E_cl (c.blk s H _ _ fp) h_place_in hcl hr (L_cons (E_ix (ix_sub (c.blk s H _ _ fp).hk (hu1 hr)) (E_nm (c.blk s H _ _ fp).hk 2) (E_nm (c.blk s H _ _ fp).hk 6) (by intro _ _; rfl)) (L_cons (E_nm (c.blk s H _ _ fp).hk 9) L_nil))) (E_cl (c.blk s H _ _ fp) h_place_in hcl hr (L_cons (E_ix (ix_sub (c.blk s H _ _ fp).hk (hu1 hr)) (E_nm (c.blk s H _ _ fp).hk 2) (E_nm (c.blk s H _ _ fp).hk 6) (by intro _ _; rfl)) (L_cons (E_nm (c.blk s H _ _ fp).hk 5) L_nil))) (by rfl)))) (fun s H C cl fp => (E_nm (c.blk s H _ _ fp).hk 9)))
    (Ss_one (S_if (Tw_or (T_cmp op_ltD (E_callB c.hk (cr_lenD c.hk) (by rfl) T.f_len (by rfl) (L_cons (E_nm c.hk 7) L_nil)) (E_ix (ix_sub c.hk (hu1 hr)) (E_nm c.hk 0) (E_nm c.hk 6) (by intro _ _; rfl)) (by rfl)) (Tw_or1 (T_tru (E_nm c.hk 8)))).t (Ss_one (S_expr (E_append c.hk 4 (L_cons (E_tup c.hk (L_cons (E_nm c.hk 5) (L_cons (E_nm c.hk 6) L_nil))) L_nil)))) Ss_nil)))) Ss_nil)))))
    (Ss_one (S_ret (E_nm c.hk 4)))))))

/-! ### _law_deck -/
abbrev st__law_deck : Stmt := top 19
noncomputable def sem__law_deck : M Fl := (sSeq (sAsg 3 (sMake gLst sNil))
    (sSeq (sAsg 4 (sOp addD (sV (.int 7)) (sCall gLen (sCons (sNm 0) sNil))))
    (sSeq (sFor (iRng fRng1 (sCons (sNm 1) sNil)) (tNm 5) (sSeq (sAsg 6 (sV (.int 0)))
    (sSeq (sIfS (sCmpT ltD (sNm 5) (sCall gLen (sCons (sNm 0) sNil))) (sAsg 6 (sOp subscD (sNm 0) (sNm 5))) sNext)
    (sSeq (sAsg 7 (sCall gAbs (sCons (sNm 6) sNil)))
    (sIfS (sCmpT geD (sNm 7) (sOp powD (sV (.int 10)) (sV (.int 30)))) (sFor (iRng fRng1 (sCons (sNm 2) sNil)) (tNm 8) (sSeq (sExpr (mutL 3 gApp (sCons (sOp modD (sCall gInt (sCons (sNm 7) sNil)) (sV (.int 1000003))) sNil)))
    (sAsg 7 (sOp fdivD (sNm 7) (sV (.int 1000003)))))) (sSeq (sAsg 4 (sOp modD (sCall gInt (sCons (sOp addD (sOp addD (sOp addD (sOp mulD (sNm 4) (sV (.int 48271))) (sOp mulD (sV (.int 2)) (sNm 7))) (sCall gInt (sCons (sOp (toB ltD) (sNm 6) (sV (.int 0))) sNil))) (sNm 5)) sNil)) (sV (.int 2147483647))))
    (sFor (iRng fRng1 (sCons (sNm 2) sNil)) (tNm 8) (sSeq (sAsg 4 (sOp modD (sCall gInt (sCons (sOp addD (sOp addD (sOp mulD (sNm 4) (sV (.int 69621))) (sNm 8)) (sV (.int 1))) sNil)) (sV (.int 2147483629))))
    (sExpr (mutL 3 gApp (sCons (sOp modD (sCall gInt (sCons (sOp fdivD (sNm 4) (sV (.int 5))) sNil)) (sV (.int 1000003))) sNil)))))))))))
    (sSeq (sExpr (mutL 3 gRev sNil))
    (sRet (sNm 3))))))
noncomputable def Fn__law_deck : List D → FR := runF 9 [false, false, false] sem__law_deck
theorem sc__law_deck : FnScope ["script", "cells", "each", "deck", "seed", "k", "cell", "rest", "at"] ["script", "cells", "each"] (defScope st__law_deck) := ⟨rfl, rfl, rfl, by decide +kernel, rfl, by decide +kernel, by decide +kernel⟩
theorem ok__law_deck {f : Addr} {fd : FuncData} (F : FunD K "_law_deck" "_law_deck" (defArgs st__law_deck) (defBody st__law_deck) (defScope st__law_deck) [] [] f fd) (T : TopF mg)  :
    FnOk P w K mg base (L2.CX P w) 1 f fd ["script", "cells", "each"] (spD br K [false, false, false] Fn__law_deck) := FnD (k := 0) F sc__law_deck rfl fun cdv A outer s H E z W hcode hcl hr c =>
    (Ss_cons (S_set c rfl (by first | exact Or.inl rfl | exact Or.inr rfl) (E_lst c.hk L_nil))
    (Ss_cons (S_set c rfl (by first | exact Or.inl rfl | exact Or.inr rfl) (E_bin (op_addD c.hk) (E_int c.hk) (E_callB c.hk (cr_lenD c.hk) (by rfl) T.f_len (by rfl) (L_cons (E_nm c.hk 0) L_nil))))
    (Ss_cons (S_for c (IT_range1 (by rfl) T.f_range (L_cons (E_nm c.hk 1) L_nil)) (Tg_nm c.nd rfl (by first | exact Or.inl rfl | exact Or.inr rfl)) (Ss_cons (S_set c rfl (by first | exact Or.inl rfl | exact Or.inr rfl) (E_int c.hk))
    (Ss_cons (S_if (T_cmp op_ltD (E_nm c.hk 5) (E_callB c.hk (cr_lenD c.hk) (by rfl) T.f_len (by rfl) (L_cons (E_nm c.hk 0) L_nil)) (by rfl)) (Ss_one (S_set c rfl (by first | exact Or.inl rfl | exact Or.inr rfl) (E_ix (ix_sub c.hk (hu1 hr)) (E_nm c.hk 0) (E_nm c.hk 5) (by intro _ _; rfl)))) Ss_nil)
    (Ss_cons (S_set c rfl (by first | exact Or.inl rfl | exact Or.inr rfl) (E_callB c.hk cr_absD (by rfl) T.f_abs (by rfl) (L_cons (E_nm c.hk 6) L_nil)))
    (Ss_one (S_if (T_cmp op_geD (E_nm c.hk 7) (E_bin op_powD (E_int c.hk) (E_int c.hk)) (by rfl)) (Ss_one (S_for c (IT_range1 (by rfl) T.f_range (L_cons (E_nm c.hk 2) L_nil)) (Tg_nm c.nd rfl (by first | exact Or.inl rfl | exact Or.inr rfl)) (Ss_cons (S_expr (E_append c.hk 3 (L_cons (E_bin op_modD (E_callT c.hk cr_intD (by rfl) T.f_int (by rfl) (L_cons (E_nm c.hk 7) L_nil)) (E_int c.hk)) L_nil)))
    (Ss_one (S_set c rfl (by first | exact Or.inl rfl | exact Or.inr rfl) (E_bin op_fdivD (E_nm c.hk 7) (E_int c.hk))))))) (Ss_cons (S_set c rfl (by first | exact Or.inl rfl | exact Or.inr rfl) (E_bin op_modD (E_callT c.hk cr_intD (by rfl) T.f_int (by rfl) (L_cons (E_bin (op_addD c.hk) (E_bin (op_addD c.hk) (E_bin (op_addD c.hk) (E_bin op_mulD (E_nm c.hk 4) (E_int c.hk)) (E_bin op_mulD (E_int c.hk) (E_nm c.hk 7))) (E_callT c.hk cr_intD (by rfl) T.f_int (by rfl) (L_cons (E_cmp op_ltD (E_nm c.hk 6) (E_int c.hk) (by rfl)) L_nil))) (E_nm c.hk 5)) L_nil)) (E_int c.hk)))
    (Ss_one (S_for c (IT_range1 (by rfl) T.f_range (L_cons (E_nm c.hk 2) L_nil)) (Tg_nm c.nd rfl (by first | exact Or.inl rfl | exact Or.inr rfl)) (Ss_cons (S_set c rfl (by first | exact Or.inl rfl | exact Or.inr rfl) (E_bin op_modD (E_callT c.hk cr_intD (by rfl) T.f_int (by rfl) (L_cons (E_bin (op_addD c.hk) (E_bin (op_addD c.hk) (E_bin op_mulD (E_nm c.hk 4) (E_int c.hk)) (E_nm c.hk 8)) (E_int c.hk)) L_nil)) (E_int c.hk)))
    (Ss_one (S_expr (E_append c.hk 3 (L_cons (E_bin op_modD (E_callT c.hk cr_intD (by rfl) T.f_int (by rfl) (L_cons (E_bin op_fdivD (E_nm c.hk 4) (E_int c.hk)) L_nil)) (E_int c.hk)) L_nil))))))))))))))
    (Ss_cons (S_expr (E_reverse c.hk 3))
    (Ss_one (S_ret (E_nm c.hk 3)))))))

/-! ### _law_take -/
abbrev st__law_take : Stmt := top 20
noncomputable def sem__law_take : M Fl := (sSeq (sIfS (sCmpT deq (sCall gLen (sCons (sNm 0) sNil)) (sV (.int 0))) (sRet (sV (.int 0))) sNext)
    (sRet (sOp modD (sCall gInt (sCons (mutL 0 gPop sNil) sNil)) (sNm 1))))
noncomputable def Fn__law_take : List D → FR := runF 2 [true, false] sem__law_take
theorem sc__law_take : FnScope ["deck", "many"] ["deck", "many"] (defScope st__law_take) := ⟨rfl, rfl, rfl, by decide +kernel, rfl, by decide +kernel, by decide +kernel⟩
theorem ok__law_take {f : Addr} {fd : FuncData} (F : FunD K "_law_take" "_law_take" (defArgs st__law_take) (defBody st__law_take) (defScope st__law_take) [] [] f fd) (T : TopF mg)  :
    FnOk P w K mg base (L2.CX P w) 1 f fd ["deck", "many"] (spD br K [true, false] Fn__law_take) := FnD (k := 0) F sc__law_take rfl fun cdv A outer s H E z W hcode hcl hr c =>
    (Ss_cons (S_if (T_cmp (op_deq c.hk (hu70 hr)) (E_callB c.hk (cr_lenD c.hk) (by rfl) T.f_len (by rfl) (L_cons (E_nm c.hk 0) L_nil)) (E_int c.hk) (by rfl)) (Ss_one (S_ret (E_int c.hk))) Ss_nil)
    (Ss_one (S_ret (E_bin op_modD (E_callT c.hk cr_intD (by rfl) T.f_int (by rfl) (L_cons (E_pop c.hk 0) L_nil)) (E_nm c.hk 1)))))

/-! ### _law_plain -/
abbrev st__law_plain : Stmt := top 21
noncomputable def sem__law_plain (Fr : List D → FR) : M Fl := (sSeq (sIfS (sTru (sIsi ["tuple", "list"] (sNm 0))) (sRet (sOp addD (sMake gLst (sCons (sIsi ["list"] (sNm 0)) sNil)) (sLc [1] (iSeq (sNm 0)) (tNm 1) sYes (callM [false] Fr (sCons (sNm 1) sNil))))) sNext)
    (sSeq (sIfS (sOr (sCmpT (isD false) (sNm 0) (sV .non)) (sTru (sIsi ["bool"] (sNm 0)))) (sRet (sOp subscD (sMake gLst (sCons (sV (.str "None")) (sCons (sV (.str "False")) (sCons (sV (.str "True")) sNil)))) (sOp addD (sCall gInt (sCons (sOp (toB (isD true)) (sNm 0) (sV .non)) sNil)) (sCall gInt (sCons (sOp (toB (isD false)) (sNm 0) (sV (.bl true))) sNil))))) sNext)
    (sSeq (sIfS (sTru (sIsi ["int", "str"] (sNm 0))) (sRet (sMake gLst (sCons (sIsi ["str"] (sNm 0)) (sCons (sNm 0) sNil)))) sNext)
    (sRet (sV (.str "another"))))))
noncomputable def Fn__law_plain : Nat → List D → FR
  | 0 => fun _ => .no
  | n + 1 => runF 2 [false] (sem__law_plain (Fn__law_plain n))
theorem sc__law_plain : FnScope ["value", "item"] ["value"] (defScope st__law_plain) := ⟨rfl, rfl, rfl, by decide +kernel, rfl, by decide +kernel, by decide +kernel⟩
theorem ok__law_plain {f : Addr} {fd : FuncData} (F : FunD K "_law_plain" "_law_plain" (defArgs st__law_plain) (defBody st__law_plain) (defScope st__law_plain) [] [] f fd) (T : TopF mg) {n : Nat} {Fr : List D → FR} (h__law_plain : Cl P w K mg base br "_law_plain" ["value"] [false] (n + 0) Fr)  :
    FnOk P w K mg base (L2.CX P w) (n + 0 + 1) f fd ["value"] (spD br K [false] (runF 2 [false] (sem__law_plain Fr))) := FnD (k := n + 0) F sc__law_plain rfl fun cdv A outer s H E z W hcode hcl hr c =>
    (Ss_cons (S_if (T_tru (E_isi2 T.f_isinstance T.f_tuple T.f_list (E_nm c.hk 0))) (Ss_one (S_ret (E_bin (op_addD c.hk) (E_lst c.hk (L_cons (E_isi T.f_isinstance T.f_list (E_nm c.hk 0)) L_nil)) (E_lc c (IT_seq (E_nm c.hk 0)) (blkOk_by (N := ["value", "item"]) (sc := defScope st__law_plain) (own := [("item", 1)]) (by decide +kernel)) (by decide) (fun s H C cl fp => (Tg_nm (c.blk s H _ _ fp).nd rfl (by first | exact Or.inl rfl | exact Or.inr rfl))) (fun s H C cl fp => Ts_nil) (fun s H C cl fp => (E_cl (c.blk s H _ _ fp) h__law_plain hcl hr (L_cons (E_nm (c.blk s H _ _ fp).hk 1) L_nil) (hj := by omega))))))) Ss_nil)
    (Ss_cons (S_if (Tw_or (T_cmp op_isD (E_nm c.hk 0) (E_non c.hk) (by rfl)) (Tw_or1 (T_tru (E_isi T.f_isinstance T.f_bool (E_nm c.hk 0))))).t (Ss_one (S_ret (E_ix (ix_sub c.hk (hu1 hr)) (E_lst c.hk (L_cons (E_str c.hk) (L_cons (E_str c.hk) (L_cons (E_str c.hk) L_nil)))) (E_bin (op_addD c.hk) (E_callT c.hk cr_intD (by rfl) T.f_int (by rfl) (L_cons (E_cmp op_isnotD (E_nm c.hk 0) (E_non c.hk) (by rfl)) L_nil)) (E_callT c.hk cr_intD (by rfl) T.f_int (by rfl) (L_cons (E_cmp op_isD (E_nm c.hk 0) (E_bl c.hk) (by rfl)) L_nil))) (by intro _ _; rfl)))) Ss_nil)
    (Ss_cons (S_if (T_tru (E_isi2 T.f_isinstance T.f_int T.f_str (E_nm c.hk 0))) (Ss_one (S_ret (E_lst c.hk (L_cons (E_isi T.f_isinstance T.f_str (E_nm c.hk 0)) (L_cons (E_nm c.hk 0) L_nil))))) Ss_nil)
    (Ss_one (S_ret (E_str c.hk))))))

/-! ### _law_places -/
abbrev st__law_places : Stmt := top 22
noncomputable def sem__law_places : M Fl := (sSeq (sAsg 2 sNewK)
    (sSeq (sFor (iRng fRng1 (sCons (sOp addD (sV (.int 1)) (callM [true, false] Fn__law_take (sCons (sNm 0) (sCons (sNm 1) sNil)))) sNil)) (tNm 3) (sPut 2 (callM [true, false] Fn__law_take (sCons (sNm 0) (sCons (sV (.int 4)) sNil))) (sOp addD (sV (.str "s")) (sCall gStr (sCons (sNm 3) sNil)))))
    (sRet (sNm 2))))
noncomputable def Fn__law_places : List D → FR := runF 4 [true, false] sem__law_places
theorem sc__law_places : FnScope ["deck", "most", "found", "at"] ["deck", "most"] (defScope st__law_places) := ⟨rfl, rfl, rfl, by decide +kernel, rfl, by decide +kernel, by decide +kernel⟩
theorem ok__law_places {f : Addr} {fd : FuncData} (F : FunD K "_law_places" "_law_places" (defArgs st__law_places) (defBody st__law_places) (defScope st__law_places) [] [] f fd) (T : TopF mg) (h__law_take : Cl P w K mg base br "_law_take" ["deck", "many"] [true, false] 1 Fn__law_take) :
    FnOk P w K mg base (L2.CX P w) 2 f fd ["deck", "most"] (spD br K [true, false] Fn__law_places) := FnD (k := 1) F sc__law_places rfl fun cdv A outer s H E z W hcode hcl hr c =>
    (Ss_cons (S_set c rfl (by first | exact Or.inl rfl | exact Or.inr rfl) (E_newK c.hk))
    (Ss_cons (S_for c (IT_range1 (by rfl) T.f_range (L_cons (E_bin (op_addD c.hk) (E_int c.hk) (E_cl c h__law_take hcl hr (L_cons (E_nm c.hk 0) (L_cons (E_nm c.hk 1) L_nil)))) L_nil)) (Tg_nm c.nd rfl (by first | exact Or.inl rfl | exact Or.inr rfl)) (Ss_one (S_put c (hu1 hr) 2 (E_cl c h__law_take hcl hr (L_cons (E_nm c.hk 0) (L_cons (E_int c.hk) L_nil))) (E_bin (op_addD c.hk) (E_str c.hk) (E_callT c.hk cr_strD (by rfl) T.f_str (by rfl) (L_cons (E_nm c.hk 3) L_nil))))))
    (Ss_one (S_ret (E_nm c.hk 2)))))

/-! ### _law_wishes -/
abbrev st__law_wishes : Stmt := top 23
noncomputable def sem__law_wishes : M Fl := (sSeq (sAsg 3 (sCall gSorted (sCons (sNm 2) sNil)))
    (sSeq (sAsg 4 sNewK)
    (sSeq (sFor (iRng fRng1 (sCons (callM [true, false] Fn__law_take (sCons (sNm 0) (sCons (sOp addD (sNm 1) (sV (.int 1))) sNil))) sNil)) (tNm 5) (sSeq (sAsg 6 (sMake gLst sNil))
    (sSeq (sFor (iRng fRng1 (sCons (callM [true, false] Fn__law_take (sCons (sNm 0) (sCons (sV (.int 4)) sNil))) sNil)) (tNm 7) (sSeq (sAsg 8 (sOp subscD (sNm 3) (callM [true, false] Fn__law_take (sCons (sNm 0) (sCons (sCall gLen (sCons (sNm 3) sNil)) sNil)))))
    (sIfS (sCmpT nmemD (sNm 8) (sNm 6)) (sExpr (mutL 6 gApp (sCons (sNm 8) sNil))) sNext)))
    (sPut 4 (sNm 6) (sOp addD (sV (.str "o")) (sCall gStr (sCons (sNm 5) sNil)))))))
    (sRet (sNm 4)))))
noncomputable def Fn__law_wishes : List D → FR := runF 9 [true, false, false] sem__law_wishes
theorem sc__law_wishes : FnScope ["deck", "most", "places", "names", "found", "at", "row", "turn", "name"] ["deck", "most", "places"] (defScope st__law_wishes) := ⟨rfl, rfl, rfl, by decide +kernel, rfl, by decide +kernel, by decide +kernel⟩
theorem ok__law_wishes {f : Addr} {fd : FuncData} (F : FunD K "_law_wishes" "_law_wishes" (defArgs st__law_wishes) (defBody st__law_wishes) (defScope st__law_wishes) [] [] f fd) (T : TopF mg) (h__law_take : Cl P w K mg base br "_law_take" ["deck", "many"] [true, false] 1 Fn__law_take) :
    FnOk P w K mg base (L2.CX P w) 2 f fd ["deck", "most", "places"] (spD br K [true, false, false] Fn__law_wishes) := FnD (k := 1) F sc__law_wishes rfl fun cdv A outer s H E z W hcode hcl hr c =>
    (Ss_cons (S_set c rfl (by first | exact Or.inl rfl | exact Or.inr rfl) (E_callB c.hk (cr_sortedD c.hk c.calm (hu70 hr)) (by rfl) T.f_sorted (by rfl) (L_cons (E_nm c.hk 2) L_nil)))
    (Ss_cons (S_set c rfl (by first | exact Or.inl rfl | exact Or.inr rfl) (E_newK c.hk))
    (Ss_cons (S_for c (IT_range1 (by rfl) T.f_range (L_cons (E_cl c h__law_take hcl hr (L_cons (E_nm c.hk 0) (L_cons (E_bin (op_addD c.hk) (E_nm c.hk 1) (E_int c.hk)) L_nil))) L_nil)) (Tg_nm c.nd rfl (by first | exact Or.inl rfl | exact Or.inr rfl)) (Ss_cons (S_set c rfl (by first | exact Or.inl rfl | exact Or.inr rfl) (E_lst c.hk L_nil))
    (Ss_cons (S_for c (IT_range1 (by rfl) T.f_range (L_cons (E_cl c h__law_take hcl hr (L_cons (E_nm c.hk 0) (L_cons (E_int c.hk) L_nil))) L_nil)) (Tg_nm c.nd rfl (by first | exact Or.inl rfl | exact Or.inr rfl)) (Ss_cons (S_set c rfl (by first | exact Or.inl rfl | exact Or.inr rfl) (E_ix (ix_sub c.hk (hu1 hr)) (E_nm c.hk 3) (E_cl c h__law_take hcl hr (L_cons (E_nm c.hk 0) (L_cons (E_callB c.hk (cr_lenD c.hk) (by rfl) T.f_len (by rfl) (L_cons (E_nm c.hk 3) L_nil)) L_nil))) (by intro _ _; rfl)))
    (Ss_one (S_if (T_cmp (op_nmemD c.hk (hu1 hr)) (E_nm c.hk 8) (E_nm c.hk 6) (by rfl)) (Ss_one (S_expr (E_append c.hk 6 (L_cons (E_nm c.hk 8) L_nil)))) Ss_nil))))
    (Ss_one (S_put c (hu1 hr) 4 (E_nm c.hk 6) (E_bin (op_addD c.hk) (E_str c.hk) (E_callT c.hk cr_strD (by rfl) T.f_str (by rfl) (L_cons (E_nm c.hk 5) L_nil))))))))
    (Ss_one (S_ret (E_nm c.hk 4))))))

/-! ### _law_some_plans -/
abbrev st__law_some_plans : Stmt := top 24
noncomputable def sem__law_some_plans : M Fl := (sSeq (sAsg 2 (sMake gLst (sCons sNewK sNil)))
    (sSeq (sFor (iSeq (sCall gSorted (sCons (sNm 1) sNil))) (tNm 3) (sSeq (sAsg 4 (sCall gList (sCons (sNm 2) sNil)))
    (sSeq (sFor (iSeq (sNm 2)) (tNm 5) (sFor (iSeq (sOp subscD (sNm 1) (sNm 3))) (tNm 6) (sSeq (sAsg 7 (sCall gDict (sCons (sNm 5) sNil)))
    (sSeq (sPut 7 (sNm 6) (sNm 3))
    (sIfS (sCmpT leD (sCall gLen (sCons (sLc [8] (iSeq (sNm 7)) (tNm 8) (sCmpT deq (sOp subscD (sNm 7) (sNm 8)) (sNm 6)) (sNm 8)) sNil)) (sOp subscD (sNm 0) (sNm 6))) (sExpr (mutL 4 gApp (sCons (sNm 7) sNil))) sNext)))))
    (sAsg 2 (sNm 4)))))
    (sRet (sNm 2))))
noncomputable def Fn__law_some_plans : List D → FR := runF 9 [false, false] sem__law_some_plans
theorem sc__law_some_plans : FnScope ["places", "wishes", "found", "order", "longer", "plan", "slot", "more", "one"] ["places", "wishes"] (defScope st__law_some_plans) := ⟨rfl, rfl, rfl, by decide +kernel, rfl, by decide +kernel, by decide +kernel⟩
theorem ok__law_some_plans {f : Addr} {fd : FuncData} (F : FunD K "_law_some_plans" "_law_some_plans" (defArgs st__law_some_plans) (defBody st__law_some_plans) (defScope st__law_some_plans) [] [] f fd) (T : TopF mg)  :
    FnOk P w K mg base (L2.CX P w) 1 f fd ["places", "wishes"] (spD br K [false, false] Fn__law_some_plans) := FnD (k := 0) F sc__law_some_plans rfl fun cdv A outer s H E z W hcode hcl hr c =>
    (Ss_cons (S_set c rfl (by first | exact Or.inl rfl | exact Or.inr rfl) (E_lst c.hk (L_cons (E_newK c.hk) L_nil)))
    (Ss_cons (S_for c (IT_seq (E_callB c.hk (cr_sortedD c.hk c.calm (hu70 hr)) (by rfl) T.f_sorted (by rfl) (L_cons (E_nm c.hk 1) L_nil))) (Tg_nm c.nd rfl (by first | exact Or.inl rfl | exact Or.inr rfl)) (Ss_cons (S_set c rfl (by first | exact Or.inl rfl | exact Or.inr rfl) (E_callT c.hk (cr_listD c.hk c.calm) (by rfl) T.f_list (by rfl) (L_cons (E_nm c.hk 2) L_nil)))
    (Ss_cons (S_for c (IT_seq (E_nm c.hk 2)) (Tg_nm c.nd rfl (by first | exact Or.inl rfl | exact Or.inr rfl)) (Ss_one (S_for c (IT_seq (E_ix (ix_sub c.hk (hu1 hr)) (E_nm c.hk 1) (E_nm c.hk 3) (by intro _ _; rfl))) (Tg_nm c.nd rfl (by first | exact Or.inl rfl | exact Or.inr rfl)) (Ss_cons (S_set c rfl (by first | exact Or.inl rfl | exact Or.inr rfl) (E_callT c.hk cr_dictD (by rfl) T.f_dict (by rfl) (L_cons (E_nm c.hk 5) L_nil)))
    (Ss_cons (S_put c (hu1 hr) 7 (E_nm c.hk 6) (E_nm c.hk 3))
    (Ss_one (S_if (T_cmp op_leD (E_callB c.hk (cr_lenD c.hk) (by rfl) T.f_len (by rfl) (L_cons (E_lc c (IT_seq (E_nm c.hk 7)) (blkOk_by (N := ["places", "wishes", "found", "order", "longer", "plan", "slot", "more", "one"]) (sc := defScope st__law_some_plans) (own := [("one", 8)]) (by decide +kernel)) (by decide) (fun s H C cl fp => (Tg_nm (c.blk s H _ _ fp).nd rfl (by first | exact Or.inl rfl | exact Or.inr rfl))) (fun s H C cl fp => (Ts_one (T_cmp (op_deq (c.blk s H _ _ fp).hk (hu70 hr)) (E_ix (ix_sub (c.blk s H _ _ fp).hk (hu1 hr)) (E_nm (c.blk s H _ _ fp).hk 7) (E_nm (c.blk s H _ _ fp).hk 8) (by intro _ _; rfl)) (E_nm (c.blk s H _ _ fp).hk 6) (by rfl)))) (fun s H C cl fp => (E_nm (c.blk s H _ _ fp).hk 8))) L_nil)) (E_ix (ix_sub c.hk (hu1 hr)) (E_nm c.hk 0) (E_nm c.hk 6) (by intro _ _; rfl)) (by rfl)) (Ss_one (S_expr (E_append c.hk 4 (L_cons (E_nm c.hk 7) L_nil)))) Ss_nil)))))))
    (Ss_one (S_set c rfl (by first | exact Or.inl rfl | exact Or.inr rfl) (E_nm c.hk 4))))))
    (Ss_one (S_ret (E_nm c.hk 2)))))

/-! ### _law_blocking -/
abbrev st__law_blocking : Stmt := top 25
noncomputable def sem__law_blocking : M Fl := (sSeq (sAsg 4 (sMake gLst sNil))
    (sSeq (sFor (iSeq (sCall gSorted (sCons (sNm 1) sNil))) (tNm 5) (sFor (iSeq (sCall gSorted (sCons (sOp subscD (sNm 1) (sNm 5)) sNil))) (tNm 6) (sSeq (sAsg 7 (sIdx (sOp subscD (sNm 1) (sNm 5)) (sNm 6)))
    (sSeq (sAsg 8 (sOrV (sOp (toB nmemD) (sNm 5) (sNm 3)) (sOp (toB ltD) (sNm 7) (sIdx (sOp subscD (sNm 1) (sNm 5)) (sOp subscD (sNm 3) (sNm 5))))))
    (sIfS (sTru (sNm 8)) (sSeq (sAsg 9 (sLc [12] (iSeq (sNm 3)) (tNm 12) (sCmpT deq (sOp subscD (sNm 3) (sNm 12)) (sNm 6)) (sNm 12)))
    (sSeq (sAsg 10 (sIdx (sOp subscD (sNm 2) (sNm 6)) (sNm 5)))
    (sSeq (sAsg 11 (sLc [12] (iSeq (sNm 9)) (tNm 12) (sCmpT gtD (sIdx (sOp subscD (sNm 2) (sNm 6)) (sNm 12)) (sNm 10)) (sNm 12)))
    (sIfS (sOr (sCmpT ltD (sCall gLen (sCons (sNm 9) sNil)) (sOp subscD (sNm 0) (sNm 6))) (sCmpT gtD (sCall gLen (sCons (sNm 11) sNil)) (sV (.int 0)))) (sExpr (mutL 4 gApp (sCons (sMake gTup (sCons (sNm 5) (sCons (sNm 6) sNil))) sNil))) sNext)))) sNext)))))
    (sRet (sNm 4))))
noncomputable def Fn__law_blocking : List D → FR := runF 13 [false, false, false, false] sem__law_blocking
theorem sc__law_blocking : FnScope ["places", "wishes", "ranks", "plan", "found", "order", "slot", "place", "better", "row", "mine", "worse", "one"] ["places", "wishes", "ranks", "plan"] (defScope st__law_blocking) := ⟨rfl, rfl, rfl, by decide +kernel, rfl, by decide +kernel, by decide +kernel⟩
theorem ok__law_blocking {f : Addr} {fd : FuncData} (F : FunD K "_law_blocking" "_law_blocking" (defArgs st__law_blocking) (defBody st__law_blocking) (defScope st__law_blocking) [] [] f fd) (T : TopF mg)  :
    FnOk P w K mg base (L2.CX P w) 1 f fd ["places", "wishes", "ranks", "plan"] (spD br K [false, false, false, false] Fn__law_blocking) := FnD (k := 0) F sc__law_blocking rfl fun cdv A outer s H E z W hcode hcl hr c =>
    (Ss_cons (S_set c rfl (by first | exact Or.inl rfl | exact Or.inr rfl) (E_lst c.hk L_nil))
    (Ss_cons (S_for c (IT_seq (E_callB c.hk (cr_sortedD c.hk c.calm (hu70 hr)) (by rfl) T.f_sorted (by rfl) (L_cons (E_nm c.hk 1) L_nil))) (Tg_nm c.nd rfl (by first | exact Or.inl rfl | exact Or.inr rfl)) (Ss_one (S_for c (IT_seq (E_callB c.hk (cr_sortedD c.hk c.calm (hu70 hr)) (by rfl) T.f_sorted (by rfl) (L_cons (E_ix (ix_sub c.hk (hu1 hr)) (E_nm c.hk 1) (E_nm c.hk 5) (by intro _ _; rfl)) L_nil))) (Tg_nm c.nd rfl (by first | exact Or.inl rfl | exact Or.inr rfl)) (Ss_cons (S_set c rfl (by first | exact Or.inl rfl | exact Or.inr rfl) (E_index c.hk (E_ix (ix_sub c.hk (hu1 hr)) (E_nm c.hk 1) (E_nm c.hk 5) (by intro _ _; rfl)) (E_nm c.hk 6)))
    (Ss_cons (S_set c rfl (by first | exact Or.inl rfl | exact Or.inr rfl) (E_or (E_cmp (op_nmemD c.hk (hu1 hr)) (E_nm c.hk 5) (E_nm c.hk 3) (by rfl)) (E_one (E_cmp op_ltD (E_nm c.hk 7) (E_index c.hk (E_ix (ix_sub c.hk (hu1 hr)) (E_nm c.hk 1) (E_nm c.hk 5) (by intro _ _; rfl)) (E_ix (ix_sub c.hk (hu1 hr)) (E_nm c.hk 3) (E_nm c.hk 5) (by intro _ _; rfl))) (by rfl)))))
    (Ss_one (S_if (T_tru (E_nm c.hk 8)) (Ss_cons (S_setLcN c (IT_seq (E_nm c.hk 3)) (blkOk_by (N := ["places", "wishes", "ranks", "plan", "found", "order", "slot", "place", "better", "row", "mine", "worse", "one"]) (sc := defScope st__law_blocking) (own := [("one", 12)]) (by decide +kernel)) (by decide) (fun s H C cl fp => (Tg_nm (c.blk s H _ _ fp).nd rfl (by first | exact Or.inl rfl | exact Or.inr rfl))) (fun s H C cl fp => (Ts_one (T_cmp (op_deq (c.blk s H _ _ fp).hk (hu70 hr)) (E_ix (ix_sub (c.blk s H _ _ fp).hk (hu1 hr)) (E_nm (c.blk s H _ _ fp).hk 3) (E_nm (c.blk s H _ _ fp).hk 12) (by intro _ _; rfl)) (E_nm (c.blk s H _ _ fp).hk 6) (by rfl)))) (fun s H C cl fp => (E_nm (c.blk s H _ _ fp).hk 12)))
    (Ss_cons (S_set c rfl (by first | exact Or.inl rfl | exact Or.inr rfl) (E_index c.hk (E_ix (ix_sub c.hk (hu1 hr)) (E_nm c.hk 2) (E_nm c.hk 6) (by intro _ _; rfl)) (E_nm c.hk 5)))
    (Ss_cons (S_setLcN c (IT_seq (E_nm c.hk 9)) (blkOk_by (N := ["places", "wishes", "ranks", "plan", "found", "order", "slot", "place", "better", "row", "mine", "worse", "one"]) (sc := defScope st__law_blocking) (own := [("one", 12)]) (by decide +kernel)) (by decide) (fun s H C cl fp => (Tg_nm (c.blk s H _ _ fp).nd rfl (by first | exact Or.inl rfl | exact Or.inr rfl))) (fun s H C cl fp => (Ts_one (T_cmp op_gtD (E_index (c.blk s H _ _ fp).hk (E_ix (ix_sub (c.blk s H _ _ fp).hk (hu1 hr)) (E_nm (c.blk s H _ _ fp).hk 2) (E_nm (c.blk s H _ _ fp).hk 6) (by intro _ _; rfl)) (E_nm (c.blk s H _ _ fp).hk 12)) (E_nm (c.blk s H _ _ fp).hk 10) (by rfl)))) (fun s H C cl fp => (E_nm (c.blk s H _ _ fp).hk 12)))
    (Ss_one (S_if (Tw_or (T_cmp op_ltD (E_callB c.hk (cr_lenD c.hk) (by rfl) T.f_len (by rfl) (L_cons (E_nm c.hk 9) L_nil)) (E_ix (ix_sub c.hk (hu1 hr)) (E_nm c.hk 0) (E_nm c.hk 6) (by intro _ _; rfl)) (by rfl)) (Tw_or1 (T_cmp op_gtD (E_callB c.hk (cr_lenD c.hk) (by rfl) T.f_len (by rfl) (L_cons (E_nm c.hk 11) L_nil)) (E_int c.hk) (by rfl)))).t (Ss_one (S_expr (E_append c.hk 4 (L_cons (E_tup c.hk (L_cons (E_nm c.hk 5) (L_cons (E_nm c.hk 6) L_nil))) L_nil)))) Ss_nil))))) Ss_nil)))))))
    (Ss_one (S_ret (E_nm c.hk 4)))))

/-! ### _law_ranks -/
abbrev st__law_ranks : Stmt := top 26
noncomputable def sem__law_ranks : M Fl := (sSeq (sAsg 3 sNewK)
    (sSeq (sFor (iSeq (sNm 1)) (tNm 4) (sSeq (sAsg 5 (sLc [8] (iSeq (sCall gSorted (sCons (sNm 2) sNil))) (tNm 8) (sCmpT memD (sNm 4) (sOp subscD (sNm 2) (sNm 8))) (sNm 8)))
    (sSeq (sAsg 6 (sMake gLst sNil))
    (sSeq (sFor (iRng fRng1 (sCons (sCall gLen (sCons (sNm 5) sNil)) sNil)) (tNm 7) (sExpr (mutL 6 gApp (sCons (mutL 5 gPopAt (sCons (callM [true, false] Fn__law_take (sCons (sNm 0) (sCons (sCall gLen (sCons (sNm 5) sNil)) sNil))) sNil)) sNil))))
    (sPut 3 (sNm 6) (sNm 4))))))
    (sRet (sNm 3))))
noncomputable def Fn__law_ranks : List D → FR := runF 9 [true, false, false] sem__law_ranks
theorem sc__law_ranks : FnScope ["deck", "places", "wishes", "found", "slot", "left", "row", "turn", "order"] ["deck", "places", "wishes"] (defScope st__law_ranks) := ⟨rfl, rfl, rfl, by decide +kernel, rfl, by decide +kernel, by decide +kernel⟩
theorem ok__law_ranks {f : Addr} {fd : FuncData} (F : FunD K "_law_ranks" "_law_ranks" (defArgs st__law_ranks) (defBody st__law_ranks) (defScope st__law_ranks) [] [] f fd) (T : TopF mg) (h__law_take : Cl P w K mg base br "_law_take" ["deck", "many"] [true, false] 1 Fn__law_take) :
    FnOk P w K mg base (L2.CX P w) 2 f fd ["deck", "places", "wishes"] (spD br K [true, false, false] Fn__law_ranks) := FnD (k := 1) F sc__law_ranks rfl fun cdv A outer s H E z W hcode hcl hr c =>
    (Ss_cons (S_set c rfl (by first | exact Or.inl rfl | exact Or.inr rfl) (E_newK c.hk))
    (Ss_cons (S_for c (IT_seq (E_nm c.hk 1)) (Tg_nm c.nd rfl (by first | exact Or.inl rfl | exact Or.inr rfl)) (Ss_cons (S_setLcN c (IT_seq (E_callB c.hk (cr_sortedD c.hk c.calm (hu70 hr)) (by rfl) T.f_sorted (by rfl) (L_cons (E_nm c.hk 2) L_nil))) (blkOk_by (N := ["deck", "places", "wishes", "found", "slot", "left", "row", "turn", "order"]) (sc := defScope st__law_ranks) (own := [("order", 8)]) (by decide +kernel)) (by decide) (fun s H C cl fp => (Tg_nm (c.blk s H _ _ fp).nd rfl (by first | exact Or.inl rfl | exact Or.inr rfl))) (fun s H C cl fp => (Ts_one (T_cmp (op_memD (c.blk s H _ _ fp).hk (hu1 hr)) (E_nm (c.blk s H _ _ fp).hk 4) (E_ix (ix_sub (c.blk s H _ _ fp).hk (hu1 hr)) (E_nm (c.blk s H _ _ fp).hk 2) (E_nm (c.blk s H _ _ fp).hk 8) (by intro _ _; rfl)) (by rfl)))) (fun s H C cl fp => (E_nm (c.blk s H _ _ fp).hk 8)))
    (Ss_cons (S_set c rfl (by first | exact Or.inl rfl | exact Or.inr rfl) (E_lst c.hk L_nil))
    (Ss_cons (S_for c (IT_range1 (by rfl) T.f_range (L_cons (E_callB c.hk (cr_lenD c.hk) (by rfl) T.f_len (by rfl) (L_cons (E_nm c.hk 5) L_nil)) L_nil)) (Tg_nm c.nd rfl (by first | exact Or.inl rfl | exact Or.inr rfl)) (Ss_one (S_expr (E_append c.hk 6 (L_cons (E_popAt c.hk 5 (L_cons (E_cl c h__law_take hcl hr (L_cons (E_nm c.hk 0) (L_cons (E_callB c.hk (cr_lenD c.hk) (by rfl) T.f_len (by rfl) (L_cons (E_nm c.hk 5) L_nil)) L_nil))) L_nil)) L_nil)))))
    (Ss_one (S_put c (hu1 hr) 3 (E_nm c.hk 6) (E_nm c.hk 4)))))))
    (Ss_one (S_ret (E_nm c.hk 3)))))

/-! ### _law_places_of -/
abbrev st__law_places_of : Stmt := top 27
noncomputable def sem__law_places_of : M Fl := (sRet (sLc [2] (iSeq (sCall gSorted (sCons (sNm 1) sNil))) (tNm 2) sYes (sIdx (sOp subscD (sNm 0) (sNm 2)) (sOp subscD (sNm 1) (sNm 2)))))
noncomputable def Fn__law_places_of : List D → FR := runF 3 [false, false] sem__law_places_of
theorem sc__law_places_of : FnScope ["wishes", "plan", "order"] ["wishes", "plan"] (defScope st__law_places_of) := ⟨rfl, rfl, rfl, by decide +kernel, rfl, by decide +kernel, by decide +kernel⟩
theorem ok__law_places_of {f : Addr} {fd : FuncData} (F : FunD K "_law_places_of" "_law_places_of" (defArgs st__law_places_of) (defBody st__law_places_of) (defScope st__law_places_of) [] [] f fd) (T : TopF mg)  :
    FnOk P w K mg base (L2.CX P w) 1 f fd ["wishes", "plan"] (spD br K [false, false] Fn__law_places_of) := FnD (k := 0) F sc__law_places_of rfl fun cdv A outer s H E z W hcode hcl hr c =>
    (Ss_one (S_ret (E_lc c (IT_seq (E_callB c.hk (cr_sortedD c.hk c.calm (hu70 hr)) (by rfl) T.f_sorted (by rfl) (L_cons (E_nm c.hk 1) L_nil))) (blkOk_by (N := ["wishes", "plan", "order"]) (sc := defScope st__law_places_of) (own := [("order", 2)]) (by decide +kernel)) (by decide) (fun s H C cl fp => (Tg_nm (c.blk s H _ _ fp).nd rfl (by first | exact Or.inl rfl | exact Or.inr rfl))) (fun s H C cl fp => Ts_nil) (fun s H C cl fp => (E_index (c.blk s H _ _ fp).hk (E_ix (ix_sub (c.blk s H _ _ fp).hk (hu1 hr)) (E_nm (c.blk s H _ _ fp).hk 0) (E_nm (c.blk s H _ _ fp).hk 2) (by intro _ _; rfl)) (E_ix (ix_sub (c.blk s H _ _ fp).hk (hu1 hr)) (E_nm (c.blk s H _ _ fp).hk 1) (E_nm (c.blk s H _ _ fp).hk 2) (by intro _ _; rfl)))))))

/-! ### _law_refusal -/
abbrev st__law_refusal : Stmt := top 28
noncomputable def sem__law_refusal : M Fl := (sSeq (sTry 4 5 (sIfS (sCmpT deq (sNm 0) (sV (.int 0))) (sExpr (callM [false, false, false] Fn_stable_plan (sCons (sNm 1) (sCons (sNm 2) (sCons (sNm 3) sNil))))) (sIfS (sCmpT deq (sNm 0) (sV (.int 1))) (sExpr (callM [false, false, false] Fn_stable_for_slots (sCons (sNm 1) (sCons (sNm 2) (sCons (sNm 3) sNil))))) (sExpr (callM [false, false, false, false] Fn_blocking_pairs (sCons (sNm 1) (sCons (sNm 2) (sCons (sNm 3) (sCons (sNm 4) sNil)))))))) [(2, .pair "order"), (3, .pair "plan")])
    (sRet (sV .non)))
noncomputable def Fn__law_refusal : List D → FR := runF 6 [false, false, false, false, false] sem__law_refusal
theorem sc__law_refusal : FnScope ["ask", "places", "wishes", "ranks", "plan", "error"] ["ask", "places", "wishes", "ranks", "plan"] (defScope st__law_refusal) := ⟨rfl, rfl, rfl, by decide +kernel, rfl, by decide +kernel, by decide +kernel⟩
theorem ok__law_refusal {f : Addr} {fd : FuncData} (F : FunD K "_law_refusal" "_law_refusal" (defArgs st__law_refusal) (defBody st__law_refusal) (defScope st__law_refusal) [] [] f fd) (T : TopF mg) (h_stable_plan : Cl P w K mg base br "stable_plan" ["places", "wishes", "ranks"] [false, false, false] 5 Fn_stable_plan) (h_stable_for_slots : Cl P w K mg base br "stable_for_slots" ["places", "wishes", "ranks"] [false, false, false] 5 Fn_stable_for_slots) (h_blocking_pairs : Cl P w K mg base br "blocking_pairs" ["places", "wishes", "ranks", "plan"] [false, false, false, false] 5 Fn_blocking_pairs) (hd_InvalidOrder : HdC K mg br 2 "InvalidOrder") (hd_InvalidPlan : HdC K mg br 3 "InvalidPlan") (xm : XM K br 4) :
    FnOk P w K mg base (L2.CX P w) 6 f fd ["ask", "places", "wishes", "ranks", "plan"] (spD br K [false, false, false, false, false] Fn__law_refusal) := FnD (k := 5) F sc__law_refusal rfl fun cdv A outer s H E z W hcode hcl hr c =>
    (Ss_cons (S_try (nc := 4) (hs := [(2, .pair "order"), (3, .pair "plan")]) c hcl rfl (fun W1 pn1 xe1 c1 => (Ss_one (S_if (T_cmp (op_deq c1.hk (hu70 hr)) (E_nm c1.hk 0) (E_int c1.hk) (by rfl)) (Ss_one (S_expr (E_cl c1 h_stable_plan hcl hr (L_cons (E_nm c1.hk 1) (L_cons (E_nm c1.hk 2) (L_cons (E_nm c1.hk 3) L_nil)))))) (Ss_one (S_if (T_cmp (op_deq c1.hk (hu70 hr)) (E_nm c1.hk 0) (E_int c1.hk) (by rfl)) (Ss_one (S_expr (E_cl c1 h_stable_for_slots hcl hr (L_cons (E_nm c1.hk 1) (L_cons (E_nm c1.hk 2) (L_cons (E_nm c1.hk 3) L_nil)))))) (Ss_one (S_expr (E_cl c1 h_blocking_pairs hcl hr (L_cons (E_nm c1.hk 1) (L_cons (E_nm c1.hk 2) (L_cons (E_nm c1.hk 3) (L_cons (E_nm c1.hk 4) L_nil)))))))))))) (.cons ⟨by rfl, by decide, .inl hd_InvalidOrder.gl⟩ (fun ad ob cls dx pn hz hf => su_pair hd_InvalidOrder.xf hd_InvalidOrder.na hz hf rfl) (.cons ⟨by rfl, by decide, .inl hd_InvalidPlan.gl⟩ (fun ad ob cls dx pn hz hf => su_pair hd_InvalidPlan.xf hd_InvalidPlan.na hz hf rfl) .nil)) (xm_at xm (by decide)))
    (Ss_one (S_ret (E_non c.hk))))

/-! ### law -/
abbrev st_law : Stmt := top 29
noncomputable def sem_law : M Fl := (sSeq (sAsg 1 (callM [false, false, false] Fn__law_deck (sCons (sNm 0) (sCons (sV (.int 60)) (sCons (sV (.int 14)) sNil)))))
    (sSeq (sAsg 2 (callM [true, false] Fn__law_places (sCons (sNm 1) (sCons (sV (.int 4)) sNil))))
    (sSeq (sAsg 3 (callM [true, false, false] Fn__law_wishes (sCons (sNm 1) (sCons (sV (.int 5)) (sCons (sNm 2) sNil)))))
    (sSeq (sAsg 4 (callM [true, false, false] Fn__law_ranks (sCons (sNm 1) (sCons (sNm 2) (sCons (sNm 3) sNil)))))
    (sSeq (sAsg 5 (callM [false, false] Fn__law_some_plans (sCons (sNm 2) (sCons (sNm 3) sNil))))
    (sSeq (sAsg 6 (sLc [8] (iSeq (sNm 5)) (tNm 8) (sCmpT deq (sCall gLen (sCons (callM [false, false, false, false] Fn__law_blocking (sCons (sNm 2) (sCons (sNm 3) (sCons (sNm 4) (sCons (sNm 8) sNil))))) sNil)) (sV (.int 0))) (sNm 8)))
    (sSeq (sFor (iRng fRng1 (sCons (sV (.int 4)) sNil)) (tNm 7) (sSeq (sAsg 8 (sOp subscD (sNm 5) (callM [true, false] Fn__law_take (sCons (sNm 1) (sCons (sCall gLen (sCons (sNm 5) sNil)) sNil)))))
    (sSeq (sAsg 9 (callM [false, false, false, false] Fn_blocking_pairs (sCons (sNm 2) (sCons (sNm 3) (sCons (sNm 4) (sCons (sCall gDict (sCons (sNm 8) sNil)) sNil))))))
    (sIfS (sCmpT dne (callM [false] (Fn__law_plain 8) (sCons (sNm 9) sNil)) (callM [false] (Fn__law_plain 8) (sCons (callM [false, false, false, false] Fn__law_blocking (sCons (sNm 2) (sCons (sNm 3) (sCons (sNm 4) (sCons (sNm 8) sNil))))) sNil))) (sRet (sV (.bl false))) sNext))))
    (sSeq (sAsg 10 (callM [false, false, false] Fn_stable_plan (sCons (sNm 2) (sCons (sNm 3) (sCons (sNm 4) sNil)))))
    (sSeq (sAsg 11 (callM [false, false, false] Fn_stable_for_slots (sCons (sNm 2) (sCons (sNm 3) (sCons (sNm 4) sNil)))))
    (sSeq (sIfS (sOr (sCmpT dne (sCall gList (sCons (sNm 10) sNil)) (sCall gSorted (sCons (sNm 10) sNil))) (sCmpT dne (sCall gList (sCons (sNm 11) sNil)) (sCall gSorted (sCons (sNm 11) sNil)))) (sRet (sV (.bl false))) sNext)
    (sSeq (sIfS (sOr (sCmpT dne (sCall gLen (sCons (sLc [8] (iSeq (sNm 6)) (tNm 8) (sCmpT deq (sNm 8) (sNm 10)) (sNm 8)) sNil)) (sV (.int 1))) (sCmpT dne (sCall gLen (sCons (sLc [8] (iSeq (sNm 6)) (tNm 8) (sCmpT deq (sNm 8) (sNm 11)) (sNm 8)) sNil)) (sV (.int 1)))) (sRet (sV (.bl false))) sNext)
    (sSeq (sFor (iSeq (sNm 6)) (tNm 8) (sSeq (sIfS (sCmpT dne (sCall gSorted (sCons (sNm 8) sNil)) (sCall gSorted (sCons (sNm 10) sNil))) (sRet (sV (.bl false))) sNext)
    (sSeq (sAsg 12 (sLc [16] (iSeq (sMake gTup (sCons (sNm 10) (sCons (sNm 8) (sCons (sNm 11) sNil))))) (tNm 16) sYes (callM [false, false] Fn__law_places_of (sCons (sNm 3) (sCons (sNm 16) sNil)))))
    (sSeq (sIfS (sCmpT gtD (sCall gLen (sCons (sLc [16, 17, 18] (iMake gZip3 (sCons (sOp subscD (sNm 12) (sV (.int 0))) (sCons (sOp subscD (sNm 12) (sV (.int 1))) (sCons (sOp subscD (sNm 12) (sV (.int 2))) sNil)))) (tTupT 3 (tCons (tNm 16) (tCons (tNm 17) (tCons (tNm 18) tNil)))) (sNot (sTru (sChain leD leD (sNm 16) (sNm 17) (sNm 18)))) (sV (.int 1))) sNil)) (sV (.int 0))) (sRet (sV (.bl false))) sNext)
    (sFor (iSeq (sNm 2)) (tNm 13) (sSeq (sAsg 14 (sCall gSorted (sCons (sLc [19] (iSeq (sNm 8)) (tNm 19) (sCmpT deq (sOp subscD (sNm 8) (sNm 19)) (sNm 13)) (sNm 19)) sNil)))
    (sIfS (sAnd (sCmpT ltD (sCall gLen (sCons (sNm 14) sNil)) (sOp subscD (sNm 2) (sNm 13))) (sCmpT dne (sNm 14) (sCall gSorted (sCons (sLc [19] (iSeq (sNm 10)) (tNm 19) (sCmpT deq (sOp subscD (sNm 10) (sNm 19)) (sNm 13)) (sNm 19)) sNil)))) (sRet (sV (.bl false))) sNext)))))))
    (sSeq (sAsg 15 (sCall gDict (sCons (sNm 4) sNil)))
    (sSeq (sPut 15 (sOp addD (sOp subscD (sNm 4) (sOp subscD (sCall gSorted (sCons (sNm 2) sNil)) (sV (.int 0)))) (sMake gLst (sCons (sV (.str "nobody")) sNil))) (sOp subscD (sCall gSorted (sCons (sNm 2) sNil)) (sV (.int 0))))
    (sSeq (sIfS (sCmpT dne (callM [false, false, false, false, false] Fn__law_refusal (sCons (callM [true, false] Fn__law_take (sCons (sNm 1) (sCons (sV (.int 3)) sNil))) (sCons (sNm 2) (sCons (sNm 3) (sCons (sNm 15) (sCons sNewK sNil)))))) (sMake gTup (sCons (sV (.str "order")) (sCons (sV (.str "ranks")) sNil)))) (sRet (sV (.bl false))) sNext)
    (sRet (sOp (toB deq) (callM [false, false, false, false, false] Fn__law_refusal (sCons (sV (.int 2)) (sCons (sNm 2) (sCons (sNm 3) (sCons (sNm 4) (sCons (sDisp1 (sV (.str "nobody")) (sV (.str "s0"))) sNil)))))) (sMake gTup (sCons (sV (.str "plan")) (sCons (sV (.str "plan")) sNil))))))))))))))))))))
noncomputable def Fn_law : List D → FR := runF 20 [false] sem_law
theorem sc_law : FnScope ["script", "deck", "places", "wishes", "ranks", "plans", "stable", "turn", "plan", "told", "best", "worst", "some", "slot", "row", "wrong", "one", "two", "three", "order"] ["script"] (defScope st_law) := ⟨rfl, rfl, rfl, by decide +kernel, rfl, by decide +kernel, by decide +kernel⟩
theorem ok_law {f : Addr} {fd : FuncData} (F : FunD K "law" "law" (defArgs st_law) (defBody st_law) (defScope st_law) [] [] f fd) (T : TopF mg) (h__law_deck : Cl P w K mg base br "_law_deck" ["script", "cells", "each"] [false, false, false] 1 Fn__law_deck) (h__law_places : Cl P w K mg base br "_law_places" ["deck", "most"] [true, false] 2 Fn__law_places) (h__law_wishes : Cl P w K mg base br "_law_wishes" ["deck", "most", "places"] [true, false, false] 2 Fn__law_wishes) (h__law_ranks : Cl P w K mg base br "_law_ranks" ["deck", "places", "wishes"] [true, false, false] 2 Fn__law_ranks) (h__law_some_plans : Cl P w K mg base br "_law_some_plans" ["places", "wishes"] [false, false] 1 Fn__law_some_plans) (h__law_blocking : Cl P w K mg base br "_law_blocking" ["places", "wishes", "ranks", "plan"] [false, false, false, false] 1 Fn__law_blocking) (h__law_take : Cl P w K mg base br "_law_take" ["deck", "many"] [true, false] 1 Fn__law_take) (h_blocking_pairs : Cl P w K mg base br "blocking_pairs" ["places", "wishes", "ranks", "plan"] [false, false, false, false] 5 Fn_blocking_pairs) (h__law_plain : Cl P w K mg base br "_law_plain" ["value"] [false] 8 (Fn__law_plain 8)) (h_stable_plan : Cl P w K mg base br "stable_plan" ["places", "wishes", "ranks"] [false, false, false] 5 Fn_stable_plan) (h_stable_for_slots : Cl P w K mg base br "stable_for_slots" ["places", "wishes", "ranks"] [false, false, false] 5 Fn_stable_for_slots) (h__law_places_of : Cl P w K mg base br "_law_places_of" ["wishes", "plan"] [false, false] 1 Fn__law_places_of) (h__law_refusal : Cl P w K mg base br "_law_refusal" ["ask", "places", "wishes", "ranks", "plan"] [false, false, false, false, false] 6 Fn__law_refusal) :
    FnOk P w K mg base (L2.CX P w) 9 f fd ["script"] (spD br K [false] Fn_law) := FnD (k := 8) F sc_law rfl fun cdv A outer s H E z W hcode hcl hr c =>
    (Ss_cons (S_set c rfl (by first | exact Or.inl rfl | exact Or.inr rfl) (E_cl c h__law_deck hcl hr (L_cons (E_nm c.hk 0) (L_cons (E_int c.hk) (L_cons (E_int c.hk) L_nil)))))
    (Ss_cons (S_set c rfl (by first | exact Or.inl rfl | exact Or.inr rfl) (E_cl c h__law_places hcl hr (L_cons (E_nm c.hk 1) (L_cons (E_int c.hk) L_nil))))
    (Ss_cons (S_set c rfl (by first | exact Or.inl rfl | exact Or.inr rfl) (E_cl c h__law_wishes hcl hr (L_cons (E_nm c.hk 1) (L_cons (E_int c.hk) (L_cons (E_nm c.hk 2) L_nil)))))
    (Ss_cons (S_set c rfl (by first | exact Or.inl rfl | exact Or.inr rfl) (E_cl c h__law_ranks hcl hr (L_cons (E_nm c.hk 1) (L_cons (E_nm c.hk 2) (L_cons (E_nm c.hk 3) L_nil)))))
    (Ss_cons (S_set c rfl (by first | exact Or.inl rfl | exact Or.inr rfl) (E_cl c h__law_some_plans hcl hr (L_cons (E_nm c.hk 2) (L_cons (E_nm c.hk 3) L_nil))))
    (Ss_cons (S_setLcN c (IT_seq (E_nm c.hk 5)) (blkOk_by (N := ["script", "deck", "places", "wishes", "ranks", "plans", "stable", "turn", "plan", "told", "best", "worst", "some", "slot", "row", "wrong", "one", "two", "three", "order"]) (sc := defScope st_law) (own := [("plan", 8)]) (by decide +kernel)) (by decide) (fun s H C cl fp => (Tg_nm (c.blk s H _ _ fp).nd rfl (by first | exact Or.inl rfl | exact Or.inr rfl))) (fun s H C cl fp => (Ts_one (T_cmp (op_deq (c.blk s H _ _ fp).hk (hu70 hr)) (E_callB (c.blk s H _ _ fp).hk (cr_lenD (c.blk s H _ _ fp).hk) (by rfl) T.f_len (by rfl) (L_cons (E_cl (c.blk s H _ _ fp) h__law_blocking hcl hr (L_cons (E_nm (c.blk s H _ _ fp).hk 2) (L_cons (E_nm (c.blk s H _ _ fp).hk 3) (L_cons (E_nm (c.blk s H _ _ fp).hk 4) (L_cons (E_nm (c.blk s H _ _ fp).hk 8) L_nil))))) L_nil)) (E_int (c.blk s H _ _ fp).hk) (by rfl)))) (fun s H C cl fp => (E_nm (c.blk s H _ _ fp).hk 8)))
    (Ss_cons (S_for c (IT_range1 (by rfl) T.f_range (L_cons (E_int c.hk) L_nil)) (Tg_nm c.nd rfl (by first | exact Or.inl rfl | exact Or.inr rfl)) (Ss_cons (S_set c rfl (by first | exact Or.inl rfl | exact Or.inr rfl) (E_ix (ix_sub c.hk (hu1 hr)) (E_nm c.hk 5) (E_cl c h__law_take hcl hr (L_cons (E_nm c.hk 1) (L_cons (E_callB c.hk (cr_lenD c.hk) (by rfl) T.f_len (by rfl) (L_cons (E_nm c.hk 5) L_nil)) L_nil))) (by intro _ _; rfl)))
    (Ss_cons (S_set c rfl (by first | exact Or.inl rfl | exact Or.inr rfl) (E_cl c h_blocking_pairs hcl hr (L_cons (E_nm c.hk 2) (L_cons (E_nm c.hk 3) (L_cons (E_nm c.hk 4) (L_cons (E_callT c.hk cr_dictD (by rfl) T.f_dict (by rfl) (L_cons (E_nm c.hk 8) L_nil)) L_nil))))))
    (Ss_one (S_if (T_cmp (op_dne c.hk (hu70 hr)) (E_cl c h__law_plain hcl hr (L_cons (E_nm c.hk 9) L_nil)) (E_cl c h__law_plain hcl hr (L_cons (E_cl c h__law_blocking hcl hr (L_cons (E_nm c.hk 2) (L_cons (E_nm c.hk 3) (L_cons (E_nm c.hk 4) (L_cons (E_nm c.hk 8) L_nil))))) L_nil)) (by rfl)) (Ss_one (S_ret (E_bl c.hk))) Ss_nil)))))
    (Ss_cons (S_set c rfl (by first | exact Or.inl rfl | exact Or.inr rfl) (E_cl c h_stable_plan hcl hr (L_cons (E_nm c.hk 2) (L_cons (E_nm c.hk 3) (L_cons (E_nm c.hk 4) L_nil)))))
    (Ss_cons (S_set c rfl (by first | exact Or.inl rfl | exact Or.inr rfl) (E_cl c h_stable_for_slots hcl hr (L_cons (E_nm c.hk 2) (L_cons (E_nm c.hk 3) (L_cons (E_nm c.hk 4) L_nil)))))
    (Ss_cons (S_if (Tw_or (T_cmp (op_dne c.hk (hu70 hr)) (E_callT c.hk (cr_listD c.hk c.calm) (by rfl) T.f_list (by rfl) (L_cons (E_nm c.hk 10) L_nil)) (E_callB c.hk (cr_sortedD c.hk c.calm (hu70 hr)) (by rfl) T.f_sorted (by rfl) (L_cons (E_nm c.hk 10) L_nil)) (by rfl)) (Tw_or1 (T_cmp (op_dne c.hk (hu70 hr)) (E_callT c.hk (cr_listD c.hk c.calm) (by rfl) T.f_list (by rfl) (L_cons (E_nm c.hk 11) L_nil)) (E_callB c.hk (cr_sortedD c.hk c.calm (hu70 hr)) (by rfl) T.f_sorted (by rfl) (L_cons (E_nm c.hk 11) L_nil)) (by rfl)))).t (Ss_one (S_ret (E_bl c.hk))) Ss_nil)
    (Ss_cons (S_if (Tw_or (T_cmp (op_dne c.hk (hu70 hr)) (E_callB c.hk (cr_lenD c.hk) (by rfl) T.f_len (by rfl) (L_cons (E_lc c (IT_seq (E_nm c.hk 6)) (blkOk_by (N := ["script", "deck", "places", "wishes", "ranks", "plans", "stable", "turn", "plan", "told", "best", "worst", "some", "slot", "row", "wrong", "one", "two", "three", "order"]) (sc := defScope st_law) (own := [("plan", 8)]) (by decide +kernel)) (by decide) (fun s H C cl fp => (Tg_nm (c.blk s H _ _ fp).nd rfl (by first | exact Or.inl rfl | exact Or.inr rfl))) (fun s H C cl fp => (Ts_one (T_cmp (op_deq (c.blk s H _ _ fp).hk (hu70 hr)) (E_nm (c.blk s H _ _ fp).hk 8) (E_nm (c.blk s H _ _ fp).hk 10) (by rfl)))) (fun s H C cl fp => (E_nm (c.blk s H _ _ fp).hk 8))) L_nil)) (E_int c.hk) (by rfl)) (Tw_or1 (T_cmp (op_dne c.hk (hu70 hr)) (E_callB c.hk (cr_lenD c.hk) (by rfl) T.f_len (by rfl) (L_cons (E_lc c (IT_seq (E_nm c.hk 6)) (blkOk_by (N := ["script", "deck", "places", "wishes", "ranks", "plans", "stable", "turn", "plan", "told", "best", "worst", "some", "slot", "row", "wrong", "one", "two", "three", "order"]) (sc := defScope st_law) (own := [("plan", 8)]) (by decide +kernel)) (by decide) (fun s H C cl fp => (Tg_nm (c.blk s H _ _ fp).nd rfl (by first | exact Or.inl rfl | exact Or.inr rfl))) (fun s H C cl fp => (Ts_one (T_cmp (op_deq (c.blk s H _ _ fp).hk (hu70 hr)) (E_nm (c.blk s H _ _ fp).hk 8) (E_nm (c.blk s H _ _ fp).hk 11) (by rfl)))) (fun s H C cl fp => (E_nm (c.blk s H _ _ fp).hk 8))) L_nil)) (E_int c.hk) (by rfl)))).t (Ss_one (S_ret (E_bl c.hk))) Ss_nil)
    (Ss_cons (S_for c (IT_seq (E_nm c.hk 6)) (Tg_nm c.nd rfl (by first | exact Or.inl rfl | exact Or.inr rfl)) (Ss_cons (S_if (T_cmp (op_dne c.hk (hu70 hr)) (E_callB c.hk (cr_sortedD c.hk c.calm (hu70 hr)) (by rfl) T.f_sorted (by rfl) (L_cons (E_nm c.hk 8) L_nil)) (E_callB c.hk (cr_sortedD c.hk c.calm (hu70 hr)) (by rfl) T.f_sorted (by rfl) (L_cons (E_nm c.hk 10) L_nil)) (by rfl)) (Ss_one (S_ret (E_bl c.hk))) Ss_nil)
    (Ss_cons (S_setLcN c (IT_seq (E_tup c.hk (L_cons (E_nm c.hk 10) (L_cons (E_nm c.hk 8) (L_cons (E_nm c.hk 11) L_nil))))) (blkOk_by (N := ["script", "deck", "places", "wishes", "ranks", "plans", "stable", "turn", "plan", "told", "best", "worst", "some", "slot", "row", "wrong", "one", "two", "three", "order"]) (sc := defScope st_law) (own := [("one", 16)]) (by decide +kernel)) (by decide) (fun s H C cl fp => (Tg_nm (c.blk s H _ _ fp).nd rfl (by first | exact Or.inl rfl | exact Or.inr rfl))) (fun s H C cl fp => Ts_nil) (fun s H C cl fp => (E_cl (c.blk s H _ _ fp) h__law_places_of hcl hr (L_cons (E_nm (c.blk s H _ _ fp).hk 3) (L_cons (E_nm (c.blk s H _ _ fp).hk 16) L_nil)))))
    (Ss_cons (S_if (T_cmp op_gtD (E_callB c.hk (cr_lenD c.hk) (by rfl) T.f_len (by rfl) (L_cons (E_lc c (IT_zip3 c.hk T.f_zip (L_cons (E_ix (ix_sub c.hk (hu1 hr)) (E_nm c.hk 12) (E_int c.hk) (by intro _ _; rfl)) (L_cons (E_ix (ix_sub c.hk (hu1 hr)) (E_nm c.hk 12) (E_int c.hk) (by intro _ _; rfl)) (L_cons (E_ix (ix_sub c.hk (hu1 hr)) (E_nm c.hk 12) (E_int c.hk) (by intro _ _; rfl)) L_nil)))) (blkOk_by (N := ["script", "deck", "places", "wishes", "ranks", "plans", "stable", "turn", "plan", "told", "best", "worst", "some", "slot", "row", "wrong", "one", "two", "three", "order"]) (sc := defScope st_law) (own := [("one", 16), ("two", 17), ("three", 18)]) (by decide +kernel)) (by decide) (fun s H C cl fp => (Tg_tup (c.blk s H _ _ fp).hk (c.blk s H _ _ fp).calm (Tgs_cons (Tg_nm (c.blk s H _ _ fp).nd rfl (by first | exact Or.inl rfl | exact Or.inr rfl)) (Tgs_cons (Tg_nm (c.blk s H _ _ fp).nd rfl (by first | exact Or.inl rfl | exact Or.inr rfl)) (Tgs_cons (Tg_nm (c.blk s H _ _ fp).nd rfl (by first | exact Or.inl rfl | exact Or.inr rfl)) Tgs_nil))))) (fun s H C cl fp => (Ts_one (T_not (T_chain op_leD op_leD (E_nm (c.blk s H _ _ fp).hk 16) (E_nm (c.blk s H _ _ fp).hk 17) (E_nm (c.blk s H _ _ fp).hk 18))))) (fun s H C cl fp => (E_int (c.blk s H _ _ fp).hk))) L_nil)) (E_int c.hk) (by rfl)) (Ss_one (S_ret (E_bl c.hk))) Ss_nil)
    (Ss_one (S_for c (IT_seq (E_nm c.hk 2)) (Tg_nm c.nd rfl (by first | exact Or.inl rfl | exact Or.inr rfl)) (Ss_cons (S_set c rfl (by first | exact Or.inl rfl | exact Or.inr rfl) (E_callB c.hk (cr_sortedD c.hk c.calm (hu70 hr)) (by rfl) T.f_sorted (by rfl) (L_cons (E_lc c (IT_seq (E_nm c.hk 8)) (blkOk_by (N := ["script", "deck", "places", "wishes", "ranks", "plans", "stable", "turn", "plan", "told", "best", "worst", "some", "slot", "row", "wrong", "one", "two", "three", "order"]) (sc := defScope st_law) (own := [("order", 19)]) (by decide +kernel)) (by decide) (fun s H C cl fp => (Tg_nm (c.blk s H _ _ fp).nd rfl (by first | exact Or.inl rfl | exact Or.inr rfl))) (fun s H C cl fp => (Ts_one (T_cmp (op_deq (c.blk s H _ _ fp).hk (hu70 hr)) (E_ix (ix_sub (c.blk s H _ _ fp).hk (hu1 hr)) (E_nm (c.blk s H _ _ fp).hk 8) (E_nm (c.blk s H _ _ fp).hk 19) (by intro _ _; rfl)) (E_nm (c.blk s H _ _ fp).hk 13) (by rfl)))) (fun s H C cl fp => (E_nm (c.blk s H _ _ fp).hk 19))) L_nil)))
    (Ss_one (S_if (Tw_and (T_cmp op_ltD (E_callB c.hk (cr_lenD c.hk) (by rfl) T.f_len (by rfl) (L_cons (E_nm c.hk 14) L_nil)) (E_ix (ix_sub c.hk (hu1 hr)) (E_nm c.hk 2) (E_nm c.hk 13) (by intro _ _; rfl)) (by rfl)) (Tw_and1 (T_cmp (op_dne c.hk (hu70 hr)) (E_nm c.hk 14) (E_callB c.hk (cr_sortedD c.hk c.calm (hu70 hr)) (by rfl) T.f_sorted (by rfl) (L_cons (E_lc c (IT_seq (E_nm c.hk 10)) (blkOk_by (N := ["script", "deck", "places", "wishes", "ranks", "plans", "stable", "turn", "plan", "told", "best", "worst", "some", "slot", "row", "wrong", "one", "two", "three", "order"]) (sc := defScope st_law) (own := [("order", 19)]) (by decide +kernel)) (by decide) (fun s H C cl fp => (Tg_nm (c.blk s H _ _ fp).nd rfl (by first | exact Or.inl rfl | exact Or.inr rfl))) (fun s H C cl fp => (Ts_one (T_cmp (op_deq (c.blk s H _ _ fp).hk (hu70 hr)) (E_ix (ix_sub (c.blk s H _ _ fp).hk (hu1 hr)) (E_nm (c.blk s H _ _ fp).hk 10) (E_nm (c.blk s H _ _ fp).hk 19) (by intro _ _; rfl)) (E_nm (c.blk s H _ _ fp).hk 13) (by rfl)))) (fun s H C cl fp => (E_nm (c.blk s H _ _ fp).hk 19))) L_nil)) (by rfl)))).t (Ss_one (S_ret (E_bl c.hk))) Ss_nil)))))))))
    (Ss_cons (S_set c rfl (by first | exact Or.inl rfl | exact Or.inr rfl) (E_callT c.hk cr_dictD (by rfl) T.f_dict (by rfl) (L_cons (E_nm c.hk 4) L_nil)))
    (Ss_cons (S_put c (hu1 hr) 15 (E_bin (op_addD c.hk) (E_ix (ix_sub c.hk (hu1 hr)) (E_nm c.hk 4) (E_ix (ix_sub c.hk (hu1 hr)) (E_callB c.hk (cr_sortedD c.hk c.calm (hu70 hr)) (by rfl) T.f_sorted (by rfl) (L_cons (E_nm c.hk 2) L_nil)) (E_int c.hk) (by intro _ _; rfl)) (by intro _ _; rfl)) (E_lst c.hk (L_cons (E_str c.hk) L_nil))) (E_ix (ix_sub c.hk (hu1 hr)) (E_callB c.hk (cr_sortedD c.hk c.calm (hu70 hr)) (by rfl) T.f_sorted (by rfl) (L_cons (E_nm c.hk 2) L_nil)) (E_int c.hk) (by intro _ _; rfl)))
    (Ss_cons (S_if (T_cmp (op_dne c.hk (hu70 hr)) (E_cl c h__law_refusal hcl hr (L_cons (E_cl c h__law_take hcl hr (L_cons (E_nm c.hk 1) (L_cons (E_int c.hk) L_nil))) (L_cons (E_nm c.hk 2) (L_cons (E_nm c.hk 3) (L_cons (E_nm c.hk 15) (L_cons (E_newK c.hk) L_nil)))))) (E_tup c.hk (L_cons (E_str c.hk) (L_cons (E_str c.hk) L_nil))) (by rfl)) (Ss_one (S_ret (E_bl c.hk))) Ss_nil)
    (Ss_one (S_ret (E_cmp (op_deq c.hk (hu70 hr)) (E_cl c h__law_refusal hcl hr (L_cons (E_int c.hk) (L_cons (E_nm c.hk 2) (L_cons (E_nm c.hk 3) (L_cons (E_nm c.hk 4) (L_cons (E_disp1 (E_str c.hk) (E_str c.hk)) L_nil)))))) (E_tup c.hk (L_cons (E_str c.hk) (L_cons (E_str c.hk) L_nil))) (by rfl)))))))))))))))))))

end
end Lk75
/-! Serial dictatorship: what the law of one list of ranks reckons, in plain Lean. -/
namespace Sd
variable {O S : Type} [DecidableEq O] [DecidableEq S]
/-- how many of l have s -/
def cnt (m : O → Option S) (l : List O) (s : S) : Nat := (l.filter fun o => decide (m o = some s)).length
theorem cnt_append (m : O → Option S) (l r : List O) (s : S) : cnt m (l ++ r) s = cnt m l s + cnt m r s := by simp [cnt]
theorem cnt_cons (m : O → Option S) (o : O) (r : List O) (s : S) : cnt m (o :: r) s = (if m o = some s then 1 else 0) + cnt m r s := by
  unfold cnt
  by_cases h : m o = some s
  · simp [List.filter_cons, h]; omega
  · simp [List.filter_cons, h]
theorem cnt_congr {m p : O → Option S} {l : List O} (h : ∀ o ∈ l, m o = p o) (s : S) : cnt m l s = cnt p l s := by
  unfold cnt
  congr 1
  apply List.filter_congr
  intro o ho
  rw [h o ho]
/-- the place of x among o's wishes -/
def rk (W : O → List S) (o : O) : Option S → Nat
  | some s => (W o).idxOf s
  | none => (W o).length
/-- m gives the orders, in turn, the dearest slot with a free place -/
structure IsSD (cap : S → Nat) (W : O → List S) (first : List O) (m : O → Option S) : Prop where
  nd : first.Nodup
  turn : ∀ pre o post, first = pre ++ o :: post → m o = ((W o).filter fun s => decide (cnt m pre s < cap s)).head?
  off : ∀ o, o ∉ first → m o = none
variable {cap : S → Nat} {W : O → List S} {first : List O} {m p : O → Option S}
theorem filter_head_idx {l : List S} {f : S → Bool} {t : S} (h : (l.filter f).head? = some t) : t ∈ l ∧ f t = true ∧ ∀ s ∈ l, f s = true → l.idxOf t ≤ l.idxOf s := by
  induction l with
  | nil => cases h
  | cons a l ih =>
    by_cases e : f a = true
    · rw [List.filter_cons_of_pos e] at h
      cases h
      exact ⟨List.mem_cons_self, e, fun s _ _ => by simp [List.idxOf_cons]⟩
    · rw [List.filter_cons_of_neg e] at h
      obtain ⟨h1, h2, h3⟩ := ih h
      refine ⟨List.mem_cons_of_mem _ h1, h2, fun s hs fs => ?_⟩
      have ne : a ≠ s := fun z => e (z ▸ fs)
      have ne2 : a ≠ t := fun z => e (z ▸ h2)
      have hs' : s ∈ l := (List.mem_cons.mp hs).resolve_left fun z => ne z.symm
      have := h3 s hs' fs
      simp only [List.idxOf_cons, beq_eq_false_iff_ne.mpr ne, beq_eq_false_iff_ne.mpr ne2, cond_false]
      omega
theorem IsSD.some_ (h : IsSD cap W first m) {pre post : List O} {o : O} (e : first = pre ++ o :: post) {t : S} (ht : m o = some t) : t ∈ W o ∧ cnt m pre t < cap t := by
  rw [h.turn pre o post e] at ht
  obtain ⟨h1, h2, _⟩ := filter_head_idx ht
  exact ⟨h1, of_decide_eq_true h2⟩
/-- what is dearer was full -/
theorem IsSD.full (h : IsSD cap W first m) {pre post : List O} {o : O} (e : first = pre ++ o :: post) {s : S} (hs : s ∈ W o) (hr : (W o).idxOf s < rk W o (m o)) : cap s ≤ cnt m pre s := by
  have q := h.turn pre o post e
  by_cases z : cnt m pre s < cap s
  · exfalso
    cases ht : m o with
    | none =>
      rw [ht] at q
      have : s ∈ (W o).filter fun s => decide (cnt m pre s < cap s) := List.mem_filter.mpr ⟨hs, decide_eq_true z⟩
      rw [List.head?_eq_none_iff.mp q.symm] at this
      cases this
    | some t =>
      rw [ht] at q hr
      have := (filter_head_idx q.symm).2.2 s hs (decide_eq_true z)
      simp only [rk] at hr
      omega
  · omega
/-- what was free is not dearer than what was given -/
theorem IsSD.free (h : IsSD cap W first m) {pre post : List O} {o : O} (e : first = pre ++ o :: post) {s : S} (hs : s ∈ W o) (hz : cnt m pre s < cap s) : rk W o (m o) ≤ (W o).idxOf s := by
  by_cases z : (W o).idxOf s < rk W o (m o)
  · have := h.full e hs z; omega
  · omega
theorem rk_lt {o : O} {s : S} (h : s ∈ W o) : rk W o (some s) < (W o).length := List.idxOf_lt_length_of_mem h
theorem rk_inj (nW : (W o).Nodup) {o : O} {s t : S} (hs : s ∈ W o) (e : (W o).idxOf s = (W o).idxOf t) : s = t := by
  have h1 : (W o).idxOf s < (W o).length := List.idxOf_lt_length_of_mem hs
  have h2 : (W o).idxOf t < (W o).length := by omega
  have a1 := List.getElem_idxOf h1
  have a2 := List.getElem_idxOf h2
  rw [← a1, ← a2]
  congr 1
theorem prefix_le {pre post : List O} {o : O} (e : first = pre ++ o :: post) (m : O → Option S) (s : S) : cnt m pre s + (if m o = some s then 1 else 0) ≤ cnt m first s := by
  rw [e, cnt_append, cnt_cons]; omega
theorem split_of_mem {o : O} (h : o ∈ first) : ∃ pre post, first = pre ++ o :: post := by
  obtain ⟨a, b, e⟩ := List.append_of_mem h
  exact ⟨a, b, e⟩
/-- an induction along the list -/
theorem along {Q : O → Prop} (h : ∀ pre o post, first = pre ++ o :: post → (∀ y ∈ pre, Q y) → Q o) : ∀ o ∈ first, Q o := by
  have key : ∀ n, ∀ pre post : List O, pre.length = n → first = pre ++ post → ∀ y ∈ pre, Q y := by
    intro n
    induction n with
    | zero =>
      intro pre post hl _ y hy
      rw [List.length_eq_zero_iff.mp hl] at hy
      cases hy
    | succ n ih =>
      intro pre post hl e y hy
      have hne : pre ≠ [] := by intro z; rw [z] at hl; cases hl
      obtain ⟨q, x, rfl⟩ : ∃ q x, pre = q ++ [x] := ⟨pre.dropLast, pre.getLast hne, (List.dropLast_concat_getLast hne).symm⟩
      have e' : first = q ++ x :: post := by rw [e]; simp
      have hq := ih q (x :: post) (by simpa using hl) e'
      rcases List.mem_append.mp hy with w | w
      · exact hq y w
      · rw [List.mem_singleton.mp w]
        exact h q x post e' hq
  exact key first.length first [] rfl (by simp)
/-- a plan within the places that is as dear to all is the one in turn -/
theorem IsSD.eq_of_le (h : IsSD cap W first m) (nW : ∀ o, (W o).Nodup) (hc : ∀ s, cnt p first s ≤ cap s) (hw : ∀ o ∈ first, ∀ s, p o = some s → s ∈ W o) (hle : ∀ o ∈ first, rk W o (p o) ≤ rk W o (m o)) : ∀ o ∈ first, p o = m o := by
  refine along fun pre o post e ih => ?_
  have ho : o ∈ first := by rw [e]; simp
  have hr := hle o ho
  cases hp : p o with
  | none =>
    cases hm : m o with
    | none => rfl
    | some t =>
      rw [hp, hm] at hr
      have := rk_lt (h.some_ e hm).1
      simp only [rk] at hr this
      omega
  | some s =>
    rw [hp] at hr
    have hs := hw o ho s hp
    by_cases z : (W o).idxOf s < rk W o (m o)
    · have f := h.full e hs z
      rw [cnt_congr (p := p) (fun y hy => (ih y hy).symm)] at f
      have := prefix_le e p s
      rw [if_pos hp] at this
      have := hc s
      omega
    · cases hm : m o with
      | none =>
        rw [hm] at hr z
        have h1 := rk_lt hs
        have h2 : ¬ (W o).idxOf s < (W o).length := z
        exact absurd h1 h2
      | some t =>
        rw [hm] at hr z
        have h1 : (W o).idxOf s ≤ (W o).idxOf t := hr
        have h2 : ¬ (W o).idxOf s < (W o).idxOf t := z
        have h3 : s = t := rk_inj (nW o) hs (by omega)
        rw [h3]
theorem IsSD.cap_le (h : IsSD cap W first m) (s : S) : cnt m first s ≤ cap s := by
  have key : ∀ n, ∀ pre post : List O, pre.length = n → first = pre ++ post → cnt m pre s ≤ cap s := by
    intro n
    induction n with
    | zero =>
      intro pre post hl _
      rw [List.length_eq_zero_iff.mp hl]
      simp [cnt]
    | succ n ih =>
      intro pre post hl e
      have hne : pre ≠ [] := by intro z; rw [z] at hl; cases hl
      obtain ⟨q, x, rfl⟩ : ∃ q x, pre = q ++ [x] := ⟨pre.dropLast, pre.getLast hne, (List.dropLast_concat_getLast hne).symm⟩
      have e' : first = q ++ x :: post := by rw [e]; simp
      have hq := ih q (x :: post) (by simpa using hl) e'
      rw [cnt_append, cnt_cons]
      split
      · rename_i hx
        have := (h.some_ e' hx).2
        simp [cnt] at *
        omega
      · simp [cnt] at *
        omega
  exact key first.length first [] rfl (by simp)
end Sd
namespace Sd
variable {O S : Type} [DecidableEq O] [DecidableEq S] {cap : S → Nat} {W : O → List S} {first : List O} {m p : O → Option S}
theorem idx_split {pre post : List O} {o : O} (nd : first.Nodup) (e : first = pre ++ o :: post) : first.idxOf o = pre.length := by
  have no : o ∉ pre := by
    intro h
    rw [e] at nd
    exact (List.nodup_append.mp nd).2.2 o h o List.mem_cons_self rfl
  rw [e, List.idxOf_append, if_neg no]
  simp [List.idxOf_cons]
theorem before_iff {pre post : List O} {o y : O} (nd : first.Nodup) (e : first = pre ++ o :: post) (hy : y ∈ first) : first.idxOf y < first.idxOf o ↔ y ∈ pre := by
  rw [idx_split nd e]
  constructor
  · intro h
    by_cases z : y ∈ pre
    · exact z
    · rw [e, List.idxOf_append, if_neg z] at h
      omega
  · intro h
    rw [e, List.idxOf_append, if_pos h]
    exact List.idxOf_lt_length_of_mem h
theorem behind_iff {pre post : List O} {o y : O} (nd : first.Nodup) (e : first = pre ++ o :: post) (hy : y ∈ first) : first.idxOf o < first.idxOf y ↔ y ∈ post := by
  constructor
  · intro h
    have h1 : y ∉ pre := fun z => by
      have := (before_iff nd e hy).mpr z
      omega
    have h2 : y ≠ o := fun z => by rw [z] at h; omega
    rw [e] at hy
    rcases List.mem_append.mp hy with w | w
    · exact absurd w h1
    · exact (List.mem_cons.mp w).resolve_left h2
  · intro h
    have nd' := nd
    rw [e] at nd'
    obtain ⟨_, n2, n3⟩ := List.nodup_append.mp nd'
    have h1 : y ∉ pre := fun z => n3 y z y (List.mem_cons_of_mem _ h) rfl
    have h2 : y ≠ o := fun z => (List.nodup_cons.mp n2).1 (z ▸ h)
    rw [idx_split nd e, e, List.idxOf_append, if_neg h1, List.idxOf_cons]
    simp [beq_eq_false_iff_ne.mpr h2.symm]
theorem cnt_pos {l : List O} {s : S} {y : O} (h : y ∈ l) (e : m y = some s) : 1 ≤ cnt m l s := by
  unfold cnt
  exact List.length_pos_of_mem (List.mem_filter.mpr ⟨h, decide_eq_true e⟩)
theorem cnt_zero {l : List O} {s : S} (h : ∀ y ∈ l, m y ≠ some s) : cnt m l s = 0 := by
  unfold cnt
  rw [List.length_eq_zero_iff, List.filter_eq_nil_iff]
  intro y hy
  simpa using h y hy
/-- o and s would rather have each other -/
def Blocks (cap : S → Nat) (W : O → List S) (first : List O) (p : O → Option S) (o : O) (s : S) : Prop :=
  (W o).idxOf s < rk W o (p o) ∧ (cnt p first s < cap s ∨ ∃ y ∈ first, p y = some s ∧ first.idxOf o < first.idxOf y)
/-- the plan in turn is the one without such pairs -/
theorem IsSD.stable_iff (h : IsSD cap W first m) (nW : ∀ o, (W o).Nodup) (hc : ∀ s, cnt p first s ≤ cap s) (hw : ∀ o ∈ first, ∀ s, p o = some s → s ∈ W o) :
    (∀ o ∈ first, ∀ s ∈ W o, ¬ Blocks cap W first p o s) ↔ ∀ o ∈ first, p o = m o := by
  constructor
  · intro nb
    refine along fun pre o post e ih => ?_
    have ho : o ∈ first := by rw [e]; simp
    have hcp : ∀ s, cnt m pre s = cnt p pre s := fun s => cnt_congr (fun y hy => (ih y hy).symm) s
    rcases Nat.lt_trichotomy (rk W o (p o)) (rk W o (m o)) with z | z | z
    · exfalso
      cases hp : p o with
      | none =>
        rw [hp] at z
        have z' : (W o).length < rk W o (m o) := z
        cases hm : m o with
        | none => rw [hm] at z'; exact absurd z' (Nat.lt_irrefl _)
        | some t =>
          rw [hm] at z'
          have := rk_lt (h.some_ e hm).1
          omega
      | some s =>
        rw [hp] at z
        have f := h.full e (hw o ho s hp) z
        rw [hcp] at f
        have q := prefix_le e p s
        rw [if_pos hp] at q
        have := hc s
        omega
    · cases hp : p o with
      | none =>
        rw [hp] at z
        cases hm : m o with
        | none => rfl
        | some t =>
          rw [hm] at z
          have := rk_lt (h.some_ e hm).1
          have z' : (W o).length = rk W o (some t) := z
          omega
      | some s =>
        rw [hp] at z
        have hs := hw o ho s hp
        cases hm : m o with
        | none =>
          rw [hm] at z
          have := rk_lt (W := W) hs
          have z' : rk W o (some s) = (W o).length := z
          omega
        | some t =>
          rw [hm] at z
          have h3 : s = t := rk_inj (nW o) hs z
          rw [h3]
    · exfalso
      cases hm : m o with
      | none =>
        rw [hm] at z
        have z' : (W o).length < rk W o (p o) := z
        cases hp : p o with
        | none => rw [hp] at z'; exact absurd z' (Nat.lt_irrefl _)
        | some s =>
          rw [hp] at z'
          have := rk_lt (W := W) (hw o ho s hp)
          omega
      | some t =>
        rw [hm] at z
        obtain ⟨ht, hlt⟩ := h.some_ e hm
        refine nb o ho t ht ⟨z, ?_⟩
        by_cases w : cnt p first t < cap t
        · exact .inl w
        · refine .inr ?_
          by_cases ex : ∃ y ∈ post, p y = some t
          · obtain ⟨y, hy, ey⟩ := ex
            have hyf : y ∈ first := by rw [e]; simp [hy]
            exact ⟨y, hyf, ey, (behind_iff h.nd e hyf).mpr hy⟩
          · exfalso
            have po : p o ≠ some t := fun q => by rw [q] at z; exact absurd z (Nat.lt_irrefl _)
            have c0 : cnt p (o :: post) t = 0 := cnt_zero fun y hy => by
              rcases List.mem_cons.mp hy with q | q
              · rw [q]; exact po
              · exact fun q2 => ex ⟨y, q, q2⟩
            have : cnt p first t = cnt p pre t := by rw [e, cnt_append, c0, Nat.add_zero]
            rw [hcp] at hlt
            omega
  · intro eq o ho s hs ⟨hlt, hb⟩
    obtain ⟨pre, post, e⟩ := split_of_mem ho
    rw [eq o ho] at hlt
    have f := h.full e hs hlt
    have cl := h.cap_le s
    have ce : cnt p first s = cnt m first s := cnt_congr eq s
    have q := prefix_le e m s
    rcases hb with hb | ⟨y, hy, ey, hyo⟩
    · omega
    · have hp := (behind_iff h.nd e hy).mp hyo
      have e1 : m y = some s := by rw [← eq y hy]; exact ey
      have : cnt m first s = cnt m pre s + cnt m (o :: post) s := by
        have : cnt m first s = cnt m (pre ++ o :: post) s := by rw [← e]
        rw [this, cnt_append]
      have := cnt_pos (l := o :: post) (List.mem_cons_of_mem _ hp) e1
      omega
end Sd
/-! Stable plans, many orders to a slot, any ranks. -/
namespace Gs
open Sd
variable {O S : Type} [DecidableEq O] [DecidableEq S]
/-- what is given -/
structure Given (cap : S → Nat) (W : O → List S) (L : List O) (Rk : S → List O) : Prop where
  nW : ∀ o, (W o).Nodup
  nL : L.Nodup
  nR : ∀ s, (Rk s).Nodup
  rk : ∀ o ∈ L, ∀ s ∈ W o, o ∈ Rk s
  rm : ∀ s, ∀ o ∈ Rk s, o ∈ L ∧ s ∈ W o
structure Plan (cap : S → Nat) (W : O → List S) (L : List O) (p : O → Option S) : Prop where
  wish : ∀ o ∈ L, ∀ s, p o = some s → s ∈ W o
  lim : ∀ s, cnt p L s ≤ cap s
  off : ∀ o, o ∉ L → p o = none
def Blk (cap : S → Nat) (W : O → List S) (L : List O) (Rk : S → List O) (p : O → Option S) (o : O) (s : S) : Prop :=
  (W o).idxOf s < Sd.rk W o (p o) ∧ (cnt p L s < cap s ∨ ∃ y ∈ L, p y = some s ∧ (Rk s).idxOf o < (Rk s).idxOf y)
structure Stable (cap : S → Nat) (W : O → List S) (L : List O) (Rk : S → List O) (p : O → Option S) : Prop extends Plan cap W L p where
  nb : ∀ o ∈ L, ∀ s ∈ W o, ¬ Blk cap W L Rk p o s
variable {cap : S → Nat} {W : O → List S} {L : List O} {Rk : S → List O} {m p : O → Option S} {asked : O → Nat}
/-- what does not block: the slot is full of orders ahead in its ranks -/
theorem Stable.full (h : Stable cap W L Rk m) {o : O} {s : S} (ho : o ∈ L) (hs : s ∈ W o) (hr : (W o).idxOf s < Sd.rk W o (m o)) : cap s ≤ cnt m L s ∧ ∀ y ∈ L, m y = some s → (Rk s).idxOf y ≤ (Rk s).idxOf o := by
  have q := h.nb o ho s hs
  refine ⟨?_, fun y hy e => ?_⟩
  · by_cases z : cnt m L s < cap s
    · exact absurd ⟨hr, .inl z⟩ q
    · omega
  · by_cases z : (Rk s).idxOf o < (Rk s).idxOf y
    · exact absurd ⟨hr, .inr ⟨y, hy, e, z⟩⟩ q
    · omega
theorem idx_inj {l : List O} {x y : O} (hx : x ∈ l) (e : l.idxOf x = l.idxOf y) : x = y := by
  have h := List.idxOf_lt_length_of_mem hx
  have h1 : l[l.idxOf x]? = some x := by rw [List.getElem?_eq_getElem h, List.getElem_idxOf]
  have h' : l.idxOf y < l.length := by omega
  have h2 : l[l.idxOf y]? = some y := by rw [List.getElem?_eq_getElem h', List.getElem_idxOf]
  rw [e, h2] at h1
  exact (Option.some.inj h1).symm
theorem nodup_sub_le : ∀ {l k : List O}, l.Nodup → (∀ x ∈ l, x ∈ k) → l.length ≤ k.length
  | [], _, _, _ => by simp
  | a :: l, k, h, hs => by
    obtain ⟨h1, h2⟩ := List.nodup_cons.mp h
    have ha := hs a List.mem_cons_self
    have := nodup_sub_le (k := k.erase a) h2 fun x hx => by
      have ne : x ≠ a := fun z => h1 (z ▸ hx)
      exact (List.mem_erase_of_ne ne).mpr (hs x (List.mem_cons_of_mem _ hx))
    rw [List.length_erase_of_mem ha] at this
    have : 0 < k.length := List.length_pos_of_mem ha
    simp only [List.length_cons]
    omega
theorem cnt_lt {p q : O → Option S} {l : List O} {s : S} (nl : l.Nodup) (h : ∀ o ∈ l, p o = some s → q o = some s) {x : O} (hx : x ∈ l) (qx : q x = some s) (px : p x ≠ some s) : cnt p l s < cnt q l s := by
  unfold cnt
  have sub : ∀ y ∈ x :: l.filter (fun o => decide (p o = some s)), y ∈ l.filter fun o => decide (q o = some s) := fun y hy => by
    rcases List.mem_cons.mp hy with rfl | hy
    · exact List.mem_filter.mpr ⟨hx, decide_eq_true qx⟩
    · obtain ⟨h1, h2⟩ := List.mem_filter.mp hy
      exact List.mem_filter.mpr ⟨h1, decide_eq_true (h y h1 (of_decide_eq_true h2))⟩
  have nd : (x :: l.filter (fun o => decide (p o = some s))).Nodup := List.nodup_cons.mpr ⟨fun z => px (of_decide_eq_true (List.mem_filter.mp z).2), nl.filter _⟩
  have := nodup_sub_le nd sub
  simp only [List.length_cons] at this
  omega
theorem cnt_le {p q : O → Option S} {l : List O} {s : S} (h : ∀ o ∈ l, p o = some s → q o = some s) : cnt p l s ≤ cnt q l s := by
  unfold cnt
  rw [← List.countP_eq_length_filter, ← List.countP_eq_length_filter]
  exact List.countP_mono_left fun o ho e => decide_eq_true (h o ho (of_decide_eq_true e))
/-- more in q than in p: somebody -/
theorem cnt_more {p q : O → Option S} {l : List O} {s : S} (h : cnt p l s < cnt q l s) : ∃ y ∈ l, q y = some s ∧ p y ≠ some s := by
  by_cases z : ∃ y ∈ l, q y = some s ∧ p y ≠ some s
  · exact z
  · exfalso
    have := cnt_le (p := q) (q := p) (l := l) (s := s) fun o ho e => by
      by_cases w : p o = some s
      · exact w
      · exact absurd ⟨o, ho, e, w⟩ z
    omega
/-! ### orders propose -/
structure OI (W : O → List S) (L : List O) (m : O → Option S) (asked : O → Nat) (p : O → Option S) : Prop where
  bound : ∀ o ∈ L, asked o ≤ Sd.rk W o (m o) ∨ (asked o = Sd.rk W o (m o) + 1 ∧ p o = m o)
structure OB (W : O → List S) (L : List O) (asked : O → Nat) (p : O → Option S) : Prop where
  le : ∀ o ∈ L, asked o ≤ (W o).length
  has : ∀ o ∈ L, ∀ s, p o = some s → 0 < asked o ∧ (W o)[asked o - 1]? = some s
theorem idx_get {l : List S} (nl : l.Nodup) {k : Nat} {s : S} (h : l[k]? = some s) : l.idxOf s = k := by
  obtain ⟨h1, h2⟩ := List.getElem?_eq_some_iff.mp h
  rw [← h2]
  exact nl.idxOf_getElem k h1
theorem OB.ask (I : OB W L asked p) {o : O} {s : S} (hs : (W o)[asked o]? = some s) : OB W L (fun y => if y = o then asked o + 1 else asked y) (fun y => if y = o then some s else p y) := by
  obtain ⟨h1, h2⟩ := List.getElem?_eq_some_iff.mp hs
  refine ⟨fun y hy => ?_, fun y hy t e => ?_⟩
  · by_cases z : y = o
    · subst z; simp only [if_true]; omega
    · simp only [if_neg z]; exact I.le y hy
  · by_cases z : y = o
    · subst z
      simp only [if_true] at e ⊢
      cases e
      exact ⟨by omega, by simpa using hs⟩
    · simp only [if_neg z] at e ⊢
      exact I.has y hy t e
theorem OB.drop (I : OB W L asked p) {x : O} : OB W L asked (fun y => if y = x then none else p y) := by
  refine ⟨I.le, fun y hy t e => ?_⟩
  by_cases z : y = x
  · simp only [if_pos z] at e; cases e
  · simp only [if_neg z] at e; exact I.has y hy t e
theorem OI.ask (I : OI W L m asked p) (g : Given cap W L Rk) (hm : Plan cap W L m) {o : O} (ho : o ∈ L) (po : p o = none) {s : S} (hs : (W o)[asked o]? = some s) :
    OI W L m (fun y => if y = o then asked o + 1 else asked y) (fun y => if y = o then some s else p y) := by
  obtain ⟨h1, h2⟩ := List.getElem?_eq_some_iff.mp hs
  have hi := idx_get (g.nW o) hs
  refine ⟨fun y hy => ?_⟩
  by_cases z : y = o
  · subst z
    simp only [if_true]
    have b : asked y ≤ Sd.rk W y (m y) := by
      rcases I.bound y hy with q | ⟨q1, q2⟩
      · exact q
      · rw [po] at q2
        rw [← q2] at q1
        simp only [Sd.rk] at q1
        omega
    by_cases w : asked y + 1 ≤ Sd.rk W y (m y)
    · exact .inl w
    · refine .inr ⟨by omega, ?_⟩
      have e : asked y = Sd.rk W y (m y) := by omega
      cases hmy : m y with
      | none => rw [hmy] at e; simp only [Sd.rk] at e; omega
      | some t =>
        rw [hmy] at e
        simp only [Sd.rk] at e
        have ht := hm.wish y hy t hmy
        have h3 := List.idxOf_lt_length_of_mem ht
        have h4 : (W y)[(W y).idxOf t]? = some t := by rw [List.getElem?_eq_getElem h3, List.getElem_idxOf]
        rw [← e, hs] at h4
        exact h4
  · simp only [if_neg z]; exact I.bound y hy
theorem OI.drop (I : OI W L m asked p) (B : OB W L asked p) (g : Given cap W L Rk) (hm : Stable cap W L Rk m) {x : O} (hx : x ∈ L) {s : S} (px : p x = some s) (hsx : s ∈ W x) (hc : cap s < cnt p L s) (hw : ∀ y ∈ L, p y = some s → (Rk s).idxOf y ≤ (Rk s).idxOf x) :
    OI W L m asked (fun y => if y = x then none else p y) := by
  refine ⟨fun y hy => ?_⟩
  by_cases z : y = x
  · subst z
    rcases I.bound y hy with b | ⟨b1, b2⟩
    · exact .inl b
    · exfalso
      rw [px] at b2
      have := hm.lim s
      obtain ⟨u, hu, pu, mu⟩ := cnt_more (p := m) (q := p) (l := L) (s := s) (by omega)
      have uy : u ≠ y := fun e => mu (e ▸ b2.symm)
      obtain ⟨a1, a2⟩ := B.has u hu s pu
      have hsu : s ∈ W u := List.mem_of_getElem? a2
      have hi := idx_get (g.nW u) a2
      have hlt : (W u).idxOf s < Sd.rk W u (m u) := by
        rcases I.bound u hu with c | ⟨c1, c2⟩
        · omega
        · exact absurd (c2 ▸ pu) mu
      have f := (hm.full hu hsu hlt).2 y hy b2.symm
      have f2 := hw u hu pu
      exact uy (idx_inj (g.rk u hu s hsu) (by omega))
  · simp only [if_neg z]; exact I.bound y hy
/-- none is turned away unless the slot is full of orders ahead of it -/
def RJ (cap : S → Nat) (W : O → List S) (L : List O) (Rk : S → List O) (asked : O → Nat) (p : O → Option S) : Prop :=
  ∀ o ∈ L, ∀ s ∈ W o, (W o).idxOf s < asked o → p o = some s ∨ (cap s ≤ cnt p L s ∧ ∀ y ∈ L, p y = some s → (Rk s).idxOf y < (Rk s).idxOf o)
theorem OI.best (I : OI W L m asked p) (B : OB W L asked p) (g : Given cap W L Rk) (hd : ∀ o ∈ L, p o = none → asked o = (W o).length) : ∀ o ∈ L, Sd.rk W o (p o) ≤ Sd.rk W o (m o) := fun o ho => by
  cases hp : p o with
  | none =>
    have := hd o ho hp
    rcases I.bound o ho with b | ⟨b1, b2⟩
    · show (W o).length ≤ _; omega
    · rw [hp] at b2; rw [← b2]; exact Nat.le_refl _
  | some s =>
    obtain ⟨a1, a2⟩ := B.has o ho s hp
    have hi := idx_get (g.nW o) a2
    rcases I.bound o ho with b | ⟨b1, b2⟩
    · show (W o).idxOf s ≤ _; omega
    · rw [hp] at b2; rw [← b2]; exact Nat.le_refl _
theorem RJ.stable (R : RJ cap W L Rk asked p) (B : OB W L asked p) (g : Given cap W L Rk) (hc : ∀ s, cnt p L s ≤ cap s) (off : ∀ o, o ∉ L → p o = none) (hd : ∀ o ∈ L, p o = none → asked o = (W o).length) : Stable cap W L Rk p := by
  refine ⟨⟨fun o ho s e => List.mem_of_getElem? (B.has o ho s e).2, hc, off⟩, fun o ho s hs ⟨b1, b2⟩ => ?_⟩
  have ha : (W o).idxOf s < asked o := by
    cases hp : p o with
    | none => rw [hd o ho hp]; exact List.idxOf_lt_length_of_mem hs
    | some t =>
      rw [hp] at b1
      obtain ⟨a1, a2⟩ := B.has o ho t hp
      have hi := idx_get (g.nW o) a2
      simp only [Sd.rk] at b1
      omega
  rcases R o ho s hs ha with e | ⟨e1, e2⟩
  · rw [e] at b1
    simp only [Sd.rk] at b1
    omega
  · rcases b2 with b2 | ⟨y, hy, py, lt⟩
    · omega
    · have := e2 y hy py
      omega
end Gs
namespace Gs
open Sd
variable {O S : Type} [DecidableEq O] [DecidableEq S] {cap : S → Nat} {W : O → List S} {L : List O} {Rk : S → List O} {m p : O → Option S}
abbrev put (p : O → Option S) (o : O) (s : S) : O → Option S := fun y => if y = o then some s else p y
abbrev dropO (p : O → Option S) (x : O) : O → Option S := fun y => if y = x then none else p y
abbrev bumpN {A : Type} [DecidableEq A] (asked : A → Nat) (o : A) : A → Nat := fun y => if y = o then asked o + 1 else asked y
theorem cnt_put_le {o : O} {s : S} (nL : L.Nodup) (t : S) : cnt (put p o s) L t ≤ cnt p L t + if s = t then 1 else 0 := by
  by_cases e : s = t
  · subst e
    rw [if_pos rfl]
    unfold cnt
    have := nodup_sub_le (l := L.filter fun y => decide (put p o s y = some s)) (k := o :: L.filter fun y => decide (p y = some s)) (nL.filter _) fun y hy => by
      obtain ⟨h1, h2⟩ := List.mem_filter.mp hy
      by_cases z : y = o
      · subst z; exact List.mem_cons_self
      · have h2 := of_decide_eq_true h2
        simp only [put, if_neg z] at h2
        exact List.mem_cons_of_mem _ (List.mem_filter.mpr ⟨h1, decide_eq_true h2⟩)
    simpa using this
  · rw [if_neg e, Nat.add_zero]
    refine cnt_le fun y hy q => ?_
    by_cases z : y = o
    · simp only [put, if_pos z] at q; exact absurd (Option.some.inj q) e
    · simpa only [put, if_neg z] using q
theorem cnt_put_ge {o : O} {s : S} (po : p o = none) (t : S) : cnt p L t ≤ cnt (put p o s) L t := cnt_le fun y hy q => by
  by_cases z : y = o
  · subst z; rw [po] at q; cases q
  · simpa only [put, if_neg z] using q
theorem cnt_drop_same {x : O} {s t : S} (px : p x = some s) (h : s ≠ t) : cnt (dropO p x) L t = cnt p L t := by
  refine Nat.le_antisymm (cnt_le fun y hy q => ?_) (cnt_le fun y hy q => ?_)
  · by_cases z : y = x
    · simp only [dropO, if_pos z] at q; cases q
    · simpa only [dropO, if_neg z] using q
  · by_cases z : y = x
    · subst z; rw [px] at q; exact absurd (Option.some.inj q) h
    · simpa only [dropO, if_neg z] using q
theorem cnt_drop_ge {x : O} {s : S} (nL : L.Nodup) : cnt p L s ≤ cnt (dropO p x) L s + 1 := by
  unfold cnt
  have := nodup_sub_le (l := L.filter fun y => decide (p y = some s)) (k := x :: L.filter fun y => decide (dropO p x y = some s)) (nL.filter _) fun y hy => by
    obtain ⟨h1, h2⟩ := List.mem_filter.mp hy
    by_cases z : y = x
    · subst z; exact List.mem_cons_self
    · refine List.mem_cons_of_mem _ (List.mem_filter.mpr ⟨h1, ?_⟩)
      simpa only [dropO, if_neg z] using h2
  simpa using this
theorem cnt_drop_lt {x : O} {s : S} (nL : L.Nodup) (hx : x ∈ L) (px : p x = some s) : cnt (dropO p x) L s < cnt p L s := by
  refine cnt_lt nL (fun y hy q => ?_) hx px (by simp [dropO])
  by_cases z : y = x
  · simp only [dropO, if_pos z] at q; cases q
  · simpa only [dropO, if_neg z] using q
section
variable {asked : O → Nat}
/-- other slots than the asked one -/
theorem RJ.other (R : RJ cap W L Rk asked p) (g : Given cap W L Rk) {o : O} (po : p o = none) {s : S} (hs : (W o)[asked o]? = some s) {o' : O} (ho' : o' ∈ L) {s' : S} (hs' : s' ∈ W o') (ne : s' ≠ s) (ha : (W o').idxOf s' < bumpN asked o o') :
    put p o s o' = some s' ∨ (cap s' ≤ cnt (put p o s) L s' ∧ ∀ y ∈ L, put p o s y = some s' → (Rk s').idxOf y < (Rk s').idxOf o') := by
  have ha' : (W o').idxOf s' < asked o' := by
    by_cases z : o' = o
    · subst z
      simp only [bumpN, if_true] at ha
      have : (W o').idxOf s' ≠ asked o' := fun e => by
        have h := List.idxOf_lt_length_of_mem hs'
        have : (W o')[(W o').idxOf s']? = some s' := by rw [List.getElem?_eq_getElem h, List.getElem_idxOf]
        rw [e, hs] at this
        exact ne (Option.some.inj this).symm
      omega
    · simpa only [bumpN, if_neg z] using ha
  rcases R o' ho' s' hs' ha' with e | ⟨e1, e2⟩
  · left
    by_cases z : o' = o
    · subst z; rw [po] at e; cases e
    · simpa only [put, if_neg z] using e
  · refine .inr ⟨Nat.le_trans e1 (cnt_put_ge po s'), fun y hy q => ?_⟩
    by_cases z : y = o
    · simp only [put, if_pos z] at q; exact absurd (Option.some.inj q).symm ne
    · simp only [put, if_neg z] at q; exact e2 y hy q
theorem RJ.keep (R : RJ cap W L Rk asked p) (g : Given cap W L Rk) {o : O} (ho : o ∈ L) (po : p o = none) {s : S} (hs : (W o)[asked o]? = some s) (hc : cnt (put p o s) L s ≤ cap s) : RJ cap W L Rk (bumpN asked o) (put p o s) := by
  intro o' ho' s' hs' ha
  by_cases ne : s' = s
  · subst ne
    left
    by_cases z : o' = o
    · simp [put, z]
    · simp only [bumpN, if_neg z] at ha
      rcases R o' ho' s' hs' ha with e | ⟨e1, e2⟩
      · simpa only [put, if_neg z] using e
      · exfalso
        have : cnt p L s' < cnt (put p o s') L s' := by
          refine cnt_lt g.nL (fun y hy q => ?_) ho (by simp [put]) (by rw [po]; simp)
          by_cases w : y = o
          · subst w; rw [po] at q; cases q
          · simpa only [put, if_neg w] using q
        omega
  · exact R.other g po hs ho' hs' ne ha
theorem RJ.drop (R : RJ cap W L Rk asked p) (g : Given cap W L Rk) {o : O} (ho : o ∈ L) (po : p o = none) {s : S} (hs : (W o)[asked o]? = some s) {x : O} (hx : x ∈ L) (px : put p o s x = some s) (hc : cap s < cnt (put p o s) L s)
    (hw : ∀ y ∈ L, put p o s y = some s → (Rk s).idxOf y ≤ (Rk s).idxOf x) (wx : s ∈ W x) (wp : ∀ y ∈ L, ∀ t, put p o s y = some t → t ∈ W y) : RJ cap W L Rk (bumpN asked o) (dropO (put p o s) x) := by
  intro o' ho' s' hs' ha
  by_cases ne : s' = s
  · subst ne
    have strict : ∀ y ∈ L, dropO (put p o s') x y = some s' → y ≠ x ∧ put p o s' y = some s' ∧ (Rk s').idxOf y < (Rk s').idxOf x := fun y hy q => by
      by_cases z : y = x
      · simp only [dropO, if_pos z] at q; cases q
      · simp only [dropO, if_neg z] at q
        have le := hw y hy q
        refine ⟨z, q, ?_⟩
        have : (Rk s').idxOf y ≠ (Rk s').idxOf x := fun e => z (idx_inj (g.rk y hy s' (wp y hy s' q)) e)
        omega
    have full : cap s' ≤ cnt (dropO (put p o s') x) L s' := by
      have := cnt_drop_ge (p := put p o s') (x := x) (s := s') g.nL
      omega
    by_cases z : o' = x
    · subst z
      exact .inr ⟨full, fun y hy q => (strict y hy q).2.2⟩
    · by_cases w : put p o s' o' = some s'
      · left; simpa only [dropO, if_neg z] using w
      · right
        have zo : o' ≠ o := fun e => w (by simp [put, e])
        simp only [bumpN, if_neg zo] at ha
        rcases R o' ho' s' hs' ha with e | ⟨e1, e2⟩
        · exact absurd (by simpa only [put, if_neg zo] using e) w
        · refine ⟨full, fun y hy q => ?_⟩
          obtain ⟨y1, y2, y3⟩ := strict y hy q
          by_cases yo : y = o
          · subst yo
            have px' : p x = some s' := by
              have : x ≠ y := fun e => y1 e.symm
              simpa only [put, if_neg this] using px
            have := e2 x hx px'
            omega
          · have py : p y = some s' := by simpa only [put, if_neg yo] using y2
            exact e2 y hy py
  · have ne' : s ≠ s' := fun e => ne e.symm
    rw [cnt_drop_same px ne']
    rcases R.other g po hs ho' hs' ne ha with e | ⟨e1, e2⟩
    · left
      by_cases z : o' = x
      · subst z; rw [px] at e; exact absurd (Option.some.inj e) ne'
      · simpa only [dropO, if_neg z] using e
    · refine .inr ⟨e1, fun y hy q => ?_⟩
      by_cases z : y = x
      · simp only [dropO, if_pos z] at q; cases q
      · simp only [dropO, if_neg z] at q; exact e2 y hy q
end
/-! ### slots propose -/
def AskR (Rk : S → List O) (asked : S → Nat) (s : S) (o : O) : Prop := o ∈ Rk s ∧ (Rk s).idxOf o < asked s
structure SB (cap : S → Nat) (W : O → List S) (L : List O) (Rk : S → List O) (asked : S → Nat) (p : O → Option S) : Prop where
  b : ∀ s o, AskR Rk asked s o → ∃ t, p o = some t ∧ (W o).idxOf t ≤ (W o).idxOf s
  c : ∀ o s, p o = some s → AskR Rk asked s o
  d : ∀ s, cnt p L s ≤ cap s
def SA (Rk : S → List O) (asked : S → Nat) (m p : O → Option S) : Prop := ∀ s o, AskR Rk asked s o → m o = some s → p o = some s
variable {asked : S → Nat}
theorem ask_new (g : Given cap W L Rk) {s : S} {o : O} (hk : (Rk s)[asked s]? = some o) {t : S} {y : O} (h : AskR Rk (bumpN asked s) t y) : AskR Rk asked t y ∨ (t = s ∧ y = o) := by
  obtain ⟨h1, h2⟩ := h
  by_cases z : t = s
  · subst z
    simp only [bumpN, if_true] at h2
    by_cases w : (Rk t).idxOf y = asked t
    · have hl := List.idxOf_lt_length_of_mem h1
      have : (Rk t)[(Rk t).idxOf y]? = some y := by rw [List.getElem?_eq_getElem hl, List.getElem_idxOf]
      rw [w, hk] at this
      exact .inr ⟨rfl, (Option.some.inj this).symm⟩
    · exact .inl ⟨h1, by omega⟩
  · simp only [bumpN, if_neg z] at h2
    exact .inl ⟨h1, h2⟩
theorem ask_old {s : S} {t : S} {y : O} (h : AskR Rk asked t y) : AskR Rk (bumpN asked s) t y := by
  obtain ⟨h1, h2⟩ := h
  refine ⟨h1, ?_⟩
  by_cases z : t = s
  · subst z; simp only [bumpN, if_true]; omega
  · simpa only [bumpN, if_neg z] using h2
theorem ask_it (g : Given cap W L Rk) {s : S} {o : O} (hk : (Rk s)[asked s]? = some o) : AskR Rk (bumpN asked s) s o ∧ ¬ AskR Rk asked s o ∧ o ∈ L ∧ s ∈ W o := by
  have hm := List.mem_of_getElem? hk
  have hi := idx_get (g.nR s) hk
  refine ⟨⟨hm, by simp only [bumpN, if_true]; omega⟩, fun h => ?_, (g.rm s o hm).1, (g.rm s o hm).2⟩
  have := h.2
  omega
/-- o takes s -/
theorem SB.take (I : SB cap W L Rk asked p) (g : Given cap W L Rk) {s : S} {o : O} (hk : (Rk s)[asked s]? = some o) (hc : cnt p L s < cap s) (hT : ∀ t, p o = some t → (W o).idxOf s < (W o).idxOf t) : SB cap W L Rk (bumpN asked s) (put p o s) := by
  refine ⟨fun t y h => ?_, fun y t e => ?_, fun t => ?_⟩
  · rcases ask_new g hk h with h | ⟨rfl, rfl⟩
    · obtain ⟨u, e, le⟩ := I.b t y h
      by_cases z : y = o
      · subst z
        have := hT u e
        exact ⟨s, by simp [put], by omega⟩
      · exact ⟨u, by simpa only [put, if_neg z] using e, le⟩
    · exact ⟨t, by simp [put], Nat.le_refl _⟩
  · by_cases z : y = o
    · subst z
      simp only [put, if_true] at e
      cases e
      exact (ask_it g hk).1
    · simp only [put, if_neg z] at e
      exact ask_old (I.c y t e)
  · have := cnt_put_le (p := p) (o := o) (s := s) g.nL t
    have := I.d t
    by_cases z : s = t
    · subst z; rw [if_pos rfl] at *; omega
    · rw [if_neg z] at *; omega
theorem SB.stay (I : SB cap W L Rk asked p) (g : Given cap W L Rk) {s : S} {o : O} (hk : (Rk s)[asked s]? = some o) {t : S} (pt : p o = some t) (le : (W o).idxOf t ≤ (W o).idxOf s) : SB cap W L Rk (bumpN asked s) p := by
  refine ⟨fun u y h => ?_, fun y u e => ask_old (I.c y u e), I.d⟩
  rcases ask_new g hk h with h | ⟨rfl, rfl⟩
  · exact I.b u y h
  · exact ⟨t, pt, le⟩
/-- all that hold a slot in m hold it in p, if the slot asked one behind them -/
theorem SA.hold (A : SA Rk asked m p) (g : Given cap W L Rk) (hm : Stable cap W L Rk m) {s : S} {o : O} (ho : o ∈ L) (hs : s ∈ W o) (hr : (W o).idxOf s < Sd.rk W o (m o)) (hx : (Rk s).idxOf o ≤ asked s) : cap s ≤ cnt m L s ∧ ∀ y ∈ L, m y = some s → p y = some s := by
  obtain ⟨f1, f2⟩ := hm.full ho hs hr
  refine ⟨f1, fun y hy e => ?_⟩
  have hy' := g.rk y hy s (hm.wish y hy s e)
  have le := f2 y hy e
  have ne : (Rk s).idxOf y ≠ (Rk s).idxOf o := fun z => by
    have : y = o := idx_inj hy' z
    subst this
    rw [e] at hr
    simp only [Sd.rk] at hr
    omega
  exact A s y ⟨hy', by omega⟩ e
theorem SA.take (A : SA Rk asked m p) (I : SB cap W L Rk asked p) (g : Given cap W L Rk) (hm : Stable cap W L Rk m) {s : S} {o : O} (hk : (Rk s)[asked s]? = some o) (hc : cnt p L s < cap s) (hT : ∀ t, p o = some t → (W o).idxOf s < (W o).idxOf t) :
    SA Rk (bumpN asked s) m (put p o s) := by
  obtain ⟨_, _, ho, hs⟩ := ask_it g hk
  have hi := idx_get (g.nR s) hk
  intro t y h e
  by_cases z : y = o
  · subst z
    rcases ask_new g hk h with h | ⟨rfl, _⟩
    · exfalso
      have pt := A t y h e
      have lt := hT t pt
      obtain ⟨f1, f2⟩ := A.hold g hm ho hs (by rw [e]; exact lt) (by omega)
      have := cnt_le (l := L) f2
      omega
    · simp [put]
  · rcases ask_new g hk h with h | ⟨_, rfl⟩
    · simpa only [put, if_neg z] using A t y h e
    · exact absurd rfl z
theorem SA.stay (A : SA Rk asked m p) (I : SB cap W L Rk asked p) (g : Given cap W L Rk) (hm : Stable cap W L Rk m) {s : S} {o : O} (hk : (Rk s)[asked s]? = some o) {t : S} (pt : p o = some t) (le : (W o).idxOf t ≤ (W o).idxOf s) :
    SA Rk (bumpN asked s) m p := by
  obtain ⟨_, na, ho, hs⟩ := ask_it g hk
  intro u y h e
  rcases ask_new g hk h with h | ⟨rfl, rfl⟩
  · exact A u y h e
  · exfalso
    have at_ := I.c y t pt
    have tw := (g.rm t y at_.1).2
    have ne : t ≠ u := fun z => na (z ▸ at_)
    have lt : (W y).idxOf t < Sd.rk W y (m y) := by
      rw [e]
      simp only [Sd.rk]
      have : (W y).idxOf t ≠ (W y).idxOf u := fun z => ne (by
        have h1 := List.idxOf_lt_length_of_mem tw
        have e1 : (W y)[(W y).idxOf t]? = some t := by rw [List.getElem?_eq_getElem h1, List.getElem_idxOf]
        have h2 := List.idxOf_lt_length_of_mem hs
        have e2 : (W y)[(W y).idxOf u]? = some u := by rw [List.getElem?_eq_getElem h2, List.getElem_idxOf]
        rw [z, e2] at e1
        exact (Option.some.inj e1).symm)
      omega
    obtain ⟨f1, f2⟩ := A.hold g hm ho tw lt (by have := at_.2; omega)
    have := cnt_lt g.nL f2 ho pt (by rw [e]; intro w; exact ne (Option.some.inj w).symm)
    have := I.d t
    omega
theorem SB.stable (I : SB cap W L Rk asked p) (g : Given cap W L Rk) (hd : ∀ s o, o ∈ L → s ∈ W o → cap s ≤ cnt p L s ∨ (Rk s).length ≤ asked s) : Stable cap W L Rk p := by
  have off : ∀ o, o ∉ L → p o = none := fun o ho => by
    cases e : p o with
    | none => rfl
    | some s => exact absurd (g.rm s o (I.c o s e).1).1 ho
  refine ⟨⟨fun o ho s e => (g.rm s o (I.c o s e).1).2, I.d, off⟩, fun o ho s hs ⟨b1, b2⟩ => ?_⟩
  have na : ¬ AskR Rk asked s o := fun h => by
    obtain ⟨t, e, le⟩ := I.b s o h
    rw [e] at b1
    simp only [Sd.rk] at b1
    omega
  have hr := g.rk o ho s hs
  have ge : asked s ≤ (Rk s).idxOf o := by
    by_cases z : (Rk s).idxOf o < asked s
    · exact absurd ⟨hr, z⟩ na
    · omega
  have hl := List.idxOf_lt_length_of_mem hr
  rcases hd s o ho hs with f | f
  · rcases b2 with b2 | ⟨y, hy, py, lt⟩
    · omega
    · have := (I.c y s py).2
      omega
  · omega
theorem SA.worst (A : SA Rk asked m p) (I : SB cap W L Rk asked p) (g : Given cap W L Rk) (hm : Stable cap W L Rk m) : ∀ o ∈ L, Sd.rk W o (m o) ≤ Sd.rk W o (p o) := fun o ho => by
  by_cases z : Sd.rk W o (m o) ≤ Sd.rk W o (p o)
  · exact z
  · exfalso
    cases e : p o with
    | none =>
      rw [e] at z
      cases em : m o with
      | none => rw [em] at z; exact z (Nat.le_refl _)
      | some s =>
        rw [em] at z
        have h1 := List.idxOf_lt_length_of_mem (hm.wish o ho s em)
        simp only [Sd.rk] at z
        omega
    | some t =>
      rw [e] at z
      have at_ := I.c o t e
      have tw := (g.rm t o at_.1).2
      obtain ⟨f1, f2⟩ := A.hold g hm ho tw (by simp only [Sd.rk] at z ⊢; omega) (by have := at_.2; omega)
      have := cnt_lt g.nL f2 ho e (by
        intro w
        rw [w] at z
        exact z (Nat.le_refl _))
      have := I.d t
      omega
end Gs
/-! All stable plans keep the same orders. -/
namespace Gs
open Sd
variable {O S : Type} [DecidableEq O] [DecidableEq S] {cap : S → Nat} {W : O → List S} {L : List O} {Rk : S → List O} {m p : O → Option S}
def kept (p : O → Option S) (L : List O) : List O := L.filter fun o => (p o).isSome
theorem sum_noll : ∀ Sl : List S, (Sl.map fun _ => 0).sum = 0
  | [] => rfl
  | a :: Sl => by
    simp only [List.map_cons, List.sum_cons, sum_noll Sl]
theorem sum_ind : ∀ {Sl : List S} {s : S}, Sl.Nodup → s ∈ Sl → (Sl.map fun t => if s = t then 1 else 0).sum = 1
  | [], _, _, h => by cases h
  | a :: Sl, s, nd, h => by
    obtain ⟨h1, h2⟩ := List.nodup_cons.mp nd
    simp only [List.map_cons, List.sum_cons]
    by_cases z : s = a
    · subst z
      have : (Sl.map fun t => if s = t then 1 else 0).sum = 0 := by
        have e : (Sl.map fun t => if s = t then 1 else 0) = Sl.map fun _ => 0 := List.map_congr_left fun t ht => by
          have : s ≠ t := fun e => h1 (e ▸ ht)
          simp [this]
        rw [e]
        exact sum_noll Sl
      rw [this]; simp
    · rw [if_neg z, sum_ind h2 ((List.mem_cons.mp h).resolve_left z)]
theorem sum_zero (Sl : List S) : (Sl.map fun t => if (none : Option S) = some t then 1 else 0).sum = 0 := by
  have e : (Sl.map fun t => if (none : Option S) = some t then 1 else 0) = Sl.map fun _ => 0 := List.map_congr_left fun t _ => by simp
  rw [e]; exact sum_noll Sl
theorem sum_add (f h : S → Nat) : ∀ Sl : List S, (Sl.map fun t => f t + h t).sum = (Sl.map f).sum + (Sl.map h).sum
  | [] => rfl
  | a :: Sl => by
    simp only [List.map_cons, List.sum_cons, sum_add f h Sl]
    omega
theorem sum_cnt {Sl : List S} (nS : Sl.Nodup) : ∀ {L : List O}, (∀ o ∈ L, ∀ s, p o = some s → s ∈ Sl) → (Sl.map (cnt p L)).sum = (kept p L).length
  | [], _ => by
    have e : Sl.map (cnt p ([] : List O)) = Sl.map fun _ => 0 := List.map_congr_left fun t _ => by simp [cnt]
    rw [e]; exact sum_noll Sl
  | o :: L, h => by
    have ih := sum_cnt nS (L := L) fun y hy => h y (List.mem_cons_of_mem _ hy)
    have e : Sl.map (cnt p (o :: L)) = Sl.map fun t => (if p o = some t then 1 else 0) + cnt p L t := List.map_congr_left fun t _ => cnt_cons p o L t
    rw [e, sum_add, ih]
    unfold kept
    cases q : p o with
    | none => rw [sum_zero, List.filter_cons_of_neg (by simp [q])]; omega
    | some s =>
      rw [List.filter_cons_of_pos (by simp [q])]
      have e2 : (Sl.map fun t => if some s = some t then 1 else 0) = Sl.map fun t => if s = t then 1 else 0 := List.map_congr_left fun t _ => by simp
      rw [e2, sum_ind nS (h o List.mem_cons_self s q)]
      simp only [List.length_cons]
      omega
theorem sum_le (f h : S → Nat) : ∀ {Sl : List S}, (∀ s ∈ Sl, f s ≤ h s) → (Sl.map f).sum ≤ (Sl.map h).sum
  | [], _ => Nat.le_refl _
  | a :: Sl, q => by
    have := sum_le f h (Sl := Sl) fun s hs => q s (List.mem_cons_of_mem _ hs)
    have := q a List.mem_cons_self
    simp only [List.map_cons, List.sum_cons]
    omega
theorem sum_eq (f h : S → Nat) : ∀ {Sl : List S}, (∀ s ∈ Sl, f s ≤ h s) → (Sl.map h).sum ≤ (Sl.map f).sum → ∀ s ∈ Sl, f s = h s
  | [], _, _, s, hs => by cases hs
  | a :: Sl, q, e, s, hs => by
    have q' : ∀ s ∈ Sl, f s ≤ h s := fun s hs => q s (List.mem_cons_of_mem _ hs)
    have le := sum_le f h q'
    have ha := q a List.mem_cons_self
    simp only [List.map_cons, List.sum_cons] at e
    rcases List.mem_cons.mp hs with rfl | hs
    · omega
    · exact sum_eq f h q' (by omega) s hs
theorem rural (g : Given cap W L Rk) (hp : Plan cap W L p) (hm : Stable cap W L Rk m) (hb : ∀ o ∈ L, Sd.rk W o (p o) ≤ Sd.rk W o (m o)) {Sl : List S} (nS : Sl.Nodup) (hS : ∀ o ∈ L, ∀ s ∈ W o, s ∈ Sl) :
    (∀ o ∈ L, (p o).isSome = (m o).isSome) ∧ ∀ s, cnt m L s < cap s → ∀ o ∈ L, (p o = some s ↔ m o = some s) := by
  have sub : ∀ s, cnt m L s < cap s → ∀ o ∈ L, p o = some s → m o = some s := fun s hs o ho e => by
    by_cases z : m o = some s
    · exact z
    · exfalso
      have le := hb o ho
      rw [e] at le
      have hsw := hp.wish o ho s e
      have lt : (W o).idxOf s < Sd.rk W o (m o) := by
        cases em : m o with
        | none => exact List.idxOf_lt_length_of_mem hsw
        | some t =>
          rw [em] at le z
          simp only [Sd.rk] at le ⊢
          have : (W o).idxOf s ≠ (W o).idxOf t := fun w => z (by
            have h1 := List.idxOf_lt_length_of_mem hsw
            have e1 : (W o)[(W o).idxOf s]? = some s := by rw [List.getElem?_eq_getElem h1, List.getElem_idxOf]
            have h2 := List.idxOf_lt_length_of_mem (hm.wish o ho t em)
            have e2 : (W o)[(W o).idxOf t]? = some t := by rw [List.getElem?_eq_getElem h2, List.getElem_idxOf]
            rw [w, e2] at e1
            exact e1)
          omega
      have := (hm.full ho hsw lt).1
      omega
  have le : ∀ s, cnt p L s ≤ cnt m L s := fun s => by
    by_cases z : cnt m L s < cap s
    · exact cnt_le (sub s z)
    · have := hp.lim s
      omega
  have inK : ∀ o ∈ kept m L, o ∈ kept p L := fun o ho => by
    obtain ⟨h1, h2⟩ := List.mem_filter.mp ho
    refine List.mem_filter.mpr ⟨h1, ?_⟩
    cases e : p o with
    | some s => rfl
    | none =>
      exfalso
      have le := hb o h1
      rw [e] at le
      obtain ⟨s, es⟩ := Option.isSome_iff_exists.mp h2
      rw [es] at le
      have := List.idxOf_lt_length_of_mem (hm.wish o h1 s es)
      simp only [Sd.rk] at le
      omega
  have s1 := sum_cnt (p := p) (L := L) nS fun o ho s e => hS o ho s (hp.wish o ho s e)
  have s2 := sum_cnt (p := m) (L := L) nS fun o ho s e => hS o ho s (hm.wish o ho s e)
  have l1 := nodup_sub_le (g.nL.filter fun o => (m o).isSome) inK
  have l1 : (kept m L).length ≤ (kept p L).length := l1
  have eqs := sum_eq (cnt p L) (cnt m L) (Sl := Sl) (fun s _ => le s) (by omega)
  have sl := sum_le (cnt p L) (cnt m L) (Sl := Sl) fun s _ => le s
  refine ⟨fun o ho => ?_, fun s hs o ho => ⟨sub s hs o ho, fun e => ?_⟩⟩
  · cases em : (m o).isSome with
    | true => exact (List.mem_filter.mp (inK o (List.mem_filter.mpr ⟨ho, em⟩))).2
    | false =>
      cases ep : (p o).isSome with
      | false => rfl
      | true =>
        exfalso
        have nk : o ∉ kept m L := fun z => by
          have := (List.mem_filter.mp z).2
          rw [em] at this; cases this
        have := nodup_sub_le (l := o :: kept m L) (k := kept p L) (List.nodup_cons.mpr ⟨nk, g.nL.filter _⟩) fun y hy => by
          rcases List.mem_cons.mp hy with rfl | hy
          · exact List.mem_filter.mpr ⟨ho, ep⟩
          · exact inK y hy
        simp only [List.length_cons] at this
        omega
  · by_cases z : p o = some s
    · exact z
    · exfalso
      have := cnt_lt g.nL (sub s hs) ho e z
      have := eqs s (hS o ho s (hm.wish o ho s e))
      omega
end Gs
/-! What the defs of k92 compute, on names. -/
namespace Lk75
open PySem PySem.Spec PyProof.Rows L2 L2.Dl
/-- a plan as a dict -/
def planD (p : Str → Str) (l : List Str) : D := .dct (nd (fun o => .str (p o)) l)
def strT (T : Str → Bool) : D → Bool
  | .str s => T s
  | _ => false
theorem filter_strT (T : Str → Bool) (l : List Str) : (l.map D.str).filter (strT T) = (l.filter T).map .str := by
  rw [List.filter_map]; rfl
/-- [x for x in it if t(x)] over names -/
theorem lc_names {v : Nat} {fi : M (List D)} {ft : M Bool} {S S1 : SS} {l : List Str} {w : AV} (T : Str → Bool) (hi : fi S = .ok (l.map .str) S1) (hl : l.length ≤ 1000000) (hv : S1[v]? = some w)
    (h : ∀ s ∈ l, ft (S1.set v (.shr (.str s))) = .ok (T s) (S1.set v (.shr (.str s)))) : sLc [v] fi (tNm v) ft (sNm v) S = .ok (.f (.lst ((l.filter T).map .str))) S1 := by
  have hlt : v < S1.length := by
    by_cases z : v < S1.length
    · exact z
    · rw [List.getElem?_eq_none (by omega)] at hv; cases hv
  have q := sLc_pure (fe := sNm v) (ft := ft) (strT T) id hi (by simpa using hl) hv fun d hd => by
    obtain ⟨s, hs, rfl⟩ := List.mem_map.mp hd
    refine ⟨h s hs, fun _ => ⟨.at v, ok_shr (List.getElem?_set_self hlt), ?_⟩⟩
    simp only [valR, List.getElem?_set_self hlt, id]
  rw [q, filter_strT, List.map_id]
theorem iSeq_nd {S : SS} {i : Nat} {f : Str → D} {l : List Str} (h : S[i]? = some (.shr (.dct (nd f l)))) : iSeq (sNm i) S = .ok (l.map .str) S :=
  ok_iSeq (d := .dct (nd f l)) (ok_shr h) (by simp only [valR, h]) (by simp only [seqOf, nd_keyD])
theorem iSeq_strs {S : SS} {i : Nat} {l : List Str} (h : S[i]? = some (.shr (.lst (l.map .str)))) : iSeq (sNm i) S = .ok (l.map .str) S :=
  ok_iSeq (d := .lst (l.map .str)) (ok_shr h) (by simp only [valR, h]) rfl
theorem holders_eq {p : Str → Str} {l : List Str} {s : Str} (hl : l.length ≤ 1000000) (hp : ∀ o ∈ l, Lay (p o)) (hs : Lay s) :
    Fn_holders [planD p l, .str s] = .ret (.lst ((sortS (l.filter fun o => p o == s)).map .str)) true [] :=
  ok_runF (S := [.shr (planD p l), .shr (.str s), .un]) (ok_sRet (ok_sCall (ok_sCons (lc_names (w := .un) (fun o => p o == s) (iSeq_nd rfl) hl rfl fun o ho =>
    ok_sCmpT (ok_sOp (r := .v (.str (p o))) rfl rfl rfl rfl (subscD_nd ho)) rfl rfl rfl (deq_str (hp o ho) hs)) rfl) rfl (gSorted_strs _)) rfl) rfl
def intT (T : Nat → Bool) : D → Bool
  | .int i => T i.toNat
  | _ => false
/-- [k for k in range(n) if t(k)] -/
theorem lc_range {v n : Nat} {fi : M (List D)} {ft : M Bool} {S S1 : SS} {w : AV} (T : Nat → Bool) (hi : fi S = .ok (rangeD 0 n) S1) (hl : n ≤ 1000000) (hv : S1[v]? = some w)
    (h : ∀ k < n, ft (S1.set v (.shr (.int k))) = .ok (T k) (S1.set v (.shr (.int k)))) : sLc [v] fi (tNm v) ft (sNm v) S = .ok (.f (.lst (((List.range n).filter T).map fun k => .int (k : Nat)))) S1 := by
  have hlt : v < S1.length := by
    by_cases z : v < S1.length
    · exact z
    · rw [List.getElem?_eq_none (by omega)] at hv; cases hv
  have er : rangeD 0 n = (List.range n).map fun k => D.int (k : Nat) := by
    unfold rangeD
    apply List.map_congr_left
    intro k _
    simp
  have q := sLc_pure (fe := sNm v) (ft := ft) (intT T) id hi (by simpa [rangeD] using hl) hv fun d hd => by
    rw [er] at hd
    obtain ⟨k, hk, rfl⟩ := List.mem_map.mp hd
    refine ⟨by simpa [intT] using h k (List.mem_range.mp hk), fun _ => ⟨.at v, ok_shr (List.getElem?_set_self hlt), ?_⟩⟩
    simp only [valR, List.getElem?_set_self hlt, id]
  rw [q, List.map_id, er, List.filter_map]
  rfl
theorem idxOf_le {α : Type} [BEq α] [LawfulBEq α] : ∀ {l : List α} {k : Nat} {x : α}, l[k]? = some x → l.idxOf x ≤ k
  | [], k, x, h => by simp at h
  | a :: l, 0, x, h => by
    simp at h
    simp [List.idxOf_cons, h]
  | a :: l, k + 1, x, h => by
    have ih := idxOf_le (l := l) (k := k) (x := x) (by simpa using h)
    rw [List.idxOf_cons]
    cases (a == x)
    · simp only [cond_false]; omega
    · simp only [cond_true]; omega
theorem head_idx {row : List Str} {x : Str} (hx : x ∈ row) : ((List.range row.length).filter fun k => decide (row[k]? = some x)).head? = some (row.idxOf x) := by
  have hl : row.idxOf x < row.length := List.idxOf_lt_length_of_mem hx
  have hs : List.range row.length = List.range (row.idxOf x) ++ (List.range (row.length - row.idxOf x)).map (row.idxOf x + ·) := by
    rw [← List.range_add]
    congr 1
    omega
  rw [hs, List.filter_append]
  have h0 : (List.range (row.idxOf x)).filter (fun k => decide (row[k]? = some x)) = [] := by
    rw [List.filter_eq_nil_iff]
    intro k hk e
    have hk' := List.mem_range.mp hk
    have e2 := of_decide_eq_true e
    obtain ⟨h1, h2⟩ := List.getElem?_eq_some_iff.mp e2
    have : row.idxOf x ≤ k := idxOf_le e2
    omega
  rw [h0, List.nil_append]
  obtain ⟨m, hm⟩ : ∃ m, row.length - row.idxOf x = m + 1 := ⟨row.length - row.idxOf x - 1, by omega⟩
  rw [hm, List.range_succ_eq_map, List.map_cons, List.filter_cons_of_pos]
  · simp
  · have : row[row.idxOf x]? = some x := by rw [List.getElem?_eq_getElem hl, List.getElem_idxOf]
    simp [this]
theorem atI_nat {α : Type} {l : List α} {k : Nat} {x : α} (h : l[k]? = some x) : atI l (k : Int) = some x := by
  obtain ⟨h1, h2⟩ := List.getElem?_eq_some_iff.mp h
  unfold atI ixN
  rw [if_pos (by omega), if_pos (by omega)]
  simpa using h
theorem place_in_eq {row : List Str} {x : Str} (hr : row.length ≤ 1000000) (hL : ∀ s ∈ row, Lay s) (hx : x ∈ row) : Fn_place_in [.lst (row.map .str), .str x] = .ret (.int (row.idxOf x)) false [] := by
  have hd := head_idx hx
  have hxL := hL x hx
  refine ok_runF (S := [.shr (.lst (row.map .str)), .shr (.str x), .un]) (ok_sRet (ok_sOp (da := .lst (((List.range row.length).filter fun k => decide (row[k]? = some x)).map fun k => .int (k : Nat))) (r := .v (.int (row.idxOf x)))
    (lc_range (n := row.length) (w := .un) (fun k => decide (row[k]? = some x)) (ok_iRng (ds := [.int row.length]) (ok_sCons (ok_sCall (r := .v (.int row.length)) (ok_sCons rfl rfl) rfl ?_) rfl) rfl ?_) hr rfl fun k hk => ?_) rfl rfl rfl ?_) rfl) rfl
  · show some (R.v (.int ((row.map D.str).length : Nat))) = _
    simp
  · show (if -1000000 ≤ (row.length : Int) ∧ (row.length : Int) ≤ 1000000 then some (rangeD 0 ((row.length : Nat) : Int).toNat) else none) = _
    rw [if_pos (by omega)]
    simp
  · have e : (row.map D.str)[k]? = some (.str row[k]) := by
      rw [List.getElem?_map, List.getElem?_eq_getElem hk]; rfl
    have hb : decide (row[k]? = some x) = (row[k] == x) := by
      rw [List.getElem?_eq_getElem hk, Bool.eq_iff_iff]
      simp
    show _ = Res.ok (decide (row[k]? = some x)) _
    rw [hb]
    refine ok_sCmpT (ok_sOp (r := .v (.str row[k])) rfl rfl rfl rfl ?_) rfl rfl rfl (deq_str (hL _ (List.getElem_mem hk)) hxL)
    show (atI (row.map D.str) (k : Int)).map R.v = _
    rw [atI_nat e]; rfl
  · show (atI (((List.range row.length).filter fun k => decide (row[k]? = some x)).map fun k => D.int (k : Nat)) ((0 : Nat) : Int)).map R.v = _
    rw [atI_nat (x := .int (row.idxOf x))]
    · rfl
    · rw [List.getElem?_map, ← List.head?_eq_getElem?, hd]; rfl
end Lk75
namespace Lk75
open PySem PySem.Spec PyProof.Rows L2 L2.Dl
def placesD (cap : Str → Nat) (Sl : List Str) : D := .dct (nd (fun s => .int (cap s)) Sl)
def rowsD (W : Str → List Str) (O : List Str) : D := .dct (nd (fun o => .lst ((W o).map .str)) O)
/-- what the laws pass -/
structure Sh (cap : Str → Nat) (Sl : List Str) (W : Str → List Str) (O : List Str) : Prop where
  ns : Sl.Nodup
  no : O.Nodup
  nw : ∀ o ∈ O, (W o).Nodup
  ws : ∀ o ∈ O, ∀ s ∈ W o, s ∈ Sl
  ls : Sl.length ≤ 400
  lo : O.length ≤ 400
  ys : ∀ s ∈ Sl, Lay s
  yo : ∀ o ∈ O, Lay o
theorem keysOf_strs (l : List Str) : keysOf (l.map .str) = some (l.map .inr) := by
  induction l with
  | nil => rfl
  | cons a l ih => simp only [List.map_cons, keysOf, Dl.keyOf, ih]
theorem nodup_le {l m : List Str} (h : l.Nodup) (hs : ∀ x ∈ l, x ∈ m) : l.length ≤ m.length := by
  induction l generalizing m with
  | nil => simp
  | cons a l ih =>
    obtain ⟨h1, h2⟩ := List.nodup_cons.mp h
    have ha := hs a List.mem_cons_self
    have := ih (m := m.erase a) h2 fun x hx => by
      have ne : x ≠ a := fun z => h1 (z ▸ hx)
      exact (List.mem_erase_of_ne ne).mpr (hs x (List.mem_cons_of_mem _ hx))
    rw [List.length_erase_of_mem ha] at this
    have : 0 < m.length := List.length_pos_of_mem ha
    simp only [List.length_cons]
    omega
theorem gLenSet_strs {l : List Str} (h : l.Nodup) (hl : l.length ≤ 4000) : gLenSet (.lst (l.map .str)) = some (.v (.int l.length)) := by
  show (match keysOf (l.map D.str) with
    | some ks => if ks.length ≤ 4000 then some (R.v (.int (keyCount ks))) else none
    | none => none) = _
  rw [keysOf_strs]
  have hn : (l.map (Sum.inr : Str → Key)).Nodup := List.pairwise_map.mpr (h.imp fun ne e => ne (inr_inj _ _ e))
  simp only [List.length_map, if_pos hl, keyCount_nodup hn]
section
variable {cap : Str → Nat} {Sl : List Str} {W : Str → List Str} {O : List Str}
theorem filter_false {l : List Str} : l.filter (fun _ => false) = [] := by simp
theorem Sh.wlen (h : Sh cap Sl W O) {o : Str} (ho : o ∈ O) : (W o).length ≤ 400 := Nat.le_trans (nodup_le (h.nw o ho) (h.ws o ho)) h.ls
theorem gLen_strs (l : List Str) : gLen [.lst (l.map .str)] = some (.v (.int l.length)) := by
  show some (R.v (.int ((l.map D.str).length : Nat))) = _
  rw [List.length_map]
theorem check_wishes_eq (h : Sh cap Sl W O) : Fn_check_wishes [placesD cap Sl, rowsD W O] = .ret .non false [] := by
  have hl := h.ls
  have ho := h.lo
  have loop : ∃ S', forL (tNm 2) (sSeq (sAsg 3 (sOp subscD (sNm 1) (sNm 2)))
      (sIfS (sOr (sTru (sLc [4] (iSeq (sNm 3)) (tNm 4) (sCmpT nmemD (sNm 4) (sNm 0)) (sNm 4))) (sCmpT dne (sUn gLenSet (sNm 3)) (sCall gLen (sCons (sNm 3) sNil)))) (sRaise 2 "invalid order: " (sV (.str "wishes"))) sNext)) (O.map .str) [.shr (placesD cap Sl), .shr (rowsD W O), .un, .un, .un] = .ok .nx S' ∧
      ∃ a b, S' = [.shr (placesD cap Sl), .shr (rowsD W O), a, b, .un] := by
    refine forL_list (I := fun _ S => ∃ a b, S = [.shr (placesD cap Sl), .shr (rowsD W O), a, b, .un]) D.str (pre := []) ?_ ⟨_, _, rfl⟩
    rintro pre o S ⟨post, e⟩ ⟨a, b, rfl⟩
    have hoO : o ∈ O := by rw [e]; simp
    refine ⟨_, [.shr (placesD cap Sl), .shr (rowsD W O), .shr (.str o), .shr (.lst ((W o).map .str)), .un], rfl, ?_, _, _, rfl⟩
    refine ok_sSeq (ok_sAsg (ok_sOp (r := .v (.lst ((W o).map .str))) rfl rfl rfl rfl (subscD_nd hoO)) rfl) (ok_sIfF (ok_sOrF (ok_sTru (lc_names (l := W o) (w := .un) (fun _ => false) (iSeq_strs rfl) ?_ rfl fun s hs => ?_) rfl ?_)
      (ok_sCmpT (ok_sUn rfl rfl (gLenSet_strs (h.nw o hoO) ?_)) (ok_sCall (ok_sCons rfl rfl) rfl (gLen_strs _)) rfl rfl ?_)) rfl)
    · have := h.wlen hoO; omega
    · refine ok_sCmpT rfl rfl rfl rfl ?_
      show nmemD (.str s) (.dct (nd _ Sl)) = _
      rw [nmemD_nd]
      simp [h.ws o hoO s hs]
    · rw [filter_false]; rfl
    · have := h.wlen hoO; omega
    · rw [dne_int]; simp
  obtain ⟨S', e, a, b, rfl⟩ := loop
  refine ok_runFN (S := [.shr (placesD cap Sl), .shr (rowsD W O), a, b, .un]) (ok_sSeq (ok_sIfF (ok_sTru (lc_names (l := Sl) (w := .un) (fun _ => false) (iSeq_nd rfl) ?_ rfl fun s hs => ?_) rfl ?_) rfl)
    (ok_sSeq (ok_sFor (iSeq_nd (f := fun o => .lst ((W o).map .str)) (l := O) rfl) e) (ok_sIfF (ok_sCmpT (ok_sCall (ok_sCons rfl rfl) rfl (gLen_nd _ _)) rfl rfl rfl ?_) rfl))) rfl
  · omega
  · refine ok_sCmpT (ok_sOp (r := .v (.int (cap s))) rfl rfl rfl rfl (subscD_nd hs)) rfl rfl rfl ?_
    show some (decide ((cap s : Int) < 0)) = _
    simp
  · rw [filter_false]; rfl
  · show some (decide ((400 : Int) < (O.length : Int))) = _
    have : ¬ (400 : Int) < (O.length : Int) := by omega
    simp [this]
end
end Lk75
namespace Lk75
open PySem PySem.Spec PyProof.Rows L2 L2.Dl
/-- .. and the ranks -/
structure ShR (cap : Str → Nat) (Sl : List Str) (W : Str → List Str) (O : List Str) (Rk : Str → List Str) : Prop extends Sh cap Sl W O where
  rk : ∀ s ∈ Sl, (Rk s).Perm (O.filter fun o => decide (s ∈ W o))
section
variable {cap : Str → Nat} {Sl : List Str} {W : Str → List Str} {O : List Str} {Rk : Str → List Str}
theorem sortS_nil : sortS [] = [] := by simp [sortS]
theorem check_ranks_eq (h : ShR cap Sl W O Rk) : Fn_check_ranks [placesD cap Sl, rowsD W O, rowsD Rk Sl] = .ret .non false [] := by
  have hl := h.ls
  have ho := h.lo
  have loop : ∃ S', forL (tNm 3) (sSeq (sAsg 4 (sCall gSorted (sCons (sLc [5] (iSeq (sNm 1)) (tNm 5) (sCmpT memD (sNm 3) (sOp subscD (sNm 1) (sNm 5))) (sNm 5)) sNil)))
      (sIfS (sCmpT dne (sCall gSorted (sCons (sGet2 (sNm 2) (sNm 3) (sMake gLst sNil)) sNil)) (sNm 4)) (sRaise 2 "invalid order: " (sV (.str "ranks"))) sNext)) (Sl.map .str) [.shr (placesD cap Sl), .shr (rowsD W O), .shr (rowsD Rk Sl), .un, .un, .un] = .ok .nx S' ∧
      ∃ a b, S' = [.shr (placesD cap Sl), .shr (rowsD W O), .shr (rowsD Rk Sl), a, b, .un] := by
    refine forL_list (I := fun _ S => ∃ a b, S = [.shr (placesD cap Sl), .shr (rowsD W O), .shr (rowsD Rk Sl), a, b, .un]) D.str (pre := []) ?_ ⟨_, _, rfl⟩
    rintro pre s S ⟨post, e⟩ ⟨a, b, rfl⟩
    have hs : s ∈ Sl := by rw [e]; simp
    have hF : ∀ x ∈ O.filter (fun o => decide (s ∈ W o)), Lay x := fun x hx => h.yo x (List.mem_filter.mp hx).1
    have hp := h.rk s hs
    refine ⟨_, [.shr (placesD cap Sl), .shr (rowsD W O), .shr (rowsD Rk Sl), .shr (.str s), .own none (.lst ((sortS (O.filter fun o => decide (s ∈ W o))).map .str)), .un], rfl, ?_, _, _, rfl⟩
    refine ok_sSeq (ok_sAsg (ok_sCall (ok_sCons (lc_names (l := O) (w := .un) (fun o => decide (s ∈ W o)) (iSeq_nd (f := fun o => .lst ((W o).map .str)) rfl) ?_ rfl fun o hoO => ?_) rfl) rfl (gSorted_strs _)) rfl)
      (ok_sIfF (ok_sCmpT (ok_sCall (ok_sCons (ok_sGet2 (l0 := nd (fun s => .lst ((Rk s).map .str)) Sl) (l := nd (fun s => .lst ((Rk s).map .str)) Sl) (d := .lst []) (kk := .inr s) rfl rfl rfl (ok_sMake rfl rfl rfl) rfl rfl rfl rfl) rfl) (ds := [.lst ((Rk s).map .str)]) ?_ (gSorted_strs _)) rfl rfl rfl ?_) rfl)
    · omega
    · exact ok_sCmpT rfl (ok_sOp (r := .v (.lst ((W o).map .str))) rfl rfl rfl rfl (subscD_nd hoO)) rfl rfl (memD_strs _ _)
    · simp only [valD_nd hs]; rfl
    · rw [dne_strs, sortS_eq hp]
      · simp
      · intro x hx; exact hF x (hp.mem_iff.mp (mem_sortS.mp hx))
      · intro x hx; exact hF x (mem_sortS.mp hx)
  obtain ⟨S', e, a, b, rfl⟩ := loop
  refine ok_runFN (S := [.shr (placesD cap Sl), .shr (rowsD W O), .shr (rowsD Rk Sl), a, b, .un]) (ok_sSeq (ok_sExpr (ok_callM (ok_sCons rfl (ok_sCons rfl rfl)) rfl (by simp) (check_wishes_eq h.toSh)))
    (ok_sSeq (ok_sFor (iSeq_nd (f := fun s => .int (cap s)) (l := Sl) rfl) e) (ok_sIfF (ok_sTru (lc_names (l := Sl) (w := a) (fun _ => false) (iSeq_nd (f := fun s => .lst ((Rk s).map .str)) rfl) ?_ rfl fun s hs => ?_) rfl ?_) rfl))) rfl
  · omega
  · refine ok_sCmpT rfl rfl rfl rfl ?_
    show nmemD (.str s) (.dct (nd _ Sl)) = _
    rw [nmemD_nd]
    simp [hs]
  · rw [filter_false]; rfl
end
end Lk75
namespace Lk75
open PySem PySem.Spec PyProof.Rows L2 L2.Dl
section
variable {cap : Str → Nat} {Sl : List Str} {W : Str → List Str} {O : List Str} {Rk : Str → List Str} {p : Str → Str} {l : List Str} {S S1 S2 : SS} {fa fb : M R} {ra : R}
theorem ok_sOrVT (ha : fa S = .ok ra S1) (hl : lookB S1 ra = some true) : sOrV fa fb S = .ok ra.sh S1 := by unfold sOrV; simp only [ha, Res.bind, hl]
theorem ok_sOrVF {q : Res R} (ha : fa S = .ok ra S1) (hl : lookB S1 ra = some false) (hb : fb S1 = q) : sOrV fa fb S = q := by unfold sOrV; simp only [ha, Res.bind, hl, hb]
theorem ltD_nat (a b : Nat) : ltD (.int a) (.int b) = some (decide (a < b)) := by
  show some (decide ((a : Int) < (b : Int))) = _
  simp
theorem gtD_nat (a b : Nat) : gtD (.int a) (.int b) = some (decide (b < a)) := by
  show some (decide ((b : Int) < (a : Int))) = _
  simp
theorem Sh.yw (h : Sh cap Sl W O) {o : Str} (ho : o ∈ O) : ∀ s ∈ W o, Lay s := fun s hs => h.ys s (h.ws o ho s hs)
theorem likes_more_eq (h : Sh cap Sl W O) {o s : Str} (ho : o ∈ O) (hs : s ∈ W o) (hp : o ∈ l → p o ∈ W o) :
    Fn_likes_more [rowsD W O, planD p l, .str o, .str s] = .ret (.bl (decide (o ∉ l) || decide ((W o).idxOf s < (W o).idxOf (p o)))) false [] := by
  have wl := h.wlen ho
  have q1 : sOp (toB nmemD) (sNm 2) (sNm 1) [.shr (rowsD W O), .shr (planD p l), .shr (.str o), .shr (.str s)] = .ok (.v (.bl (!decide (o ∈ l)))) [.shr (rowsD W O), .shr (planD p l), .shr (.str o), .shr (.str s)] := ok_sOpB rfl rfl rfl rfl (nmemD_nd _ _ _)
  by_cases hl : o ∈ l
  · have hp := hp hl
    rw [show (decide (o ∉ l) || decide ((W o).idxOf s < (W o).idxOf (p o))) = decide ((W o).idxOf s < (W o).idxOf (p o)) by simp [hl]]
    refine ok_runF (S := [.shr (rowsD W O), .shr (planD p l), .shr (.str o), .shr (.str s)]) (ok_sRet (ok_sOrVF q1 (by simp [lookB, look, hl, D.truth]) (ok_sOpB (ok_callM (ok_sCons (ok_sOp (r := .v (.lst ((W o).map .str))) rfl rfl rfl rfl (subscD_nd ho)) (ok_sCons rfl rfl)) rfl (by simp) (place_in_eq (by omega) (h.yw ho) hs))
      (ok_callM (ok_sCons (ok_sOp (r := .v (.lst ((W o).map .str))) rfl rfl rfl rfl (subscD_nd ho)) (ok_sCons (ok_sOp (r := .v (.str (p o))) rfl rfl rfl rfl (subscD_nd hl)) rfl)) rfl (by simp) (place_in_eq (by omega) (h.yw ho) hp)) rfl rfl (ltD_nat _ _))) rfl) rfl
  · rw [show (decide (o ∉ l) || decide ((W o).idxOf s < (W o).idxOf (p o))) = !decide (o ∈ l) by simp [hl]]
    exact ok_runF (S := [.shr (rowsD W O), .shr (planD p l), .shr (.str o), .shr (.str s)]) (ok_sRet (ok_sOrVT q1 (by simp [lookB, look, hl, D.truth])) rfl) rfl
end
end Lk75
namespace Lk75
open PySem PySem.Spec PyProof.Rows L2 L2.Dl
section
variable {cap : Str → Nat} {Sl : List Str} {W : Str → List Str} {O : List Str} {Rk : Str → List Str} {p : Str → Str} {l : List Str} {S S1 S2 : SS} {fa fb : M R} {ra : R}
/-- a plan: every order one of its wishes -/
structure Pl (W : Str → List Str) (O : List Str) (p : Str → Str) (l : List Str) : Prop where
  nd : l.Nodup
  mem : ∀ o ∈ l, o ∈ O ∧ p o ∈ W o
theorem Pl.len (h : Pl W O p l) (hO : O.length ≤ 400) : l.length ≤ 400 := Nat.le_trans (nodup_le h.nd fun o ho => (h.mem o ho).1) hO
theorem Pl.lay (h : Pl W O p l) (hS : Sh cap Sl W O) : ∀ o ∈ l, Lay (p o) := fun o ho => hS.yw (h.mem o ho).1 _ (h.mem o ho).2
theorem is_plan_eq (h : Sh cap Sl W O) (hp : Pl W O p l) (hc : ∀ s ∈ Sl, (l.filter fun o => p o == s).length ≤ cap s) : Fn_is_plan [placesD cap Sl, rowsD W O, planD p l] = .ret (.bl true) false [] := by
  have hl := hp.len h.lo
  have hs := h.ls
  refine ok_runF (S := [.shr (placesD cap Sl), .shr (rowsD W O), .shr (planD p l), .un, .un]) (ok_sSeq (ok_sIfF (ok_sOrF (ok_sNot (b := true) (ok_sTru (fa := sIsi ["dict"] (sNm 2)) (ra := .v (.bl true)) (da := .bl true) (by rfl) rfl rfl)) (ok_sTru (lc_names (l := l) (w := .un) (fun _ => false) (iSeq_nd (f := fun o => .str (p o)) rfl) ?_ rfl fun o ho => ?_) rfl ?_)) rfl)
    (ok_sSeq (ok_sIfF (ok_sTru (lc_names (l := l) (w := .un) (fun _ => false) (iSeq_nd (f := fun o => .str (p o)) rfl) ?_ rfl fun o ho => ?_) rfl ?_) rfl)
      (ok_sRet (ok_sUn (r := .v (.bl true)) (lc_names (l := Sl) (w := .un) (fun _ => false) (iSeq_nd (f := fun s => .int (cap s)) rfl) ?_ rfl fun s hsl => ?_) rfl ?_) rfl))) rfl
  · omega
  · refine ok_sCmpT rfl rfl rfl rfl ?_
    show nmemD (.str o) (.dct (nd _ O)) = _
    rw [nmemD_nd]
    simp [(hp.mem o ho).1]
  · rw [filter_false]; rfl
  · omega
  · refine ok_sCmpT (ok_sOp (r := .v (.str (p o))) rfl rfl rfl rfl (subscD_nd ho)) (ok_sOp (r := .v (.lst ((W o).map .str))) rfl rfl rfl rfl (subscD_nd (hp.mem o ho).1)) rfl rfl ?_
    rw [nmemD_strs]
    simp [(hp.mem o ho).2]
  · rw [filter_false]; rfl
  · omega
  · refine ok_sCmpT (ok_sCall (ok_sCons (ok_callM (ok_sCons rfl (ok_sCons rfl rfl)) rfl (by simp) (holders_eq (by omega) (hp.lay h) (h.ys s hsl))) rfl) rfl (gLen_strs _)) (ok_sOp (r := .v (.int (cap s))) rfl rfl rfl rfl (subscD_nd hsl)) rfl rfl ?_
    rw [gtD_nat, length_sortS]
    have := hc s hsl
    have : ¬ cap s < (l.filter fun o => p o == s).length := by omega
    simp [this]
  · rw [filter_false]; rfl
end
end Lk75
namespace Lk75
open PySem PySem.Spec PyProof.Rows L2 L2.Dl
section
variable {cap : Str → Nat} {Sl : List Str} {W : Str → List Str} {O : List Str} {Rk : Str → List Str} {p : Str → Str} {l : List Str} {S S1 S2 : SS} {fa fb : M R} {ra : R}
theorem dne_non_str {s : Str} (h : Lay s) : dne .non (.str s) = some true := by
  have e : pyEq .non (.str s) = some false := by
    unfold pyEq
    simp only [toPy]
    have h1 : SeqAt.shaped .none = true := rfl
    have h2 : SeqAt.shaped (.str s) = true := by unfold SeqAt.shaped; rw [h]; rfl
    rw [h1, h2]
    rfl
  unfold dne deq
  rw [e]
  rfl
def wor (W : Str → List Str) (Rk : Str → List Str) (p : Str → Str) (l : List Str) (o s : Str) : List Str := (sortS (l.filter fun y => p y == s)).filter fun y => decide ((Rk s).idxOf o < (Rk s).idxOf y)
/-- the pair would rather have each other -/
def blk1 (W : Str → List Str) (p : Str → Str) (l : List Str) (o s : Str) : Bool := !(decide (o ∈ l) && p o == s) && (decide (o ∉ l) || decide ((W o).idxOf s < (W o).idxOf (p o)))
def blk2 (cap : Str → Nat) (W Rk : Str → List Str) (p : Str → Str) (l : List Str) (o s : Str) : Bool := decide ((l.filter fun y => p y == s).length < cap s) || !(wor W Rk p l o s).isEmpty
def tup2 (q : Str × Str) : D := .tup [.str q.1, .str q.2]
abbrev bS (cap : Str → Nat) (Sl : List Str) (W : Str → List Str) (O : List Str) (Rk : Str → List Str) (p : Str → Str) (l : List Str) (L : List (Str × Str)) (o s b c : AV) : SS :=
  [.shr (placesD cap Sl), .shr (rowsD W O), .shr (rowsD Rk Sl), .shr (planD p l), .own none (.lst (L.map tup2)), o, s, b, c, .un]
noncomputable abbrev bBody : M Fl := (sIfS (sAnd (sCmpT dne (sGet1 (sNm 3) (sNm 5)) (sNm 6)) (sTru (callM [false, false, false, false] Fn_likes_more (sCons (sNm 1) (sCons (sNm 3) (sCons (sNm 5) (sCons (sNm 6) sNil))))))) (sSeq (sAsg 7 (callM [false, false] Fn_holders (sCons (sNm 3) (sCons (sNm 6) sNil))))
    (sSeq (sAsg 8 (sLc [9] (iSeq (sNm 7)) (tNm 9) (sCmpT gtD (callM [false, false] Fn_place_in (sCons (sOp subscD (sNm 2) (sNm 6)) (sCons (sNm 9) sNil))) (callM [false, false] Fn_place_in (sCons (sOp subscD (sNm 2) (sNm 6)) (sCons (sNm 5) sNil)))) (sNm 9)))
    (sIfS (sOr (sCmpT ltD (sCall gLen (sCons (sNm 7) sNil)) (sOp subscD (sNm 0) (sNm 6))) (sTru (sNm 8))) (sExpr (mutL 4 gApp (sCons (sMake gTup (sCons (sNm 5) (sCons (sNm 6) sNil))) sNil))) sNext))) sNext)
theorem pair_body (h : ShR cap Sl W O Rk) (hp : Pl W O p l) {L : List (Str × Str)} {o s : Str} (ho : o ∈ O) (hs : s ∈ W o) (hL : L.length < 1000000) (b c : AV) :
    ∃ b' c', bBody (bS cap Sl W O Rk p l L (.shr (.str o)) (.shr (.str s)) b c) = .ok .nx (bS cap Sl W O Rk p l (if (blk1 W p l o s && blk2 cap W Rk p l o s) = true then L ++ [(o, s)] else L) (.shr (.str o)) (.shr (.str s)) b' c') := by
  have hl := hp.len h.lo
  have hsl := h.ws o ho s hs
  have sy := h.ys s hsl
  have rkm : ∀ y, y ∈ Rk s ↔ y ∈ O ∧ s ∈ W y := fun y => by
    rw [(h.rk s hsl).mem_iff, List.mem_filter]; simp
  have rkl : (Rk s).length ≤ 400 := by
    rw [(h.rk s hsl).length_eq]
    exact Nat.le_trans (List.length_filter_le _ _) h.lo
  have rky : ∀ y ∈ Rk s, Lay y := fun y hy => h.yo y ((rkm y).mp hy).1
  have e1 : sCmpT dne (sGet1 (sNm 3) (sNm 5)) (sNm 6) (bS cap Sl W O Rk p l L (.shr (.str o)) (.shr (.str s)) b c) = .ok (!(decide (o ∈ l) && p o == s)) (bS cap Sl W O Rk p l L (.shr (.str o)) (.shr (.str s)) b c) := by
    refine ok_sCmpT (ok_sGet1 (l0 := nd (fun o => .str (p o)) l) (l := nd (fun o => .str (p o)) l) (kk := .inr o) rfl rfl rfl rfl rfl rfl) rfl rfl rfl ?_
    by_cases z : o ∈ l
    · rw [valD_nd z]
      show dne (.str (p o)) (.str s) = _
      rw [dne_str (hp.lay h.toSh o z) sy]
      simp [z]
    · rw [valD_nd_none z]
      show dne .non (.str s) = _
      rw [dne_non_str sy]
      simp [z]
  have e2 : sTru (callM [false, false, false, false] Fn_likes_more (sCons (sNm 1) (sCons (sNm 3) (sCons (sNm 5) (sCons (sNm 6) sNil))))) (bS cap Sl W O Rk p l L (.shr (.str o)) (.shr (.str s)) b c) = .ok (decide (o ∉ l) || decide ((W o).idxOf s < (W o).idxOf (p o))) (bS cap Sl W O Rk p l L (.shr (.str o)) (.shr (.str s)) b c) :=
    ok_sTru (da := .bl (decide (o ∉ l) || decide ((W o).idxOf s < (W o).idxOf (p o)))) (ok_callM (io := []) (bo := []) (ok_sCons rfl (ok_sCons rfl (ok_sCons rfl (ok_sCons rfl rfl)))) rfl (by simp) (likes_more_eq h.toSh ho hs fun z => (hp.mem o z).2)) rfl rfl
  by_cases hb : blk1 W p l o s = true
  · obtain ⟨hb1, hb2⟩ := Bool.and_eq_true_iff.mp hb
    rw [hb1] at e1
    rw [hb2] at e2
    have e3 : sLc [9] (iSeq (sNm 7)) (tNm 9) (sCmpT gtD (callM [false, false] Fn_place_in (sCons (sOp subscD (sNm 2) (sNm 6)) (sCons (sNm 9) sNil))) (callM [false, false] Fn_place_in (sCons (sOp subscD (sNm 2) (sNm 6)) (sCons (sNm 5) sNil)))) (sNm 9)
        (bS cap Sl W O Rk p l L (.shr (.str o)) (.shr (.str s)) (.own none (.lst ((sortS (l.filter fun y => p y == s)).map .str))) c) = .ok (.f (.lst ((wor W Rk p l o s).map .str))) (bS cap Sl W O Rk p l L (.shr (.str o)) (.shr (.str s)) (.shr (.lst ((sortS (l.filter fun y => p y == s)).map .str))) c) := by
      refine lc_names (l := sortS (l.filter fun y => p y == s)) (w := .un) (fun y => decide ((Rk s).idxOf o < (Rk s).idxOf y)) (ok_iSeq (d := .lst ((sortS (l.filter fun y => p y == s)).map .str)) rfl rfl rfl) ?_ rfl fun y hy => ?_
      · rw [length_sortS]
        have := List.length_filter_le (fun y => p y == s) l
        omega
      · obtain ⟨y1, y2⟩ := List.mem_filter.mp (mem_sortS.mp hy)
        have ys : p y = s := by simpa using y2
        have yr : y ∈ Rk s := (rkm y).mpr ⟨(hp.mem y y1).1, ys ▸ (hp.mem y y1).2⟩
        have or_ : o ∈ Rk s := (rkm o).mpr ⟨ho, hs⟩
        exact ok_sCmpT (da := .int ((Rk s).idxOf y : Nat)) (db := .int ((Rk s).idxOf o : Nat)) (ok_callM (io := []) (bo := []) (ok_sCons (ok_sOp (r := .v (.lst ((Rk s).map .str))) rfl rfl rfl rfl (subscD_nd hsl)) (ok_sCons rfl rfl)) rfl (by simp) (place_in_eq (by omega) rky yr))
          (ok_callM (io := []) (bo := []) (ok_sCons (ok_sOp (r := .v (.lst ((Rk s).map .str))) rfl rfl rfl rfl (subscD_nd hsl)) (ok_sCons rfl rfl)) rfl (by simp) (place_in_eq (by omega) rky or_)) rfl rfl (gtD_nat _ _)
    have e4 : callM [false, false] Fn_holders (sCons (sNm 3) (sCons (sNm 6) sNil)) (bS cap Sl W O Rk p l L (.shr (.str o)) (.shr (.str s)) b c) = .ok (.f (.lst ((sortS (l.filter fun y => p y == s)).map .str))) (bS cap Sl W O Rk p l L (.shr (.str o)) (.shr (.str s)) b c) :=
      ok_callM (io := []) (bo := []) (ok_sCons rfl (ok_sCons rfl rfl)) rfl (by simp) (holders_eq (by omega) (hp.lay h.toSh) sy)
    have e5 : sCmpT ltD (sCall gLen (sCons (sNm 7) sNil)) (sOp subscD (sNm 0) (sNm 6)) (bS cap Sl W O Rk p l L (.shr (.str o)) (.shr (.str s)) (.shr (.lst ((sortS (l.filter fun y => p y == s)).map .str))) (.own none (.lst ((wor W Rk p l o s).map .str)))) = .ok (decide ((l.filter fun y => p y == s).length < cap s))
        (bS cap Sl W O Rk p l L (.shr (.str o)) (.shr (.str s)) (.shr (.lst ((sortS (l.filter fun y => p y == s)).map .str))) (.own none (.lst ((wor W Rk p l o s).map .str)))) := by
      refine ok_sCmpT (ok_sCall (ok_sCons rfl rfl) rfl (gLen_strs _)) (ok_sOp (r := .v (.int (cap s))) rfl rfl rfl rfl (subscD_nd hsl)) rfl rfl ?_
      rw [ltD_nat, length_sortS]
    have e6 : sTru (sNm 8) (bS cap Sl W O Rk p l L (.shr (.str o)) (.shr (.str s)) (.shr (.lst ((sortS (l.filter fun y => p y == s)).map .str))) (.own none (.lst ((wor W Rk p l o s).map .str)))) = .ok (!(wor W Rk p l o s).isEmpty)
        (bS cap Sl W O Rk p l L (.shr (.str o)) (.shr (.str s)) (.shr (.lst ((sortS (l.filter fun y => p y == s)).map .str))) (.own none (.lst ((wor W Rk p l o s).map .str)))) := by
      refine ok_sTru rfl rfl ?_
      show some (!((wor W Rk p l o s).map D.str).isEmpty) = _
      simp
    have e7 : sOr (sCmpT ltD (sCall gLen (sCons (sNm 7) sNil)) (sOp subscD (sNm 0) (sNm 6))) (sTru (sNm 8)) (bS cap Sl W O Rk p l L (.shr (.str o)) (.shr (.str s)) (.shr (.lst ((sortS (l.filter fun y => p y == s)).map .str))) (.own none (.lst ((wor W Rk p l o s).map .str)))) = .ok (blk2 cap W Rk p l o s)
        (bS cap Sl W O Rk p l L (.shr (.str o)) (.shr (.str s)) (.shr (.lst ((sortS (l.filter fun y => p y == s)).map .str))) (.own none (.lst ((wor W Rk p l o s).map .str)))) := by
      unfold blk2
      cases q : decide ((l.filter fun y => p y == s).length < cap s) with
      | true =>
        rw [q] at e5
        rw [Bool.true_or]
        exact ok_sOrT e5
      | false =>
        rw [q] at e5
        rw [Bool.false_or]
        exact ok_sOrF e5 e6
    rw [hb, Bool.true_and]
    refine ⟨.shr (.lst ((sortS (l.filter fun y => p y == s)).map .str)), .own none (.lst ((wor W Rk p l o s).map .str)), ok_sIfT (ok_sAndT e1 e2) (ok_sSeq (ok_sAsg e4 rfl) (ok_sSeq (ok_sAsg e3 rfl) ?_))⟩
    cases q : blk2 cap W Rk p l o s with
    | false =>
      rw [q] at e7
      exact ok_sIfF e7 rfl
    | true =>
      rw [q] at e7
      have e8 : mutL 4 gApp (sCons (sMake gTup (sCons (sNm 5) (sCons (sNm 6) sNil))) sNil) (bS cap Sl W O Rk p l L (.shr (.str o)) (.shr (.str s)) (.shr (.lst ((sortS (l.filter fun y => p y == s)).map .str))) (.own none (.lst ((wor W Rk p l o s).map .str)))) = .ok (.v .non)
          (bS cap Sl W O Rk p l (L ++ [(o, s)]) (.shr (.str o)) (.shr (.str s)) (.shr (.lst ((sortS (l.filter fun y => p y == s)).map .str))) (.own none (.lst ((wor W Rk p l o s).map .str)))) := by
        refine ok_mutL (i := 4) (S1 := bS cap Sl W O Rk p l L (.shr (.str o)) (.shr (.str s)) (.shr (.lst ((sortS (l.filter fun y => p y == s)).map .str))) (.own none (.lst ((wor W Rk p l o s).map .str)))) (S2 := bS cap Sl W O Rk p l L (.shr (.str o)) (.shr (.str s)) (.shr (.lst ((sortS (l.filter fun y => p y == s)).map .str))) (.own none (.lst ((wor W Rk p l o s).map .str)))) (d := .non) (ds := [.tup [.str o, .str s]]) (t0 := none) (t := none) (l0 := L.map tup2) (l := L.map tup2) (l' := (L ++ [(o, s)]).map tup2) (rs := [.v (.tup [.str o, .str s])]) ?_ ?_ ?_ ?_ ?_
        · rfl
        · rfl
        · rfl
        · rfl
        show (if (L.map tup2).length < 1000000 then some (L.map tup2 ++ [_], D.non) else none) = _
        rw [List.length_map, if_pos hL, List.map_append]
        rfl
      exact ok_sIfT e7 (ok_sExpr e8)
  · have hb0 : (blk1 W p l o s && blk2 cap W Rk p l o s) = false := by simp [hb]
    rw [hb0]
    refine ⟨b, c, ?_⟩
    simp only [Bool.false_eq_true, if_false]
    cases q1 : (!(decide (o ∈ l) && p o == s)) with
    | false =>
      rw [q1] at e1
      exact ok_sIfF (ok_sAndF e1) rfl
    | true =>
      rw [q1] at e1
      have q2 : (decide (o ∉ l) || decide ((W o).idxOf s < (W o).idxOf (p o))) = false := by
        cases q2 : (decide (o ∉ l) || decide ((W o).idxOf s < (W o).idxOf (p o))) with
        | false => rfl
        | true => exact absurd (Bool.and_eq_true_iff.mpr ⟨q1, q2⟩) hb
      rw [q2] at e2
      exact ok_sIfF (ok_sAndT e1 e2) rfl
end
end Lk75
namespace Lk75
open PySem PySem.Spec PyProof.Rows L2 L2.Dl
section
variable {cap : Str → Nat} {Sl : List Str} {W : Str → List Str} {O : List Str} {Rk : Str → List Str} {p : Str → Str} {l : List Str} {S S1 S2 : SS}
/-- what blocks o, in ascending order -/
def blkRow (cap : Str → Nat) (W Rk : Str → List Str) (p : Str → Str) (l : List Str) (o : Str) (ss : List Str) : List (Str × Str) := (ss.filter fun s => blk1 W p l o s && blk2 cap W Rk p l o s).map fun s => (o, s)
theorem blkRow_snoc (o s : Str) (ss : List Str) : blkRow cap W Rk p l o (ss ++ [s]) = if (blk1 W p l o s && blk2 cap W Rk p l o s) = true then blkRow cap W Rk p l o ss ++ [(o, s)] else blkRow cap W Rk p l o ss := by
  unfold blkRow
  rw [List.filter_append, List.map_append]
  cases h : (blk1 W p l o s && blk2 cap W Rk p l o s) with
  | true => simp [List.filter_cons, h]
  | false => simp [List.filter_cons, h]
theorem blkRow_len (o : Str) (ss : List Str) : (blkRow cap W Rk p l o ss).length ≤ ss.length := by
  unfold blkRow
  rw [List.length_map]
  exact List.length_filter_le _ _
theorem row_loop (h : ShR cap Sl W O Rk) (hp : Pl W O p l) {L : List (Str × Str)} {o : Str} (ho : o ∈ O) (hL : L.length + 400 < 1000000) (a b c : AV) :
    ∃ S', forL (tNm 6) bBody ((sortS (W o)).map .str) (bS cap Sl W O Rk p l L (.shr (.str o)) a b c) = .ok .nx S' ∧ ∃ a' b' c', S' = bS cap Sl W O Rk p l (L ++ blkRow cap W Rk p l o (sortS (W o))) (.shr (.str o)) a' b' c' := by
  have wl := h.wlen ho
  have sl := length_sortS (W o)
  refine forL_list (I := fun ss S => ss.length ≤ (sortS (W o)).length ∧ ∃ a' b' c', S = bS cap Sl W O Rk p l (L ++ blkRow cap W Rk p l o ss) (.shr (.str o)) a' b' c') D.str (pre := []) (fun pre s S he hI => ?_) ⟨by simp, a, b, c, by simp [blkRow]⟩ |>.imp fun S' q => ⟨q.1, q.2.2⟩
  obtain ⟨post, e⟩ := he
  obtain ⟨_, a', b', c', rfl⟩ := hI
  have hs : s ∈ W o := mem_sortS.mp (by rw [e]; simp)
  have el := congrArg List.length e
  simp only [List.length_append, List.length_cons] at el
  have bl := blkRow_len (cap := cap) (W := W) (Rk := Rk) (p := p) (l := l) o pre
  obtain ⟨b2, c2, e2⟩ := pair_body h hp (L := L ++ blkRow cap W Rk p l o pre) ho hs (by rw [List.length_append]; omega) b' c'
  refine ⟨bS cap Sl W O Rk p l (L ++ blkRow cap W Rk p l o pre) (.shr (.str o)) (.shr (.str s)) b' c', _, rfl, e2, by simp; omega, .shr (.str s), b2, c2, ?_⟩
  rw [blkRow_snoc]
  split
  · rw [List.append_assoc]
  · rfl
end
end Lk75
namespace Lk75
open PySem PySem.Spec PyProof.Rows L2 L2.Dl
section
variable {cap : Str → Nat} {Sl : List Str} {W : Str → List Str} {O : List Str} {Rk : Str → List Str} {p : Str → Str} {l : List Str} {S S1 S2 : SS}
def blkAll (cap : Str → Nat) (W Rk : Str → List Str) (p : Str → Str) (l os : List Str) : List (Str × Str) := os.flatMap fun o => blkRow cap W Rk p l o (sortS (W o))
theorem blkAll_snoc (os : List Str) (o : Str) : blkAll cap W Rk p l (os ++ [o]) = blkAll cap W Rk p l os ++ blkRow cap W Rk p l o (sortS (W o)) := by
  unfold blkAll
  rw [List.flatMap_append]
  simp
theorem blocking_eq (h : ShR cap Sl W O Rk) (hp : Pl W O p l) (hc : ∀ s ∈ Sl, (l.filter fun o => p o == s).length ≤ cap s) :
    Fn_blocking_pairs [placesD cap Sl, rowsD W O, rowsD Rk Sl, planD p l] = .ret (.lst ((blkAll cap W Rk p l (sortS O)).map tup2)) true [] := by
  have ol : (sortS O).length ≤ 400 := by rw [length_sortS]; exact h.lo
  have loop : ∃ S', forL (tNm 5) (sFor (iSeq (sCall gSorted (sCons (sOp subscD (sNm 1) (sNm 5)) sNil))) (tNm 6) bBody) ((sortS O).map .str) (bS cap Sl W O Rk p l [] .un .un .un .un) = .ok .nx S' ∧
      ((blkAll cap W Rk p l (sortS O)).length ≤ 400 * (sortS O).length ∧ (sortS O).length ≤ (sortS O).length) ∧ ∃ a b c d, S' = bS cap Sl W O Rk p l (blkAll cap W Rk p l (sortS O)) a b c d := by
    refine forL_list (I := fun os S => ((blkAll cap W Rk p l os).length ≤ 400 * os.length ∧ os.length ≤ (sortS O).length) ∧ ∃ a b c d, S = bS cap Sl W O Rk p l (blkAll cap W Rk p l os) a b c d) D.str (pre := []) (fun pre o S he hI => ?_) ⟨by simp [blkAll], _, _, _, _, rfl⟩
    obtain ⟨post, e⟩ := he
    obtain ⟨⟨len, _⟩, a, b, c, d, rfl⟩ := hI
    have ho : o ∈ O := mem_sortS.mp (by rw [e]; simp)
    have el := congrArg List.length e
    simp only [List.length_append, List.length_cons] at el
    have wl := h.wlen ho
    have bl := blkRow_len (cap := cap) (W := W) (Rk := Rk) (p := p) (l := l) o (sortS (W o))
    rw [length_sortS] at bl
    obtain ⟨S', e2, a', b', c', rfl⟩ := row_loop h hp (L := blkAll cap W Rk p l pre) ho (by omega) b c d
    refine ⟨bS cap Sl W O Rk p l (blkAll cap W Rk p l pre) (.shr (.str o)) b c d, _, rfl, ok_sFor (ds := (sortS (W o)).map .str) (S1 := bS cap Sl W O Rk p l (blkAll cap W Rk p l pre) (.shr (.str o)) b c d) ?_ e2, ⟨?_, ?_⟩, _, _, _, _, by rw [blkAll_snoc]⟩
    · exact ok_iSeq (d := .lst ((sortS (W o)).map .str)) (ok_sCall (ok_sCons (ok_sOp (r := .v (.lst ((W o).map .str))) rfl rfl rfl rfl (subscD_nd ho)) rfl) rfl (gSorted_strs _)) rfl rfl
    · rw [blkAll_snoc, List.length_append, List.length_append]
      simp only [List.length_cons, List.length_nil]
      omega
    · rw [List.length_append]
      simp only [List.length_cons, List.length_nil]
      omega
  obtain ⟨S', e, _, a, b, c, d, rfl⟩ := loop
  refine ok_runF (S := [.shr (placesD cap Sl), .shr (rowsD W O), .shr (rowsD Rk Sl), .shr (planD p l), .un, a, b, c, d, .un]) (ok_sSeq (S1 := [.shr (placesD cap Sl), .shr (rowsD W O), .shr (rowsD Rk Sl), .shr (planD p l), .un, .un, .un, .un, .un, .un]) (ok_sExpr (ok_callM (io := []) (bo := []) (ok_sCons rfl (ok_sCons rfl (ok_sCons rfl rfl))) rfl (by simp) (check_ranks_eq h)))
    (ok_sSeq (S1 := [.shr (placesD cap Sl), .shr (rowsD W O), .shr (rowsD Rk Sl), .shr (planD p l), .un, .un, .un, .un, .un, .un]) (ok_sIfF (ok_sNot (b := true) (ok_sTru (da := .bl true) (ok_callM (io := []) (bo := []) (ok_sCons rfl (ok_sCons rfl (ok_sCons rfl rfl))) rfl (by simp) (is_plan_eq h.toSh hp hc)) rfl rfl)) rfl)
      (ok_sSeq (S1 := bS cap Sl W O Rk p l [] .un .un .un .un) (ok_sAsg (ra := .f (.lst [])) rfl rfl) (ok_sSeq (ok_sFor (ds := (sortS O).map .str) (S1 := bS cap Sl W O Rk p l [] .un .un .un .un)
        (ok_iSeq (d := .lst ((sortS O).map .str)) (ok_sCall (ok_sCons rfl rfl) rfl (gSorted_nd _ _)) rfl rfl) e) (ok_sRet (ra := .at 4) rfl rfl))))) rfl
end
end Lk75
namespace Lk75
open PySem PySem.Spec PyProof.Rows L2 L2.Dl
section
variable {cap : Str → Nat} {Sl : List Str} {W : Str → List Str} {O first : List Str} {p : Str → Str} {l : List Str}
/-- the plan as a map -/
def mOf (p : Str → Str) (l : List Str) (o : Str) : Option Str := if o ∈ l then some (p o) else none
theorem mOf_some {o s : Str} : mOf p l o = some s ↔ o ∈ l ∧ p o = s := by
  unfold mOf
  by_cases h : o ∈ l
  · simp [h]
  · simp [h]
theorem cnt_mOf (hp : Pl W O p l) (hf : first.Perm O) (nf : first.Nodup) (s : Str) : Sd.cnt (mOf p l) first s = (l.filter fun o => p o == s).length := by
  unfold Sd.cnt
  apply List.Perm.length_eq
  apply (List.perm_ext_iff_of_nodup (nf.filter _) (hp.nd.filter _)).mpr
  intro o
  simp only [List.mem_filter, decide_eq_true_eq, mOf_some, beq_iff_eq]
  constructor
  · rintro ⟨_, h⟩; exact h
  · rintro ⟨h1, h2⟩; exact ⟨hf.mem_iff.mpr (hp.mem o h1).1, h1, h2⟩
end
end Lk75
namespace Lk75
open PySem PySem.Spec PyProof.Rows L2 L2.Dl
section
variable {cap : Str → Nat} {Sl : List Str} {W : Str → List Str} {O first : List Str} {p : Str → Str} {l : List Str}
def upd1 (p : Str → Str) (o s : Str) : Str → Str := fun y => if y = o then s else p y
theorem mOf_new {o s : Str} (ho : o ∉ l) (y : Str) : mOf (upd1 p o s) (l ++ [o]) y = if y = o then some s else mOf p l y := by
  unfold mOf upd1
  by_cases z : y = o
  · subst z; simp
  · simp [z]
theorem planD_new {o s : Str} (ho : o ∉ l) : D.dct (putD (nd (fun o => .str (p o)) l) (.inr o) (.str s)) = planD (upd1 p o s) (l ++ [o]) := by
  have e : nd (fun o => D.str (p o)) l = nd (fun y => D.str (upd1 p o s y)) l := nd_congr fun x hx => by
    have : x ≠ o := fun z => ho (z ▸ hx)
    simp [upd1, this]
  rw [e, putD_nd_new ho (by simp [upd1])]
  rfl
end
end Lk75
namespace Lk75
open PySem PySem.Spec PyProof.Rows L2 L2.Dl
/-- a while loop by an invariant with a number that falls -/
theorem whileN_num {ft : M Bool} {body : M Fl} {I : Nat → SS → Prop} {Q : SS → Prop}
    (step : ∀ k S, I k S → ∃ b S1, ft S = .ok b S1 ∧ (b = true → ∃ k' S2, k' < k ∧ body S1 = .ok .nx S2 ∧ I k' S2) ∧ (b = false → Q S1)) : ∀ (n k : Nat) {S : SS}, I k S → k < n → ∃ S', whileN ft body n S = .ok .nx S' ∧ Q S'
  | 0, k, S, _, h => by omega
  | n + 1, k, S, hI, h => by
    obtain ⟨b, S1, e1, h1, h2⟩ := step k S hI
    unfold whileN
    simp only [e1, Res.bind]
    cases b with
    | false => exact ⟨S1, by simp, h2 rfl⟩
    | true =>
      obtain ⟨k', S2, hk, e2, hI2⟩ := h1 rfl
      obtain ⟨S', e3, hQ⟩ := whileN_num step n k' hI2 (by omega)
      exact ⟨S', by simp only [if_true, e2]; exact e3, hQ⟩
theorem dcL_names {v : Nat} {fe : M R} {S0 : SS} (hv : S0[v]? = some .un) (hlt : v < S0.length) (f : Str → D) : ∀ (l acc : List Str), (acc ++ l).Nodup →
    (∀ s ∈ l, ∃ r, fe (S0.set v (.shr (.str s))) = .ok r (S0.set v (.shr (.str s))) ∧ valR (S0.set v (.shr (.str s))) r = some (f s, S0.set v (.shr (.str s)))) →
    dcL [v] (tNm v) sYes (sNm v) fe (nd f acc) (l.map .str) S0 = .ok (nd f (acc ++ l)) S0
  | [], acc, _, _ => by simp [dcL]
  | s :: l, acc, hn, h => by
    obtain ⟨r, e1, e2⟩ := h s List.mem_cons_self
    have hn' : ((acc ++ [s]) ++ l).Nodup := by simpa using hn
    have ih := dcL_names hv hlt f l (acc ++ [s]) hn' fun x hx => h x (List.mem_cons_of_mem _ hx)
    have hs : s ∉ acc := fun z => (List.nodup_append.mp hn).2.2 s z s List.mem_cons_self rfl
    have hk : sNm v (S0.set v (.shr (.str s))) = .ok (.at v) (S0.set v (.shr (.str s))) := ok_shr (List.getElem?_set_self hlt)
    have hl : (look (S0.set v (.shr (.str s))) (.at v)).bind Dl.keyOf = some (.inr s) := by
      show ((match (S0.set v (.shr (.str s)))[v]? with
        | some x => x.data
        | none => none) : Option D).bind Dl.keyOf = _
      rw [List.getElem?_set_self hlt]; rfl
    have hw : wipeS (S0.set v (.shr (.str s))) [v] = S0 := by
      show (S0.set v (.shr (.str s))).set v .un = S0
      rw [set_set, set_same hv]
    simp only [List.map_cons]
    unfold dcL
    simp only [tNm, sYes, noEx, Res.bind, if_true, hk, e1, hl, e2, hw, putD_nd_new hs rfl, ih, List.append_assoc, List.singleton_append]
/-- {x: e(x) for x in names} -/
theorem dc_names {v : Nat} {fi : M (List D)} {fe : M R} {S S1 : SS} {l : List Str} {w : AV} (f : Str → D) (hi : fi S = .ok (l.map .str) S1) (hl : l.length ≤ 1000000) (hn : l.Nodup) (hv : S1[v]? = some w)
    (h : ∀ s ∈ l, ∃ r, fe (S1.set v (.shr (.str s))) = .ok r (S1.set v (.shr (.str s))) ∧ valR (S1.set v (.shr (.str s))) r = some (f s, S1.set v (.shr (.str s)))) : sDc [v] fi (tNm v) sYes (sNm v) fe S = .ok (.f (.dct (nd f l))) S1 := by
  have hlt : v < S1.length := by
    by_cases z : v < S1.length
    · exact z
    · rw [List.getElem?_eq_none (by omega)] at hv; cases hv
  have hv0 : (S1.set v .un)[v]? = some .un := by rw [List.getElem?_set_self hlt]
  have q := dcL_names (fe := fe) hv0 (by simpa using hlt) f l [] (by simpa using hn) (by simpa only [set_set] using h)
  have hw : wipeS S1 [v] = S1.set v .un := rfl
  have q : dcL [v] (tNm v) sYes (sNm v) fe [] (l.map .str) (S1.set v .un) = .ok (nd f l) (S1.set v .un) := q
  unfold sDc
  rw [hi]
  simp only [Res.bind, List.length_map, if_pos hl, hw, q, noEx]
  show Res.ok _ (match S1[v]? with
    | some w => (S1.set v .un).set v w
    | none => S1.set v .un) = _
  rw [hv]
  simp only [set_set, set_same hv]
end Lk75
namespace Lk75
open PySem PySem.Spec PyProof.Rows L2 L2.Dl
theorem ok_sSortL {n : Nat} {js : List Nat} {fb fa : M R} {S S1 : SS} {ra r : R} {l ks : List D} {cs : SS} (ha : fa S = .ok ra S1) (hl : lookLst S1 ra = some l) (hc : capsD S1 js = some cs) (hk : keysL n fb cs l = some ks) (hs : sortR l ks = some r) : sSortL n js fb fa S = .ok r S1 := by
  unfold sSortL sortLk; simp only [ha, Res.bind, hl, hc, hk, hs, lift]
theorem keysL_map {α : Type} {n : Nat} {fb : M R} {cs : SS} (f k : α → D) : ∀ (l : List α), (∀ x ∈ l, keyL n fb cs (f x) = some (k x)) → keysL n fb cs (l.map f) = some (l.map k)
  | [], _ => rfl
  | x :: l, h => by
    simp only [List.map_cons]
    unfold keysL
    rw [h x List.mem_cons_self, keysL_map f k l fun y hy => h y (List.mem_cons_of_mem _ hy)]
theorem last_at {l : List Str} {x : Str} : subscD (.lst ((l ++ [x]).map .str)) (.int (-1)) = some (.v (.str x)) := by
  show (atI ((l ++ [x]).map D.str) (-1)).map R.v = _
  unfold atI ixN
  rw [if_neg (by omega), if_pos (by simp; omega)]
  have e : (-1 + (((l ++ [x]).map D.str).length : Int)).toNat = l.length := by simp; omega
  simp only [Option.bind, e]
  simp
theorem callK_flat (S : SS) (bo : List Nat) (l : List Str) : (Res.ok (if true = true then R.f (.lst (l.map .str)) else R.v (.lst (l.map .str))) (callK S [] bo (flatR true (.lst (l.map .str))) []) : Res R) = .ok (.f (.lst (l.map .str))) S := by
  have e : flatR true (D.lst (l.map .str)) = true := by
    simp only [flatR, if_true, D.flat]
    exact all_sc_str l
  unfold callK
  rw [e]
  simp [setIO]
section
variable {cap : Str → Nat} {Sl : List Str} {W : Str → List Str} {O first : List Str} {Rk : Str → List Str} {p : Str → Str} {l wt : List Str} {asked : Str → Nat}
abbrev askD (asked : Str → Nat) (O : List Str) : D := .dct (nd (fun o => .int (asked o : Nat)) O)
abbrev spS (cap : Str → Nat) (Sl : List Str) (W : Str → List Str) (O : List Str) (Rk : Str → List Str) (asked : Str → Nat) (p : Str → Str) (l wt : List Str) (a b c : AV) : SS :=
  [.shr (placesD cap Sl), .shr (rowsD W O), .shr (rowsD Rk Sl), .own none (askD asked O), .own none (planD p l), .own none (.lst (wt.map .str)), a, b, c]
noncomputable abbrev spTail : M Fl := (sIfS (sCmpT gtD (sCall gLen (sCons (sNm 8) sNil)) (sOp subscD (sNm 0) (sNm 7))) (sSeq (sDel 4 (sOp subscD (sNm 8) (sUn negD (sV (.int 1)))))
    (sExpr (mutL 5 gApp (sCons (sOp subscD (sNm 8) (sUn negD (sV (.int 1)))) sNil)))) sNext)
noncomputable abbrev spBody : M Fl := (sSeq (sAsg 6 (mutL 5 gPop sNil))
    (sIfS (sCmpT ltD (sOp subscD (sNm 3) (sNm 6)) (sCall gLen (sCons (sOp subscD (sNm 1) (sNm 6)) sNil))) (sSeq (sAsg 7 (sOp subscD (sOp subscD (sNm 1) (sNm 6)) (sOp subscD (sNm 3) (sNm 6))))
    (sSeq (sAugS 3 (sNm 6) (sV (.int 1)) iaddD)
    (sSeq (sPut 4 (sNm 7) (sNm 6))
    (sSeq (sAsg 8 (sSortL 3 [2, 7] (callM [false, false] Fn_place_in (sCons (sOp subscD (sNm 1) (sNm 2)) (sCons (sNm 0) sNil))) (callM [false, false] Fn_holders (sCons (sNm 4) (sCons (sNm 7) sNil)))))
    spTail)))) sNext))
noncomputable def rowOf (Rk : Str → List Str) (p : Str → Str) (l : List Str) (s : Str) : List Str := sortI (fun y => ((Rk s).idxOf y : Int)) (sortS (l.filter fun y => p y == s))
theorem rowOf_perm (s : Str) : (rowOf Rk p l s).Perm (l.filter fun y => p y == s) := (sortI_perm _ _).trans (sortS_perm _)
theorem ShR.mem_rk (h : ShR cap Sl W O Rk) {s : Str} (hs : s ∈ Sl) (y : Str) : y ∈ Rk s ↔ y ∈ O ∧ s ∈ W y := by
  rw [(h.rk s hs).mem_iff, List.mem_filter]; simp
theorem ShR.len_rk (h : ShR cap Sl W O Rk) {s : Str} (hs : s ∈ Sl) : (Rk s).length ≤ 400 := by
  rw [(h.rk s hs).length_eq]
  exact Nat.le_trans (List.length_filter_le _ _) h.lo
theorem ShR.lay_rk (h : ShR cap Sl W O Rk) {s : Str} (hs : s ∈ Sl) : ∀ y ∈ Rk s, Lay y := fun y hy => h.yo y ((h.mem_rk hs y).mp hy).1
theorem sp_row (h : ShR cap Sl W O Rk) (hp : Pl W O p l) {o s : Str} (hs : s ∈ Sl) (c : AV) :
    sSortL 3 [2, 7] (callM [false, false] Fn_place_in (sCons (sOp subscD (sNm 1) (sNm 2)) (sCons (sNm 0) sNil))) (callM [false, false] Fn_holders (sCons (sNm 4) (sCons (sNm 7) sNil))) (spS cap Sl W O Rk asked p l wt (.shr (.str o)) (.shr (.str s)) c) =
      .ok (.f (.lst ((rowOf Rk p l s).map .str))) (spS cap Sl W O Rk asked p l wt (.shr (.str o)) (.shr (.str s)) c) := by
  have hl := hp.len h.lo
  refine ok_sSortL (ra := .f (.lst ((sortS (l.filter fun y => p y == s)).map .str))) (l := (sortS (l.filter fun y => p y == s)).map .str) (cs := [.shr (rowsD Rk Sl), .shr (.str s)]) (ks := (sortS (l.filter fun y => p y == s)).map fun y => .int ((Rk s).idxOf y : Int))
    (Eq.trans (ok_callM (io := []) (bo := [4]) (ok_sCons rfl (ok_sCons rfl rfl)) rfl (by simp) (holders_eq (by omega) (hp.lay h.toSh) (h.ys s hs))) (callK_flat _ _ _)) rfl rfl (keysL_map _ _ _ fun y hy => ?_) (sortR_int _ _ _)
  obtain ⟨y1, y2⟩ := List.mem_filter.mp (mem_sortS.mp hy)
  have ys : p y = s := by simpa using y2
  have yr : y ∈ Rk s := (h.mem_rk hs y).mpr ⟨(hp.mem y y1).1, ys ▸ (hp.mem y y1).2⟩
  have rl := h.len_rk hs
  have e : (callM [false, false] Fn_place_in (sCons (sOp subscD (sNm 1) (sNm 2)) (sCons (sNm 0) sNil))) (lamS 3 [.shr (rowsD Rk Sl), .shr (.str s)] (.str y)) = .ok (.v (.int ((Rk s).idxOf y : Nat))) (lamS 3 [.shr (rowsD Rk Sl), .shr (.str s)] (.str y)) :=
    Eq.trans (ok_callM (io := []) (bo := []) (ok_sCons (ok_sOp (r := .v (.lst ((Rk s).map .str))) rfl rfl rfl rfl (subscD_nd hs)) (ok_sCons rfl rfl)) rfl (by simp) (place_in_eq (by omega) (h.lay_rk hs) yr)) rfl
  unfold keyL
  rw [e]
  rfl
def bump (asked : Str → Nat) (o : Str) : Str → Nat := fun y => if y = o then asked o + 1 else asked y
theorem nd_bump (o : Str) (l : List Str) : nd (fun x => if x = o then D.int ((asked o : Int) + 1) else .int (asked x : Nat)) l = nd (fun y => .int ((bump asked o y : Nat) : Int)) l := nd_congr fun x _ => by
  unfold bump
  split <;> simp
theorem sp_skip (h : ShR cap Sl W O Rk) {o : Str} (ho : o ∈ O) (ha : asked o = (W o).length) (a b c : AV) :
    spBody (spS cap Sl W O Rk asked p l (wt ++ [o]) a b c) = .ok .nx (spS cap Sl W O Rk asked p l wt (.shr (.str o)) b c) := by
  refine ok_sSeq (S1 := spS cap Sl W O Rk asked p l wt (.shr (.str o)) b c) (ok_sAsg (ra := .v (.str o)) (ok_mutL (t0 := none) (t := none) (l0 := (wt ++ [o]).map .str) (l := (wt ++ [o]).map .str) (l' := wt.map .str) rfl rfl rfl rfl ?_) rfl)
    (ok_sIfF (ok_sCmpT (ok_sOp (r := .v (.int (asked o : Nat))) rfl rfl rfl rfl (subscD_nd ho)) (ok_sCall (ok_sCons (ok_sOp (r := .v (.lst ((W o).map .str))) rfl rfl rfl rfl (subscD_nd ho)) rfl) rfl (gLen_strs _)) rfl rfl ?_) rfl)
  · simp [gPop]
  · rw [ltD_nat]; simp [ha]
theorem sp_ask (h : ShR cap Sl W O Rk) (hp : Pl W O p l) {o s : Str} (ho : o ∈ O) (hl : o ∉ l) (hs : (W o)[asked o]? = some s) (a b c : AV) :
    spBody (spS cap Sl W O Rk asked p l (wt ++ [o]) a b c) = spTail (spS cap Sl W O Rk (bump asked o) (upd1 p o s) (l ++ [o]) wt (.shr (.str o)) (.shr (.str s)) (.own none (.lst ((rowOf Rk (upd1 p o s) (l ++ [o]) s).map .str)))) := by
  obtain ⟨h1, _⟩ := List.getElem?_eq_some_iff.mp hs
  have hsW := List.mem_of_getElem? hs
  have ll := hp.len h.lo
  have lo := h.lo
  have hp' : Pl W O (upd1 p o s) (l ++ [o]) := ⟨List.nodup_append.mpr ⟨hp.nd, by simp, fun x hx y hy => by rw [List.mem_singleton.mp hy]; exact fun z => hl (z ▸ hx)⟩, fun y hy => by
    by_cases z : y = o
    · subst z; exact ⟨ho, by simp [upd1, hsW]⟩
    · have hy' : y ∈ l := by
        rcases List.mem_append.mp hy with w | w
        · exact w
        · exact absurd (List.mem_singleton.mp w) z
      exact ⟨(hp.mem y hy').1, by simp [upd1, z, (hp.mem y hy').2]⟩⟩
  refine ok_sSeq (S1 := spS cap Sl W O Rk asked p l wt (.shr (.str o)) b c) (ok_sAsg (ra := .v (.str o)) (ok_mutL (t0 := none) (t := none) (l0 := (wt ++ [o]).map .str) (l := (wt ++ [o]).map .str) (l' := wt.map .str) rfl rfl rfl rfl ?_) rfl)
    (ok_sIfT (ok_sCmpT (ok_sOp (r := .v (.int (asked o : Nat))) rfl rfl rfl rfl (subscD_nd ho)) (ok_sCall (ok_sCons (ok_sOp (r := .v (.lst ((W o).map .str))) rfl rfl rfl rfl (subscD_nd ho)) rfl) rfl (gLen_strs _)) rfl rfl ?_)
      (ok_sSeq (S1 := spS cap Sl W O Rk asked p l wt (.shr (.str o)) (.shr (.str s)) c) (ok_sAsg (ra := .v (.str s)) (ok_sOp (r := .v (.str s)) (ok_sOp (r := .v (.lst ((W o).map .str))) rfl rfl rfl rfl (subscD_nd ho)) (ok_sOp (r := .v (.int (asked o : Nat))) rfl rfl rfl rfl (subscD_nd ho)) rfl rfl ?_) rfl)
      (ok_sSeq (S1 := spS cap Sl W O Rk (bump asked o) p l wt (.shr (.str o)) (.shr (.str s)) c) (Eq.trans (ok_sAugS (c := askD asked O) (c1 := askD asked O) (c2 := askD asked O) (t0 := none) (t1 := none) (t := none) (k := .str o) (k2 := .str o) (d0 := .int (asked o : Nat)) (d1 := .int 1) (d2 := .int ((asked o : Int) + 1)) (c' := askD (bump asked o) O) rfl rfl rfl rfl (valD_nd ho) rfl rfl rfl rfl rfl ?_) rfl)
      (ok_sSeq (S1 := spS cap Sl W O Rk (bump asked o) (upd1 p o s) (l ++ [o]) wt (.shr (.str o)) (.shr (.str s)) c) (Eq.trans (ok_sPut (c := planD p l) (t := none) (c' := planD (upd1 p o s) (l ++ [o])) (d := .str s) (k := .str o) rfl rfl rfl rfl rfl rfl ?_) rfl)
      (ok_sSeq (ok_sAsg (sp_row h hp' (h.ws o ho s hsW) c) rfl) rfl)))))
  · simp [gPop]
  · rw [ltD_nat]; simp [h1]
  · show (atI ((W o).map D.str) ((asked o : Nat) : Int)).map R.v = _
    rw [atI_nat (x := .str s) (by rw [List.getElem?_map, hs]; rfl)]; rfl
  · show (if (nd (fun y => D.int (asked y : Nat)) O).length < 1000000 then some (D.dct (putD (nd (fun y => D.int (asked y : Nat)) O) (.inr o) _)) else none) = _
    rw [if_pos (by simp [nd]; omega), putD_nd_old ho, nd_bump]
  · show (if (nd (fun o => D.str (p o)) l).length < 1000000 then some (D.dct (putD (nd (fun o => D.str (p o)) l) (.inr o) (.str s))) else none) = _
    rw [if_pos (by simp [nd]; omega), planD_new hl]
end
end Lk75
namespace Lk75
open PySem PySem.Spec PyProof.Rows L2 L2.Dl
section
variable {cap : Str → Nat} {Sl : List Str} {W : Str → List Str} {O first : List Str} {Rk : Str → List Str} {p : Str → Str} {l wt : List Str} {asked : Str → Nat} {m : Str → Option Str}
theorem sp_keep {s : Str} {R : List Str} (hs : s ∈ Sl) (hc : R.length ≤ cap s) (a : AV) :
    spTail (spS cap Sl W O Rk asked p l wt a (.shr (.str s)) (.own none (.lst (R.map .str)))) = .ok .nx (spS cap Sl W O Rk asked p l wt a (.shr (.str s)) (.own none (.lst (R.map .str)))) := by
  refine ok_sIfF (ok_sCmpT (ok_sCall (ok_sCons rfl rfl) rfl (gLen_strs _)) (ok_sOp (r := .v (.int (cap s : Nat))) rfl rfl rfl rfl (subscD_nd hs)) rfl rfl ?_) rfl
  rw [gtD_nat]
  have : ¬ cap s < R.length := by omega
  simp [this]
theorem sp_drop {s x : Str} {R : List Str} (hs : s ∈ Sl) (hx : x ∈ l) (hw : wt.length < 1000000) (hc : cap s < (R ++ [x]).length) (a : AV) :
    spTail (spS cap Sl W O Rk asked p l wt a (.shr (.str s)) (.own none (.lst ((R ++ [x]).map .str)))) = .ok .nx (spS cap Sl W O Rk asked p (l.filter fun y => decide (y ≠ x)) (wt ++ [x]) a (.shr (.str s)) (.own none (.lst ((R ++ [x]).map .str)))) := by
  refine ok_sIfT (ok_sCmpT (ok_sCall (ok_sCons rfl rfl) rfl (gLen_strs _)) (ok_sOp (r := .v (.int (cap s : Nat))) rfl rfl rfl rfl (subscD_nd hs)) rfl rfl ?_)
    (ok_sSeq (S1 := spS cap Sl W O Rk asked p (l.filter fun y => decide (y ≠ x)) wt a (.shr (.str s)) (.own none (.lst ((R ++ [x]).map .str))))
      (Eq.trans (ok_sDel (t0 := none) (t := none) (l0 := nd (fun o => .str (p o)) l) (l := nd (fun o => .str (p o)) l) (kk := .inr x) (k := .str x) rfl (ok_sOp (r := .v (.str x)) rfl (ok_sUn (r := .v (.int (-1))) rfl rfl rfl) rfl rfl last_at) rfl rfl rfl ?_) ?_)
      (ok_sExpr (ra := .v .non) (Eq.trans (ok_mutL (t0 := none) (t := none) (l0 := wt.map .str) (l := wt.map .str) (l' := (wt ++ [x]).map .str) (d := .non) rfl (ok_sCons (ok_sOp (r := .v (.str x)) rfl (ok_sUn (r := .v (.int (-1))) rfl rfl rfl) rfl rfl last_at) rfl) rfl rfl ?_) rfl)))
  · rw [gtD_nat]
    simp only [hc, decide_true]
  · rw [valD_nd hx]; rfl
  · rw [dropD_nd]; rfl
  · unfold gApp
    simp only [List.length_map, if_pos hw, List.map_append, List.map_cons, List.map_nil]
def leftN (W : Str → List Str) (asked : Str → Nat) (O : List Str) : Nat := (O.map fun o => (W o).length - asked o).sum
theorem leftN_bump : ∀ {O : List Str} {o : Str}, O.Nodup → o ∈ O → asked o < (W o).length → leftN W (bump asked o) O + 1 = leftN W asked O
  | [], _, _, h, _ => by cases h
  | a :: O, o, hn, ho, hl => by
    obtain ⟨h1, h2⟩ := List.nodup_cons.mp hn
    by_cases z : a = o
    · subst z
      have e : leftN W (bump asked a) O = leftN W asked O := by
        unfold leftN
        congr 1
        apply List.map_congr_left
        intro y hy
        have : y ≠ a := fun q => h1 (q ▸ hy)
        simp [bump, this]
      show ((W a).length - bump asked a a) + leftN W (bump asked a) O + 1 = ((W a).length - asked a) + leftN W asked O
      rw [e]
      simp only [bump, if_true]
      omega
    · have ih := leftN_bump h2 ((List.mem_cons.mp ho).resolve_left fun q => z q.symm) hl
      show ((W a).length - bump asked o a) + leftN W (bump asked o) O + 1 = ((W a).length - asked a) + leftN W asked O
      have : bump asked o a = asked a := by simp [bump, z]
      rw [this]
      omega
theorem leftN_le (hw : ∀ o ∈ O, (W o).length ≤ 400) : leftN W asked O ≤ 400 * O.length := by
  induction O with
  | nil => simp [leftN]
  | cons a O ih =>
    have := ih fun o ho => hw o (List.mem_cons_of_mem _ ho)
    have := hw a List.mem_cons_self
    show ((W a).length - asked a) + leftN W asked O ≤ 400 * (O.length + 1)
    omega
theorem filter_new {o s : Str} (hl : o ∉ l) (t : Str) : (l ++ [o]).filter (fun y => upd1 p o s y == t) = l.filter (fun y => p y == t) ++ if s = t then [o] else [] := by
  rw [List.filter_append]
  congr 1
  · apply List.filter_congr
    intro y hy
    have : y ≠ o := fun z => hl (z ▸ hy)
    simp [upd1, this]
  · by_cases e : s = t
    · simp [upd1, e]
    · simp [upd1, e]
theorem mOf_drop {x : Str} (y : Str) : mOf p (l.filter fun y => decide (y ≠ x)) y = if y = x then none else mOf p l y := by
  unfold mOf
  by_cases e : y = x
  · simp [e]
  · simp [e]
theorem Pl.new (hp : Pl W O p l) {o s : Str} (ho : o ∈ O) (hl : o ∉ l) (hsW : s ∈ W o) : Pl W O (upd1 p o s) (l ++ [o]) :=
  ⟨List.nodup_append.mpr ⟨hp.nd, by simp, fun x hx y hy => by rw [List.mem_singleton.mp hy]; exact fun z => hl (z ▸ hx)⟩, fun y hy => by
    by_cases z : y = o
    · subst z; exact ⟨ho, by simp [upd1, hsW]⟩
    · have hy' : y ∈ l := by
        rcases List.mem_append.mp hy with w | w
        · exact w
        · exact absurd (List.mem_singleton.mp w) z
      exact ⟨(hp.mem y hy').1, by simp [upd1, z, (hp.mem y hy').2]⟩⟩
theorem filter_ne_len {l : List Str} {x : Str} (hn : l.Nodup) (hx : x ∈ l) : (l.filter fun y => decide (y ≠ x)).length + 1 = l.length := by
  have e : (l.filter fun y => decide (y ≠ x)) = l.erase x := by
    rw [hn.erase_eq_filter]
    apply List.filter_congr
    intro y _
    by_cases z : y = x <;> simp [z]
  rw [e, List.length_erase_of_mem hx]
  have := List.length_pos_of_mem hx
  omega
theorem put_mOf {o s : Str} (hl : o ∉ l) : mOf (upd1 p o s) (l ++ [o]) = Gs.put (mOf p l) o s := funext fun y => mOf_new hl y
theorem drop_mOf {x : Str} : mOf p (l.filter fun y => decide (y ≠ x)) = Gs.dropO (mOf p l) x := funext fun y => mOf_drop y
structure SpInv (cap : Str → Nat) (W : Str → List Str) (O : List Str) (Rk : Str → List Str) (asked : Str → Nat) (p : Str → Str) (l wt : List Str) : Prop where
  ob : Gs.OB W O asked (mOf p l)
  oi : ∀ m, Gs.Stable cap W O Rk m → Gs.OI W O m asked (mOf p l)
  rj : Gs.RJ cap W O Rk asked (mOf p l)
  pl : Pl W O p l
  nw : wt.Nodup
  mw : ∀ o ∈ wt, o ∈ O ∧ o ∉ l
  dn : ∀ o ∈ O, o ∉ l → o ∉ wt → asked o = (W o).length
  cp : ∀ s, (l.filter fun o => p o == s).length ≤ cap s
variable {o : Str}
theorem SpInv.skip (I : SpInv cap W O Rk asked p l (wt ++ [o])) (ha : asked o = (W o).length) : SpInv cap W O Rk asked p l wt where
  ob := I.ob
  oi := I.oi
  rj := I.rj
  pl := I.pl
  nw := (List.nodup_append.mp I.nw).1
  mw := fun y hy => I.mw y (List.mem_append_left _ hy)
  dn := fun y hy hl hw => by
    by_cases z : y = o
    · subst z; exact ha
    · exact I.dn y hy hl fun q => (List.mem_append.mp q).elim hw fun q => z (List.mem_singleton.mp q)
  cp := I.cp
theorem SpInv.keep (I : SpInv cap W O Rk asked p l (wt ++ [o])) (g : Gs.Given cap W O Rk) {s : Str} (hs : (W o)[asked o]? = some s)
    (hc : ((l ++ [o]).filter fun y => upd1 p o s y == s).length ≤ cap s) : SpInv cap W O Rk (bump asked o) (upd1 p o s) (l ++ [o]) wt := by
  obtain ⟨ho, hl⟩ := I.mw o (by simp)
  have ow : o ∉ wt := fun z => (List.nodup_append.mp I.nw).2.2 o z o (by simp) rfl
  have P := I.pl.new ho hl (List.mem_of_getElem? hs)
  have po : mOf p l o = none := by simp [mOf, hl]
  have cn := cnt_mOf P (List.Perm.refl O) g.nL s
  rw [put_mOf hl] at cn
  refine ⟨?_, fun m hm => ?_, ?_, P, (List.nodup_append.mp I.nw).1, fun y hy => ?_, fun y hy h1 h2 => ?_, fun t => ?_⟩
  · rw [put_mOf hl]; exact I.ob.ask hs
  · rw [put_mOf hl]; exact (I.oi m hm).ask g hm.toPlan ho po hs
  · rw [put_mOf hl]; exact I.rj.keep g ho po hs (by rw [cn]; exact hc)
  · obtain ⟨a, b⟩ := I.mw y (List.mem_append_left _ hy)
    refine ⟨a, fun z => ?_⟩
    rcases List.mem_append.mp z with z | z
    · exact b z
    · exact ow (List.mem_singleton.mp z ▸ hy)
  · have yo : y ≠ o := fun z => h1 (by simp [z])
    have : bump asked o y = asked y := by simp [bump, yo]
    rw [this]
    exact I.dn y hy (fun z => h1 (List.mem_append_left _ z)) fun z => (List.mem_append.mp z).elim h2 fun z => yo (List.mem_singleton.mp z)
  · by_cases e : s = t
    · subst e; exact hc
    · rw [filter_new hl, if_neg e, List.append_nil]
      exact I.cp t
theorem SpInv.drop (I : SpInv cap W O Rk asked p l (wt ++ [o])) (g : Gs.Given cap W O Rk) {s x : Str} (hs : (W o)[asked o]? = some s)
    (hc : cap s < ((l ++ [o]).filter fun y => upd1 p o s y == s).length) (hx : x ∈ l ++ [o]) (px : upd1 p o s x = s) (hw : ∀ y ∈ l ++ [o], upd1 p o s y = s → (Rk s).idxOf y ≤ (Rk s).idxOf x) :
    SpInv cap W O Rk (bump asked o) (upd1 p o s) ((l ++ [o]).filter fun y => decide (y ≠ x)) (wt ++ [x]) := by
  obtain ⟨ho, hl⟩ := I.mw o (by simp)
  have ow : o ∉ wt := fun z => (List.nodup_append.mp I.nw).2.2 o z o (by simp) rfl
  have P := I.pl.new ho hl (List.mem_of_getElem? hs)
  have xO := (P.mem x hx).1
  have po : mOf p l o = none := by simp [mOf, hl]
  have xw : x ∉ wt := fun z => by
    rcases List.mem_append.mp hx with q | q
    · exact (I.mw x (List.mem_append_left _ z)).2 q
    · exact ow (List.mem_singleton.mp q ▸ z)
  have cn := cnt_mOf P (List.Perm.refl O) g.nL s
  have pxs : mOf (upd1 p o s) (l ++ [o]) x = some s := mOf_some.mpr ⟨hx, px⟩
  have hw' : ∀ y ∈ O, mOf (upd1 p o s) (l ++ [o]) y = some s → (Rk s).idxOf y ≤ (Rk s).idxOf x := fun y _ e => hw y (mOf_some.mp e).1 (mOf_some.mp e).2
  have wx : s ∈ W x := by have := (P.mem x hx).2; rw [px] at this; exact this
  have wp : ∀ y ∈ O, ∀ t, mOf (upd1 p o s) (l ++ [o]) y = some t → t ∈ W y := fun y _ t e => by
    obtain ⟨e1, e2⟩ := mOf_some.mp e
    exact e2 ▸ (P.mem y e1).2
  rw [← cn] at hc
  rw [put_mOf hl] at cn pxs hw' wp hc
  refine ⟨?_, fun m hm => ?_, ?_, ⟨P.nd.filter _, fun y hy => P.mem y (List.mem_filter.mp hy).1⟩, ?_, fun y hy => ?_, fun y hy h1 h2 => ?_, fun t => ?_⟩
  · rw [drop_mOf, put_mOf hl]; exact (I.ob.ask hs).drop
  · rw [drop_mOf, put_mOf hl]; exact ((I.oi m hm).ask g hm.toPlan ho po hs).drop (I.ob.ask hs) g hm xO pxs wx hc hw'
  · rw [drop_mOf, put_mOf hl]; exact I.rj.drop g ho po hs xO pxs hc hw' wx wp
  · exact List.nodup_append.mpr ⟨(List.nodup_append.mp I.nw).1, by simp, fun a ha b hb => by rw [List.mem_singleton.mp hb]; exact fun z => xw (z ▸ ha)⟩
  · rcases List.mem_append.mp hy with z | z
    · obtain ⟨a, b⟩ := I.mw y (List.mem_append_left _ z)
      refine ⟨a, fun w => ?_⟩
      rcases List.mem_append.mp (List.mem_filter.mp w).1 with w | w
      · exact b w
      · exact ow (List.mem_singleton.mp w ▸ z)
    · rw [List.mem_singleton.mp z]
      exact ⟨xO, fun w => by simpa using (List.mem_filter.mp w).2⟩
  · have yx : y ≠ x := fun z => h2 (by simp [z])
    have h1' : y ∉ l ++ [o] := fun z => h1 (List.mem_filter.mpr ⟨z, by simpa using yx⟩)
    have yo : y ≠ o := fun z => h1' (by simp [z])
    have : bump asked o y = asked y := by simp [bump, yo]
    rw [this]
    exact I.dn y hy (fun z => h1' (List.mem_append_left _ z)) fun z => (List.mem_append.mp z).elim (fun z => h2 (List.mem_append_left _ z)) fun z => yo (List.mem_singleton.mp z)
  · rw [List.filter_filter]
    by_cases e : t = s
    · subst e
      have e3 : ((l ++ [o]).filter fun y => (upd1 p o t y == t) && decide (y ≠ x)) = ((l ++ [o]).filter fun y => upd1 p o t y == t).filter fun y => decide (y ≠ x) := by
        rw [List.filter_filter]
        apply List.filter_congr
        intro y _
        exact Bool.and_comm _ _
      have := filter_ne_len (x := x) (P.nd.filter fun y => upd1 p o t y == t) (List.mem_filter.mpr ⟨hx, by simpa using px⟩)
      rw [← e3] at this
      have old := I.cp t
      have new := congrArg List.length (filter_new (p := p) (s := t) hl t)
      rw [if_pos rfl, List.length_append] at new
      simp only [List.length_cons, List.length_nil] at new
      omega
    · have e3 : ((l ++ [o]).filter fun y => (upd1 p o s y == t) && decide (y ≠ x)) = (l ++ [o]).filter fun y => upd1 p o s y == t := by
        apply List.filter_congr
        intro y _
        by_cases z : y = x
        · subst z
          have : (upd1 p o s y == t) = false := by rw [px]; exact beq_eq_false_iff_ne.mpr fun q => e q.symm
          simp [this]
        · simp [z]
      rw [e3, filter_new hl, if_neg fun q => e q.symm, List.append_nil]
      exact I.cp t
end
end Lk75
namespace Lk75
open PySem PySem.Spec PyProof.Rows L2 L2.Dl
section
variable {cap : Str → Nat} {Sl : List Str} {W : Str → List Str} {O first : List Str} {Rk : Str → List Str} {p : Str → Str} {l wt : List Str} {asked : Str → Nat} {m : Str → Option Str}
theorem last_max {R : List Str} {x : Str} {f : Str → Int} (h : (R ++ [x]).Pairwise fun a b => f a ≤ f b) : ∀ y ∈ R ++ [x], f y ≤ f x := by
  intro y hy
  rcases List.mem_append.mp hy with z | z
  · exact (List.pairwise_append.mp h).2.2 y z x (by simp)
  · rw [List.mem_singleton.mp z]; exact Int.le_refl _
/-- one turn of the loop -/
theorem sp_step (h : ShR cap Sl W O Rk) (g : Gs.Given cap W O Rk) {o : Str} (I : SpInv cap W O Rk asked p l (wt ++ [o])) (a b c : AV) :
    ∃ asked' p' l' wt' a' b' c', spBody (spS cap Sl W O Rk asked p l (wt ++ [o]) a b c) = .ok .nx (spS cap Sl W O Rk asked' p' l' wt' a' b' c') ∧ SpInv cap W O Rk asked' p' l' wt' ∧ 2 * leftN W asked' O + wt'.length < 2 * leftN W asked O + (wt ++ [o]).length := by
  obtain ⟨ho, hl⟩ := I.mw o (by simp)
  have hle := I.ob.le o ho
  by_cases hlt : asked o < (W o).length
  · obtain ⟨s, hs⟩ : ∃ s, (W o)[asked o]? = some s := ⟨_, List.getElem?_eq_getElem hlt⟩
    have hsW := List.mem_of_getElem? hs
    have hsl := h.ws o ho s hsW
    have hb := leftN_bump (W := W) (asked := asked) h.no ho hlt
    have e := sp_ask (cap := cap) (Sl := Sl) (Rk := Rk) (wt := wt) h I.pl ho hl hs a b c
    have rp := rowOf_perm (Rk := Rk) (p := upd1 p o s) (l := l ++ [o]) s
    have wl : wt.length ≤ 400 := by
      refine Nat.le_trans (nodup_le (List.nodup_append.mp I.nw).1 fun y hy => (I.mw y (List.mem_append_left _ hy)).1) h.lo
    by_cases hc : ((l ++ [o]).filter fun y => upd1 p o s y == s).length ≤ cap s
    · refine ⟨bump asked o, upd1 p o s, l ++ [o], wt, _, _, _, e.trans (sp_keep hsl (by rw [rp.length_eq]; exact hc) _), I.keep g hs hc, ?_⟩
      rw [List.length_append]
      simp only [List.length_cons, List.length_nil]
      omega
    · have hc : cap s < ((l ++ [o]).filter fun y => upd1 p o s y == s).length := by omega
      have sorted := sortI_sorted (fun y => ((Rk s).idxOf y : Int)) (sortS ((l ++ [o]).filter fun y => upd1 p o s y == s))
      rcases List.eq_nil_or_concat (rowOf Rk (upd1 p o s) (l ++ [o]) s) with z | ⟨R, x, z⟩
      · rw [← rp.length_eq, z] at hc
        simp at hc
      · rw [List.concat_eq_append] at z
        have hxm : x ∈ (l ++ [o]).filter fun y => upd1 p o s y == s := rp.mem_iff.mp (by rw [z]; simp)
        obtain ⟨x1, x2⟩ := List.mem_filter.mp hxm
        have x2 : upd1 p o s x = s := by simpa using x2
        have P := I.pl.new ho hl hsW
        have so : (R ++ [x]).Pairwise fun a b => ((Rk s).idxOf a : Int) ≤ ((Rk s).idxOf b : Int) := by
          have q : (rowOf Rk (upd1 p o s) (l ++ [o]) s).Pairwise fun a b => ((Rk s).idxOf a : Int) ≤ ((Rk s).idxOf b : Int) := sorted
          rw [z] at q
          exact q
        have hw : ∀ y ∈ l ++ [o], upd1 p o s y = s → (Rk s).idxOf y ≤ (Rk s).idxOf x := fun y hy py => by
          have ym : y ∈ R ++ [x] := by rw [← z]; exact rp.mem_iff.mpr (List.mem_filter.mpr ⟨hy, by simpa using py⟩)
          have le := last_max so y ym
          omega
        have e2 := sp_drop (cap := cap) (W := W) (O := O) (Rk := Rk) (asked := bump asked o) (p := upd1 p o s) (l := l ++ [o]) (wt := wt) (R := R) hsl x1 (by omega) (by rw [← z, rp.length_eq]; exact hc) (.shr (.str o))
        rw [z] at e
        refine ⟨bump asked o, upd1 p o s, (l ++ [o]).filter fun y => decide (y ≠ x), wt ++ [x], _, _, _, e.trans e2, I.drop g hs hc x1 x2 hw, ?_⟩
        simp only [List.length_append, List.length_cons, List.length_nil]
        omega
  · have ha : asked o = (W o).length := by omega
    refine ⟨asked, p, l, wt, _, _, _, sp_skip h ho ha a b c, I.skip ha, ?_⟩
    simp only [List.length_append, List.length_cons, List.length_nil]
    omega
theorem iSeq_sorted {S : SS} {i : Nat} {f : Str → D} {l : List Str} {t : Option Nat} (h : S[i]? = some (.shr (.dct (nd f l))) ∨ S[i]? = some (.own t (.dct (nd f l)))) : iSeq (sCall gSorted (sCons (sNm i) sNil)) S = .ok ((sortS l).map .str) S := by
  have e1 : sNm i S = .ok (.at i) S := h.elim ok_shr ok_own
  have e2 : look S (.at i) = some (.dct (nd f l)) := by
    show (match S[i]? with
      | some x => x.data
      | none => none) = _
    rcases h with h | h <;> rw [h] <;> rfl
  refine ok_iSeq (d := .lst ((sortS l).map .str)) (ra := .f (.lst ((sortS l).map .str))) (ok_sCall (ds := [.dct (nd f l)]) (ok_sCons e1 rfl) ?_ (gSorted_nd _ _)) rfl rfl
  unfold lookL
  rw [e2]
  rfl
theorem stable_plan_eq (h : ShR cap Sl W O Rk) (g : Gs.Given cap W O Rk) :
    ∃ p l, Fn_stable_plan [placesD cap Sl, rowsD W O, rowsD Rk Sl] = .ret (planD p (sortS l)) true [] ∧ Pl W O p l ∧ Gs.Stable cap W O Rk (mOf p l) ∧ ∀ m, Gs.Stable cap W O Rk m → ∀ o ∈ O, Sd.rk W o (mOf p l o) ≤ Sd.rk W o (m o) := by
  have lo := h.lo
  have nO : (sortS O).Nodup := (sortS_perm O).nodup_iff.mpr h.no
  have I0 : SpInv cap W O Rk (fun _ => 0) (fun _ => "") [] (sortS O) := by
    refine ⟨⟨fun o _ => Nat.zero_le _, fun o _ s e => by simp [mOf] at e⟩, fun m _ => ⟨fun o _ => .inl (Nat.zero_le _)⟩, fun o _ s _ q => absurd q (Nat.not_lt_zero _), ⟨List.nodup_nil, fun o h => (nomatch h)⟩, nO, fun o ho => ⟨mem_sortS.mp ho, by simp⟩, fun o ho _ hw => absurd (mem_sortS.mpr ho) hw, fun s => by simp⟩
  have loop : ∃ S', whileN (sTru (sNm 5)) spBody 1000000 (spS cap Sl W O Rk (fun _ => 0) (fun _ => "") [] (sortS O) .un .un .un) = .ok .nx S' ∧
      ∃ asked p l a b c, S' = spS cap Sl W O Rk asked p l [] a b c ∧ SpInv cap W O Rk asked p l [] := by
    refine whileN_num (I := fun k S => ∃ asked p l wt a b c, S = spS cap Sl W O Rk asked p l wt a b c ∧ SpInv cap W O Rk asked p l wt ∧ k = 2 * leftN W asked O + wt.length) (fun k S hI => ?_) 1000000 _ ⟨_, _, _, _, _, _, _, rfl, I0, rfl⟩ ?_
    · obtain ⟨asked, p, l, wt, a, b, c, rfl, I, rfl⟩ := hI
      rcases List.eq_nil_or_concat wt with rfl | ⟨wt, o, z⟩
      · exact ⟨false, spS cap Sl W O Rk asked p l [] a b c, ok_sTru rfl rfl rfl, fun z => (nomatch z), fun _ => ⟨_, _, _, _, _, _, rfl, I⟩⟩
      · rw [List.concat_eq_append] at z
        subst z
        refine ⟨true, spS cap Sl W O Rk asked p l (wt ++ [o]) a b c, ok_sTru rfl rfl ?_, fun _ => ?_, fun z => (nomatch z)⟩
        · show some (!((wt ++ [o]).map D.str).isEmpty) = _
          simp
        · obtain ⟨asked', p', l', wt', a', b', c', e, I', hk⟩ := sp_step h g I a b c
          exact ⟨_, _, hk, e, _, _, _, _, _, _, _, rfl, I', rfl⟩
    · have := leftN_le (W := W) (asked := fun _ => 0) (O := O) fun o ho => h.wlen ho
      rw [length_sortS]
      omega
  obtain ⟨S', e, asked, p, l, a, b, c, rfl, I⟩ := loop
  have ll := I.pl.len h.lo
  have hd : ∀ o ∈ O, mOf p l o = none → asked o = (W o).length := fun o ho hp => I.dn o ho (fun z => by simp [mOf, z] at hp) (by simp)
  refine ⟨p, l, ?_, I.pl, I.rj.stable I.ob g (fun s => by rw [cnt_mOf I.pl (List.Perm.refl O) g.nL]; exact I.cp s) (fun o ho => by
    unfold mOf
    rw [if_neg fun z => ho (I.pl.mem o z).1]) hd, fun m hm o ho => (I.oi m hm).best I.ob g hd o ho⟩
  · refine ok_runF (S := spS cap Sl W O Rk asked p l [] a b c) (ok_sSeq (S1 := [.shr (placesD cap Sl), .shr (rowsD W O), .shr (rowsD Rk Sl), .un, .un, .un, .un, .un, .un]) (ok_sExpr (ok_callM (io := []) (bo := []) (ok_sCons rfl (ok_sCons rfl (ok_sCons rfl rfl))) rfl (by simp) (check_ranks_eq h)))
      (ok_sSeq (S1 := [.shr (placesD cap Sl), .shr (rowsD W O), .shr (rowsD Rk Sl), .own none (askD (fun _ => 0) O), .un, .un, .un, .un, .un]) (ok_sAsg (dc_names (fun _ => .int 0) (iSeq_nd rfl) (by omega) h.no rfl fun s _ => ⟨.v (.int 0), rfl, rfl⟩) rfl)
      (ok_sSeq (S1 := [.shr (placesD cap Sl), .shr (rowsD W O), .shr (rowsD Rk Sl), .own none (askD (fun _ => 0) O), .own none (planD (fun _ => "") []), .un, .un, .un, .un]) (ok_sAsg (ra := .f (.dct [])) rfl rfl)
      (ok_sSeq (S1 := spS cap Sl W O Rk (fun _ => 0) (fun _ => "") [] (sortS O) .un .un .un) (ok_sAsg (ra := .f (.lst ((sortS O).map .str))) (ok_sCall (ds := [rowsD W O]) (ok_sCons rfl rfl) rfl (gSorted_nd _ _)) rfl)
      (ok_sSeq e (ok_sRet (ra := .f (planD p (sortS l))) (dc_names (fun o => .str (p o)) (l := sortS l) (iSeq_sorted (t := none) (.inr rfl)) (by rw [length_sortS]; omega) ((sortS_perm l).nodup_iff.mpr I.pl.nd) rfl fun s hs => ⟨.v (.str (p s)), ok_sOp rfl rfl rfl rfl (subscD_nd (mem_sortS.mp hs)), rfl⟩) rfl)))))) rfl
end
end Lk75
namespace Lk75
open PySem PySem.Spec PyProof.Rows L2 L2.Dl
section
variable {cap : Str → Nat} {Sl : List Str} {W : Str → List Str} {O first : List Str} {Rk : Str → List Str} {p : Str → Str} {l : List Str} {asked : Str → Nat} {m : Str → Option Str}
abbrev fsS (cap : Str → Nat) (Sl : List Str) (W : Str → List Str) (O : List Str) (Rk : Str → List Str) (asked : Str → Nat) (p : Str → Str) (l : List Str) (g : Bool) (a b : AV) : SS :=
  [.shr (placesD cap Sl), .shr (rowsD W O), .shr (rowsD Rk Sl), .own none (askD asked Sl), .own none (planD p l), .shr (.bl g), a, b]
noncomputable abbrev fsBody : M Fl := (sIfS (sAnd (sCmpT ltD (sCall gLen (sCons (callM [false, false] Fn_holders (sCons (sNm 4) (sCons (sNm 6) sNil))) sNil)) (sOp subscD (sNm 0) (sNm 6))) (sCmpT ltD (sOp subscD (sNm 3) (sNm 6)) (sCall gLen (sCons (sOp subscD (sNm 2) (sNm 6)) sNil)))) (sSeq (sAsg 7 (sOp subscD (sOp subscD (sNm 2) (sNm 6)) (sOp subscD (sNm 3) (sNm 6))))
    (sSeq (sAugS 3 (sNm 6) (sV (.int 1)) iaddD)
    (sSeq (sAsg 5 (sV (.bl true)))
    (sIfS (sTru (callM [false, false, false, false] Fn_likes_more (sCons (sNm 1) (sCons (sNm 4) (sCons (sNm 7) (sCons (sNm 6) sNil)))))) (sPut 4 (sNm 6) (sNm 7)) sNext)))) sNext)
def fsC (cap : Str → Nat) (Rk : Str → List Str) (asked : Str → Nat) (p : Str → Str) (l : List Str) (s : Str) : Bool := decide ((l.filter fun o => p o == s).length < cap s) && decide (asked s < (Rk s).length)
theorem fs_cond (h : ShR cap Sl W O Rk) (hp : Pl W O p l) {s : Str} (hs : s ∈ Sl) (g : Bool) (b : AV) :
    sAnd (sCmpT ltD (sCall gLen (sCons (callM [false, false] Fn_holders (sCons (sNm 4) (sCons (sNm 6) sNil))) sNil)) (sOp subscD (sNm 0) (sNm 6))) (sCmpT ltD (sOp subscD (sNm 3) (sNm 6)) (sCall gLen (sCons (sOp subscD (sNm 2) (sNm 6)) sNil))) (fsS cap Sl W O Rk asked p l g (.shr (.str s)) b) =
      .ok (fsC cap Rk asked p l s) (fsS cap Sl W O Rk asked p l g (.shr (.str s)) b) := by
  have ll := hp.len h.lo
  have e1 : callM [false, false] Fn_holders (sCons (sNm 4) (sCons (sNm 6) sNil)) (fsS cap Sl W O Rk asked p l g (.shr (.str s)) b) = .ok (.f (.lst ((sortS (l.filter fun y => p y == s)).map .str))) (fsS cap Sl W O Rk asked p l g (.shr (.str s)) b) :=
    Eq.trans (ok_callM (io := []) (bo := [4]) (ok_sCons rfl (ok_sCons rfl rfl)) rfl (by simp) (holders_eq (by omega) (hp.lay h.toSh) (h.ys s hs))) (callK_flat _ _ _)
  have e2 : sCmpT ltD (sCall gLen (sCons (callM [false, false] Fn_holders (sCons (sNm 4) (sCons (sNm 6) sNil))) sNil)) (sOp subscD (sNm 0) (sNm 6)) (fsS cap Sl W O Rk asked p l g (.shr (.str s)) b) = .ok (decide ((l.filter fun o => p o == s).length < cap s)) (fsS cap Sl W O Rk asked p l g (.shr (.str s)) b) := by
    refine ok_sCmpT (ok_sCall (ok_sCons e1 rfl) rfl (gLen_strs _)) (ok_sOp (r := .v (.int (cap s : Nat))) rfl rfl rfl rfl (subscD_nd hs)) rfl rfl ?_
    rw [ltD_nat, length_sortS]
  have e3 : sCmpT ltD (sOp subscD (sNm 3) (sNm 6)) (sCall gLen (sCons (sOp subscD (sNm 2) (sNm 6)) sNil)) (fsS cap Sl W O Rk asked p l g (.shr (.str s)) b) = .ok (decide (asked s < (Rk s).length)) (fsS cap Sl W O Rk asked p l g (.shr (.str s)) b) := by
    refine ok_sCmpT (ok_sOp (r := .v (.int (asked s : Nat))) rfl rfl rfl rfl (subscD_nd hs)) (ok_sCall (ok_sCons (ok_sOp (r := .v (.lst ((Rk s).map .str))) rfl rfl rfl rfl (subscD_nd hs)) rfl) rfl (gLen_strs _)) rfl rfl ?_
    rw [ltD_nat]
  unfold fsC
  cases hc : decide ((l.filter fun o => p o == s).length < cap s) with
  | false => rw [hc] at e2; rw [Bool.false_and]; exact ok_sAndF e2
  | true => rw [hc] at e2; rw [Bool.true_and]; exact ok_sAndT e2 e3
theorem fs_no (h : ShR cap Sl W O Rk) (hp : Pl W O p l) {s : Str} (hs : s ∈ Sl) (hc : fsC cap Rk asked p l s = false) (g : Bool) (b : AV) :
    fsBody (fsS cap Sl W O Rk asked p l g (.shr (.str s)) b) = .ok .nx (fsS cap Sl W O Rk asked p l g (.shr (.str s)) b) :=
  ok_sIfF (by have e := fs_cond (asked := asked) h hp hs g b; rw [hc] at e; exact e) rfl
theorem planD_old {o s : Str} (ho : o ∈ l) : D.dct (putD (nd (fun o => .str (p o)) l) (.inr o) (.str s)) = planD (upd1 p o s) l := by
  rw [putD_nd_old ho]
  unfold planD
  congr 1
  apply nd_congr
  intro x _
  unfold upd1
  split <;> rfl
theorem fs_yes (h : ShR cap Sl W O Rk) (hp : Pl W O p l) {s o : Str} (hs : s ∈ Sl) (hc : fsC cap Rk asked p l s = true) (hk : (Rk s)[asked s]? = some o) (g : Bool) (b : AV) :
    ∃ p' l', fsBody (fsS cap Sl W O Rk asked p l g (.shr (.str s)) b) = .ok .nx (fsS cap Sl W O Rk (bump asked s) p' l' true (.shr (.str s)) (.shr (.str o))) ∧ Pl W O p' l' ∧
      ∀ y, mOf p' l' y = if y = o ∧ (∀ t, mOf p l o = some t → (W o).idxOf s < (W o).idxOf t) then some s else mOf p l y := by
  obtain ⟨oO, sW⟩ := (h.mem_rk hs o).mp (List.mem_of_getElem? hk)
  have ll := hp.len h.lo
  have lo := h.lo
  have ls := h.ls
  have e0 := fs_cond (asked := asked) h hp hs g b
  rw [hc] at e0
  have e4 : sTru (callM [false, false, false, false] Fn_likes_more (sCons (sNm 1) (sCons (sNm 4) (sCons (sNm 7) (sCons (sNm 6) sNil))))) (fsS cap Sl W O Rk (bump asked s) p l true (.shr (.str s)) (.shr (.str o))) = .ok (decide (o ∉ l) || decide ((W o).idxOf s < (W o).idxOf (p o))) (fsS cap Sl W O Rk (bump asked s) p l true (.shr (.str s)) (.shr (.str o))) :=
    ok_sTru (ra := .v (.bl (decide (o ∉ l) || decide ((W o).idxOf s < (W o).idxOf (p o))))) (da := .bl (decide (o ∉ l) || decide ((W o).idxOf s < (W o).idxOf (p o)))) (Eq.trans (ok_callM (io := []) (bo := [4]) (ok_sCons rfl (ok_sCons rfl (ok_sCons rfl (ok_sCons rfl rfl)))) rfl (by simp) (likes_more_eq h.toSh oO sW fun z => (hp.mem o z).2)) rfl) rfl rfl
  have ch : ∀ {q : Res Fl}, sIfS (sTru (callM [false, false, false, false] Fn_likes_more (sCons (sNm 1) (sCons (sNm 4) (sCons (sNm 7) (sCons (sNm 6) sNil)))))) (sPut 4 (sNm 6) (sNm 7)) sNext (fsS cap Sl W O Rk (bump asked s) p l true (.shr (.str s)) (.shr (.str o))) = q → fsBody (fsS cap Sl W O Rk asked p l g (.shr (.str s)) b) = q := fun hq =>
    ok_sIfT e0 (ok_sSeq (S1 := fsS cap Sl W O Rk asked p l g (.shr (.str s)) (.shr (.str o))) (ok_sAsg (ra := .v (.str o)) (ok_sOp (r := .v (.str o)) (ok_sOp (r := .v (.lst ((Rk s).map .str))) rfl rfl rfl rfl (subscD_nd hs)) (ok_sOp (r := .v (.int (asked s : Nat))) rfl rfl rfl rfl (subscD_nd hs)) rfl rfl (by
        show (atI ((Rk s).map D.str) ((asked s : Nat) : Int)).map R.v = _
        rw [atI_nat (x := .str o) (by rw [List.getElem?_map, hk]; rfl)]; rfl)) rfl)
      (ok_sSeq (S1 := fsS cap Sl W O Rk (bump asked s) p l g (.shr (.str s)) (.shr (.str o))) (Eq.trans (ok_sAugS (c := askD asked Sl) (c1 := askD asked Sl) (c2 := askD asked Sl) (t0 := none) (t1 := none) (t := none) (k := .str s) (k2 := .str s) (d0 := .int (asked s : Nat)) (d1 := .int 1) (d2 := .int ((asked s : Int) + 1)) (c' := askD (bump asked s) Sl) rfl rfl rfl rfl (valD_nd hs) rfl rfl rfl rfl rfl (by
          show (if (nd (fun y => D.int (asked y : Nat)) Sl).length < 1000000 then some (D.dct (putD (nd (fun y => D.int (asked y : Nat)) Sl) (.inr s) _)) else none) = _
          rw [if_pos (by simp [nd]; omega), putD_nd_old hs, nd_bump])) rfl)
      (ok_sSeq (S1 := fsS cap Sl W O Rk (bump asked s) p l true (.shr (.str s)) (.shr (.str o))) (ok_sAsg (ra := .v (.bl true)) rfl rfl) hq)))
  cases hb : (decide (o ∉ l) || decide ((W o).idxOf s < (W o).idxOf (p o))) with
  | false =>
    rw [hb] at e4
    obtain ⟨b1, b2⟩ := Bool.or_eq_false_iff.mp hb
    have ol : o ∈ l := by simpa using b1
    have b2 : ¬ (W o).idxOf s < (W o).idxOf (p o) := by simpa using b2
    refine ⟨p, l, ch (ok_sIfF e4 rfl), hp, fun y => ?_⟩
    rw [if_neg]
    rintro ⟨_, q⟩
    exact b2 (q (p o) (mOf_some.mpr ⟨ol, rfl⟩))
  | true =>
    rw [hb] at e4
    have q : ∀ t, mOf p l o = some t → (W o).idxOf s < (W o).idxOf t := fun t ht => by
      obtain ⟨h1, h2⟩ := mOf_some.mp ht
      rcases Bool.or_eq_true_iff.mp hb with w | w
      · exact absurd h1 (of_decide_eq_true w)
      · rw [← h2]; exact of_decide_eq_true w
    by_cases ol : o ∈ l
    · refine ⟨upd1 p o s, l, ch (ok_sIfT e4 (Eq.trans (ok_sPut (c := planD p l) (t := none) (c' := planD (upd1 p o s) l) (d := .str s) (k := .str o) rfl rfl rfl rfl rfl rfl ?_) rfl)), ⟨hp.nd, fun y hy => ?_⟩, fun y => ?_⟩
      · show (if (nd (fun o => D.str (p o)) l).length < 1000000 then some (D.dct (putD (nd (fun o => D.str (p o)) l) (.inr o) (.str s))) else none) = _
        rw [if_pos (by simp [nd]; omega), planD_old ol]
      · by_cases z : y = o
        · subst z; exact ⟨oO, by simp [upd1, sW]⟩
        · exact ⟨(hp.mem y hy).1, by simp [upd1, z, (hp.mem y hy).2]⟩
      · by_cases z : y = o
        · subst z
          rw [if_pos ⟨rfl, q⟩]
          simp [mOf, ol, upd1]
        · rw [if_neg fun w => z w.1]
          simp [mOf, upd1, z]
    · refine ⟨upd1 p o s, l ++ [o], ch (ok_sIfT e4 (Eq.trans (ok_sPut (c := planD p l) (t := none) (c' := planD (upd1 p o s) (l ++ [o])) (d := .str s) (k := .str o) rfl rfl rfl rfl rfl rfl ?_) rfl)), hp.new oO ol sW, fun y => ?_⟩
      · show (if (nd (fun o => D.str (p o)) l).length < 1000000 then some (D.dct (putD (nd (fun o => D.str (p o)) l) (.inr o) (.str s))) else none) = _
        rw [if_pos (by simp [nd]; omega), planD_new ol]
      · rw [mOf_new ol]
        by_cases z : y = o
        · subst z
          rw [if_pos rfl, if_pos ⟨rfl, q⟩]
        · rw [if_neg z, if_neg fun w => z w.1]
end
end Lk75
namespace Lk75
open PySem PySem.Spec PyProof.Rows L2 L2.Dl
section
variable {cap : Str → Nat} {Sl : List Str} {W : Str → List Str} {O first : List Str} {Rk : Str → List Str} {p : Str → Str} {l : List Str} {asked : Str → Nat} {m : Str → Option Str}
structure SInv (cap : Str → Nat) (W : Str → List Str) (O : List Str) (Rk : Str → List Str) (asked : Str → Nat) (q : Str → Option Str) : Prop where
  sb : Gs.SB cap W O Rk asked q
  sa : ∀ m, Gs.Stable cap W O Rk m → Gs.SA Rk asked m q
theorem SInv.ask {q q' : Str → Option Str} {s o : Str} (I : SInv cap W O Rk asked q) (g : Gs.Given cap W O Rk) (hk : (Rk s)[asked s]? = some o) (hc : Sd.cnt q O s < cap s)
    (hm : ∀ y, q' y = if y = o ∧ (∀ t, q o = some t → (W o).idxOf s < (W o).idxOf t) then some s else q y) : SInv cap W O Rk (bump asked s) q' := by
  by_cases T : ∀ t, q o = some t → (W o).idxOf s < (W o).idxOf t
  · have e : q' = Gs.put q o s := funext fun y => by
      rw [hm y]
      by_cases z : y = o
      · rw [if_pos ⟨z, T⟩]; simp [Gs.put, z]
      · rw [if_neg fun w => z w.1]; simp [Gs.put, z]
    rw [e]
    exact ⟨I.sb.take g hk hc T, fun m hm => (I.sa m hm).take I.sb g hm hk hc T⟩
  · have e : q' = q := funext fun y => by rw [hm y, if_neg fun w => T w.2]
    rw [e]
    obtain ⟨t, ht⟩ : ∃ t, q o = some t ∧ ¬ (W o).idxOf s < (W o).idxOf t := by
      by_cases w : ∃ t, q o = some t ∧ ¬ (W o).idxOf s < (W o).idxOf t
      · exact w
      · exact absurd (fun t ht => by
          by_cases v : (W o).idxOf s < (W o).idxOf t
          · exact v
          · exact absurd ⟨t, ht, v⟩ w) T
    have le : (W o).idxOf t ≤ (W o).idxOf s := by have := ht.2; omega
    exact ⟨I.sb.stay g hk ht.1 le, fun m hm => (I.sa m hm).stay I.sb g hm hk ht.1 le⟩
theorem fs_pass (h : ShR cap Sl W O Rk) (gv : Gs.Given cap W O Rk) (I : SInv cap W O Rk asked (mOf p l)) (hp : Pl W O p l) (a b : AV) :
    ∃ S', forL (tNm 6) fsBody ((sortS Sl).map .str) (fsS cap Sl W O Rk asked p l false a b) = .ok .nx S' ∧ ∃ asked' p' l' g a' b', S' = fsS cap Sl W O Rk asked' p' l' g a' b' ∧ SInv cap W O Rk asked' (mOf p' l') ∧ Pl W O p' l' ∧
      ((g = true ∧ leftN Rk asked' Sl < leftN Rk asked Sl) ∨ (g = false ∧ asked' = asked ∧ p' = p ∧ l' = l ∧ ∀ s ∈ sortS Sl, fsC cap Rk asked p l s = false)) := by
  refine forL_list (I := fun pre S => ∃ asked' p' l' g a' b', S = fsS cap Sl W O Rk asked' p' l' g a' b' ∧ SInv cap W O Rk asked' (mOf p' l') ∧ Pl W O p' l' ∧
      ((g = true ∧ leftN Rk asked' Sl < leftN Rk asked Sl) ∨ (g = false ∧ asked' = asked ∧ p' = p ∧ l' = l ∧ ∀ s ∈ pre, fsC cap Rk asked p l s = false))) D.str (pre := []) (fun pre s S he hI => ?_) ⟨_, _, _, _, _, _, rfl, I, hp, .inr ⟨rfl, rfl, rfl, rfl, fun s h => (nomatch h)⟩⟩
  obtain ⟨post, e⟩ := he
  have hs : s ∈ Sl := mem_sortS.mp (by rw [e]; simp)
  obtain ⟨asked', p', l', g, a', b', rfl, I', P', hg⟩ := hI
  cases hc : fsC cap Rk asked' p' l' s with
  | false =>
    refine ⟨fsS cap Sl W O Rk asked' p' l' g (.shr (.str s)) b', _, rfl, fs_no h P' hs hc g b', _, _, _, _, _, _, rfl, I', P', hg.imp id ?_⟩
    rintro ⟨h1, rfl, rfl, rfl, h2⟩
    refine ⟨h1, rfl, rfl, rfl, fun t ht => ?_⟩
    rcases List.mem_append.mp ht with z | z
    · exact h2 t z
    · rw [List.mem_singleton.mp z]; exact hc
  | true =>
    obtain ⟨c1, c2⟩ := Bool.and_eq_true_iff.mp hc
    have c1 := of_decide_eq_true c1
    have c2 := of_decide_eq_true c2
    obtain ⟨o, hk⟩ : ∃ o, (Rk s)[asked' s]? = some o := ⟨_, List.getElem?_eq_getElem c2⟩
    obtain ⟨p2, l2, e2, P2, hm2⟩ := fs_yes h P' hs hc hk g b'
    have q : SInv cap W O Rk (bump asked' s) (mOf p2 l2) := I'.ask gv hk (by rw [cnt_mOf P' (List.Perm.refl O) gv.nL]; exact c1) hm2
    have lb := leftN_bump (W := Rk) (asked := asked') h.ns hs c2
    refine ⟨fsS cap Sl W O Rk asked' p' l' g (.shr (.str s)) b', _, rfl, e2, _, _, _, _, _, _, rfl, q, P2, .inl ⟨rfl, ?_⟩⟩
    rcases hg with ⟨_, hg⟩ | ⟨_, rfl, _⟩
    · omega
    · omega
theorem stable_for_slots_eq (h : ShR cap Sl W O Rk) (gv : Gs.Given cap W O Rk) (hW : ∀ o ∈ O, ∀ s ∈ W o, s ∈ Sl) :
    ∃ p l, Fn_stable_for_slots [placesD cap Sl, rowsD W O, rowsD Rk Sl] = .ret (planD p (sortS l)) true [] ∧ Pl W O p l ∧ Gs.Stable cap W O Rk (mOf p l) ∧ ∀ m, Gs.Stable cap W O Rk m → ∀ o ∈ O, Sd.rk W o (m o) ≤ Sd.rk W o (mOf p l o) := by
  have ls := h.ls
  have I0 : SInv cap W O Rk (fun _ => 0) (mOf (fun _ => "") []) :=
    ⟨⟨fun s o q => absurd q.2 (Nat.not_lt_zero _), fun o s e => by simp [mOf] at e, fun s => by
      have : Sd.cnt (mOf (fun _ => "") []) O s = 0 := Sd.cnt_zero fun y _ => by simp [mOf]
      omega⟩, fun m _ s o q => absurd q.2 (Nat.not_lt_zero _)⟩
  have loop : ∃ S', whileN (sTru (sNm 5)) (sSeq (sAsg 5 (sV (.bl false))) (sFor (iSeq (sCall gSorted (sCons (sNm 0) sNil))) (tNm 6) fsBody)) 1000000 (fsS cap Sl W O Rk (fun _ => 0) (fun _ => "") [] true .un .un) = .ok .nx S' ∧
      ∃ asked p l a b, S' = fsS cap Sl W O Rk asked p l false a b ∧ SInv cap W O Rk asked (mOf p l) ∧ Pl W O p l ∧ ∀ s ∈ Sl, fsC cap Rk asked p l s = false := by
    refine whileN_num (I := fun k S => ∃ asked p l g a b, S = fsS cap Sl W O Rk asked p l g a b ∧ SInv cap W O Rk asked (mOf p l) ∧ Pl W O p l ∧ (g = true ∨ ∀ s ∈ Sl, fsC cap Rk asked p l s = false) ∧ k = leftN Rk asked Sl + if g = true then 1 else 0) (fun k S hI => ?_) 1000000 _ ⟨_, _, _, _, _, _, rfl, I0, ⟨List.nodup_nil, fun o h => (nomatch h)⟩, .inl rfl, rfl⟩ ?_
    · obtain ⟨asked, p, l, g, a, b, rfl, I, P, hg, rfl⟩ := hI
      refine ⟨g, fsS cap Sl W O Rk asked p l g a b, ok_sTru rfl rfl rfl, ?_, ?_⟩
      · rintro rfl
        obtain ⟨S', e, asked', p', l', g', a', b', rfl, I', P', hh⟩ := fs_pass h gv I P a b
        refine ⟨leftN Rk asked' Sl + if g' = true then 1 else 0, _, ?_, ok_sSeq (S1 := fsS cap Sl W O Rk asked p l false a b) (ok_sAsg (ra := .v (.bl false)) rfl rfl) (ok_sFor (iSeq_sorted (t := none) (.inl rfl)) e), _, _, _, _, _, _, rfl, I', P', ?_, rfl⟩
        · rcases hh with ⟨rfl, h1⟩ | ⟨rfl, rfl, _⟩
          · simp; omega
          · simp
        · rcases hh with ⟨rfl, h1⟩ | ⟨rfl, rfl, rfl, rfl, h2⟩
          · exact .inl rfl
          · exact .inr fun s hs => h2 s (mem_sortS.mpr hs)
      · rintro rfl
        exact ⟨_, _, _, _, _, rfl, I, P, hg.resolve_left (by simp)⟩
    · have := leftN_le (W := Rk) (asked := fun _ => 0) (O := Sl) fun s hs => h.len_rk hs
      simp only [if_true]
      omega
  obtain ⟨S', e, asked, p, l, a, b, rfl, I, P, hend⟩ := loop
  have ll := P.len h.lo
  have hd : ∀ s o, o ∈ O → s ∈ W o → cap s ≤ Sd.cnt (mOf p l) O s ∨ (Rk s).length ≤ asked s := fun s o ho hs => by
    have hsl := hW o ho s hs
    rcases Bool.and_eq_false_iff.mp (hend s hsl) with q | q
    · have := of_decide_eq_false q
      exact .inl (by rw [cnt_mOf P (List.Perm.refl O) gv.nL]; omega)
    · have := of_decide_eq_false q
      exact .inr (by omega)
  refine ⟨p, l, ?_, P, I.sb.stable gv hd, fun m hm o ho => (I.sa m hm).worst I.sb gv hm o ho⟩
  · refine ok_runF (S := fsS cap Sl W O Rk asked p l false a b) (ok_sSeq (S1 := [.shr (placesD cap Sl), .shr (rowsD W O), .shr (rowsD Rk Sl), .un, .un, .un, .un, .un]) (ok_sExpr (ok_callM (io := []) (bo := []) (ok_sCons rfl (ok_sCons rfl (ok_sCons rfl rfl))) rfl (by simp) (check_ranks_eq h)))
      (ok_sSeq (S1 := [.shr (placesD cap Sl), .shr (rowsD W O), .shr (rowsD Rk Sl), .own none (askD (fun _ => 0) Sl), .un, .un, .un, .un]) (ok_sAsg (dc_names (fun _ => .int 0) (iSeq_nd rfl) (by omega) h.ns rfl fun s _ => ⟨.v (.int 0), rfl, rfl⟩) rfl)
      (ok_sSeq (S1 := [.shr (placesD cap Sl), .shr (rowsD W O), .shr (rowsD Rk Sl), .own none (askD (fun _ => 0) Sl), .own none (planD (fun _ => "") []), .un, .un, .un]) (ok_sAsg (ra := .f (.dct [])) rfl rfl)
      (ok_sSeq (S1 := fsS cap Sl W O Rk (fun _ => 0) (fun _ => "") [] true .un .un) (ok_sAsg (ra := .v (.bl true)) rfl rfl)
      (ok_sSeq e (ok_sRet (ra := .f (planD p (sortS l))) (dc_names (fun o => .str (p o)) (l := sortS l) (iSeq_sorted (t := none) (.inr rfl)) (by rw [length_sortS]; omega) ((sortS_perm l).nodup_iff.mpr P.nd) rfl fun s hs => ⟨.v (.str (p s)), ok_sOp rfl rfl rfl rfl (subscD_nd (mem_sortS.mp hs)), rfl⟩) rfl)))))) rfl
end
end Lk75
namespace L2.Dl
open PySem PySem.Spec PyProof.Rows
@[simp] theorem ev_sIdx {fa fb : M R} {S : SS} : sIdx fa fb S = (fa S).bind fun ra S1 => match lookLst S1 ra with
  | none => .no
  | some _ => (fb S1).bind fun rb S2 => lift (do let da ← look S2 ra; let db ← look S2 rb; gIndex [da, db]) S2 := rfl
@[simp] theorem ev_lookLst {S : SS} {r : R} : lookLst S r = match look S r with
  | some (.lst l) => some l
  | _ => none := rfl
@[simp] theorem ev_sOrV {fa fb : M R} {S : SS} : sOrV fa fb S = (fa S).bind fun ra S1 => match lookB S1 ra with
  | none => .no
  | some true => .ok ra.sh S1
  | some false => fb S1 := rfl
@[simp] theorem ev_sh_v (d : D) : (R.v d).sh = .v d := rfl
theorem gIndex_strs {l : List Str} {x : Str} (h : x ∈ l) : gIndex [.lst (l.map .str), .str x] = some (.v (.int (l.idxOf x : Nat))) := by
  show (if (D.str x).sc = true ∧ (l.map D.str).all D.sc = true then _ else none) = _
  rw [if_pos ⟨rfl, all_sc_str l⟩]
  have e : (l.map D.str).findIdx? (fun u => eqS u (.str x)) = some (l.idxOf x) := by
    rw [List.findIdx?_map]
    have : (fun u : D => eqS u (.str x)) ∘ D.str = fun y => y == x := by
      funext y
      show (y == x) = _
      rfl
    rw [this]
    induction l with
    | nil => cases h
    | cons a l ih =>
      rw [List.findIdx?_cons, List.idxOf_cons]
      by_cases z : a = x
      · subst z; simp
      · have b1 : (a == x) = false := beq_eq_false_iff_ne.mpr z
        have ih := ih ((List.mem_cons.mp h).resolve_left fun q => z q.symm)
        rw [b1, ih]; rfl
  rw [e]
end L2.Dl
namespace Lk75
open PySem PySem.Spec PyProof.Rows L2 L2.Dl
section
variable {cap : Str → Nat} {Sl : List Str} {W : Str → List Str} {O : List Str} {Rk : Str → List Str} {p : Str → Str} {l : List Str}
noncomputable abbrev lbB : M Fl := (sSeq (sAsg 7 (sIdx (sOp subscD (sNm 1) (sNm 5)) (sNm 6)))
    (sSeq (sAsg 8 (sOrV (sOp (toB nmemD) (sNm 5) (sNm 3)) (sOp (toB ltD) (sNm 7) (sIdx (sOp subscD (sNm 1) (sNm 5)) (sOp subscD (sNm 3) (sNm 5))))))
    (sIfS (sTru (sNm 8)) (sSeq (sAsg 9 (sLc [12] (iSeq (sNm 3)) (tNm 12) (sCmpT deq (sOp subscD (sNm 3) (sNm 12)) (sNm 6)) (sNm 12)))
    (sSeq (sAsg 10 (sIdx (sOp subscD (sNm 2) (sNm 6)) (sNm 5)))
    (sSeq (sAsg 11 (sLc [12] (iSeq (sNm 9)) (tNm 12) (sCmpT gtD (sIdx (sOp subscD (sNm 2) (sNm 6)) (sNm 12)) (sNm 10)) (sNm 12)))
    (sIfS (sOr (sCmpT ltD (sCall gLen (sCons (sNm 9) sNil)) (sOp subscD (sNm 0) (sNm 6))) (sCmpT gtD (sCall gLen (sCons (sNm 11) sNil)) (sV (.int 0)))) (sExpr (mutL 4 gApp (sCons (sMake gTup (sCons (sNm 5) (sCons (sNm 6) sNil))) sNil))) sNext)))) sNext)))
abbrev lbS (cap : Str → Nat) (Sl : List Str) (W : Str → List Str) (O : List Str) (Rk : Str → List Str) (p : Str → Str) (l : List Str) (L : List (Str × Str)) (o s a b c d e : AV) : SS :=
  [.shr (placesD cap Sl), .shr (rowsD W O), .shr (rowsD Rk Sl), .shr (planD p l), .own none (.lst (L.map tup2)), o, s, a, b, c, d, e, .un]
theorem wor_empty {o s : Str} : (wor W Rk p l o s).isEmpty = ((l.filter fun y => p y == s).filter fun y => decide ((Rk s).idxOf o < (Rk s).idxOf y)).isEmpty := by
  have := ((sortS_perm (l.filter fun y => p y == s)).filter fun y => decide ((Rk s).idxOf o < (Rk s).idxOf y)).length_eq
  unfold wor
  cases h1 : (sortS (l.filter fun y => p y == s)).filter (fun y => decide ((Rk s).idxOf o < (Rk s).idxOf y)) with
  | nil =>
    rw [h1] at this
    have := List.length_eq_zero_iff.mp this.symm
    rw [this]
  | cons a r =>
    rw [h1] at this
    cases h2 : (l.filter fun y => p y == s).filter (fun y => decide ((Rk s).idxOf o < (Rk s).idxOf y)) with
    | nil => rw [h2] at this; simp at this
    | cons b r2 => rfl
theorem lbB_eq (h : ShR cap Sl W O Rk) (hp : Pl W O p l) {L : List (Str × Str)} {o s : Str} (ho : o ∈ O) (hs : s ∈ W o) (hL : L.length < 1000000) (a b c d e : AV) :
    ∃ a' b' c' d' e', lbB (lbS cap Sl W O Rk p l L (.shr (.str o)) (.shr (.str s)) a b c d e) = .ok .nx (lbS cap Sl W O Rk p l (if (blk1 W p l o s && blk2 cap W Rk p l o s) = true then L ++ [(o, s)] else L) (.shr (.str o)) (.shr (.str s)) a' b' c' d' e') := by
  have hl := hp.len h.lo
  have hsl := h.ws o ho s hs
  have or_ : o ∈ Rk s := (h.mem_rk hsl o).mpr ⟨ho, hs⟩
  have f1 : subscD (rowsD W O) (.str o) = some (.v (.lst ((W o).map .str))) := subscD_nd ho
  have f2 := gIndex_strs hs
  have f3 : nmemD (.str o) (planD p l) = some (!decide (o ∈ l)) := nmemD_nd _ _ _
  have f5 : subscD (rowsD Rk Sl) (.str s) = some (.v (.lst ((Rk s).map .str))) := subscD_nd hsl
  have f6 := gIndex_strs or_
  have f7 : subscD (placesD cap Sl) (.str s) = some (.v (.int (cap s : Nat))) := subscD_nd hsl
  have beq : (decide (o ∉ l) || decide ((W o).idxOf s < (W o).idxOf (p o))) = blk1 W p l o s := by
    unfold blk1
    by_cases z : o ∈ l
    · by_cases w : p o = s
      · simp [z, w]
      · simp [z, w]
    · simp [z]
  have e8 : sOrV (sOp (toB nmemD) (sNm 5) (sNm 3)) (sOp (toB ltD) (sNm 7) (sIdx (sOp subscD (sNm 1) (sNm 5)) (sOp subscD (sNm 3) (sNm 5)))) (lbS cap Sl W O Rk p l L (.shr (.str o)) (.shr (.str s)) (.shr (.int ((W o).idxOf s : Nat))) b c d e) =
      .ok (.v (.bl (blk1 W p l o s))) (lbS cap Sl W O Rk p l L (.shr (.str o)) (.shr (.str s)) (.shr (.int ((W o).idxOf s : Nat))) b c d e) := by
    rw [← beq]
    by_cases z : o ∈ l
    · have f4 : subscD (planD p l) (.str o) = some (.v (.str (p o))) := subscD_nd z
      have f4' := gIndex_strs (hp.mem o z).2
      simp [lbS, toB, f3, z, f1, f4, f4']
    · simp [lbS, toB, f3, z]
  have e7 : sAsg 7 (sIdx (sOp subscD (sNm 1) (sNm 5)) (sNm 6)) (lbS cap Sl W O Rk p l L (.shr (.str o)) (.shr (.str s)) a b c d e) = .ok .nx (lbS cap Sl W O Rk p l L (.shr (.str o)) (.shr (.str s)) (.shr (.int ((W o).idxOf s : Nat))) b c d e) := by
    simp [lbS, f1, f2]
  cases hb : blk1 W p l o s with
  | false =>
    rw [hb] at e8
    refine ⟨.shr (.int ((W o).idxOf s : Nat)), .shr (.bl false), c, d, e, ?_⟩
    refine ok_sSeq e7 (ok_sSeq (S1 := lbS cap Sl W O Rk p l L (.shr (.str o)) (.shr (.str s)) (.shr (.int ((W o).idxOf s : Nat))) (.shr (.bl false)) c d e) (ok_sAsg e8 rfl) (ok_sIfF (ok_sTru rfl rfl rfl) ?_))
    simp
  | true =>
    rw [hb] at e8
    have e9 : sLc [12] (iSeq (sNm 3)) (tNm 12) (sCmpT deq (sOp subscD (sNm 3) (sNm 12)) (sNm 6)) (sNm 12) (lbS cap Sl W O Rk p l L (.shr (.str o)) (.shr (.str s)) (.shr (.int ((W o).idxOf s : Nat))) (.shr (.bl true)) c d e) =
        .ok (.f (.lst ((l.filter fun y => p y == s).map .str))) (lbS cap Sl W O Rk p l L (.shr (.str o)) (.shr (.str s)) (.shr (.int ((W o).idxOf s : Nat))) (.shr (.bl true)) c d e) := by
      refine lc_names (l := l) (w := .un) (fun y => p y == s) (iSeq_nd (f := fun o => .str (p o)) rfl) (by omega) rfl fun y hy => ?_
      exact ok_sCmpT (ok_sOp (r := .v (.str (p y))) rfl rfl rfl rfl (subscD_nd hy)) rfl rfl rfl (deq_str (hp.lay h.toSh y hy) (h.ys s hsl))
    have e11 : sLc [12] (iSeq (sNm 9)) (tNm 12) (sCmpT gtD (sIdx (sOp subscD (sNm 2) (sNm 6)) (sNm 12)) (sNm 10)) (sNm 12) (lbS cap Sl W O Rk p l L (.shr (.str o)) (.shr (.str s)) (.shr (.int ((W o).idxOf s : Nat))) (.shr (.bl true)) (.own none (.lst ((l.filter fun y => p y == s).map .str))) (.shr (.int ((Rk s).idxOf o : Nat))) e) =
        .ok (.f (.lst (((l.filter fun y => p y == s).filter fun y => decide ((Rk s).idxOf o < (Rk s).idxOf y)).map .str))) (lbS cap Sl W O Rk p l L (.shr (.str o)) (.shr (.str s)) (.shr (.int ((W o).idxOf s : Nat))) (.shr (.bl true)) (.shr (.lst ((l.filter fun y => p y == s).map .str))) (.shr (.int ((Rk s).idxOf o : Nat))) e) := by
      refine lc_names (l := l.filter fun y => p y == s) (w := .un) (fun y => decide ((Rk s).idxOf o < (Rk s).idxOf y)) (ok_iSeq (d := .lst ((l.filter fun y => p y == s).map .str)) rfl rfl rfl) (by have := List.length_filter_le (fun y => p y == s) l; omega) rfl fun y hy => ?_
      obtain ⟨y1, y2⟩ := List.mem_filter.mp hy
      have ys : p y = s := by simpa using y2
      have f8 := gIndex_strs ((h.mem_rk hsl y).mpr ⟨(hp.mem y y1).1, ys ▸ (hp.mem y y1).2⟩)
      simp [lbS, f5, f8]
    have e10 : sAsg 10 (sIdx (sOp subscD (sNm 2) (sNm 6)) (sNm 5)) (lbS cap Sl W O Rk p l L (.shr (.str o)) (.shr (.str s)) (.shr (.int ((W o).idxOf s : Nat))) (.shr (.bl true)) (.own none (.lst ((l.filter fun y => p y == s).map .str))) d e) =
        .ok .nx (lbS cap Sl W O Rk p l L (.shr (.str o)) (.shr (.str s)) (.shr (.int ((W o).idxOf s : Nat))) (.shr (.bl true)) (.own none (.lst ((l.filter fun y => p y == s).map .str))) (.shr (.int ((Rk s).idxOf o : Nat))) e) := by
      simp [lbS, f5, f6]
    refine ⟨.shr (.int ((W o).idxOf s : Nat)), .shr (.bl true), .shr (.lst ((l.filter fun y => p y == s).map .str)), .shr (.int ((Rk s).idxOf o : Nat)), .own none (.lst (((l.filter fun y => p y == s).filter fun y => decide ((Rk s).idxOf o < (Rk s).idxOf y)).map .str)), ?_⟩
    refine ok_sSeq e7 (ok_sSeq (S1 := lbS cap Sl W O Rk p l L (.shr (.str o)) (.shr (.str s)) (.shr (.int ((W o).idxOf s : Nat))) (.shr (.bl true)) c d e) (ok_sAsg e8 rfl) (ok_sIfT (ok_sTru rfl rfl rfl) (ok_sSeq (ok_sAsg e9 rfl) (ok_sSeq e10 (ok_sSeq (ok_sAsg e11 rfl) ?_)))))
    have b2 : blk2 cap W Rk p l o s = (decide ((l.filter fun y => p y == s).length < cap s) || !((l.filter fun y => p y == s).filter fun y => decide ((Rk s).idxOf o < (Rk s).idxOf y)).isEmpty) := by
      unfold blk2
      rw [wor_empty]
    have pos : decide (0 < ((l.filter fun y => p y == s).filter fun y => decide ((Rk s).idxOf o < (Rk s).idxOf y)).length) = !((l.filter fun y => p y == s).filter fun y => decide ((Rk s).idxOf o < (Rk s).idxOf y)).isEmpty := by
      cases (l.filter fun y => p y == s).filter fun y => decide ((Rk s).idxOf o < (Rk s).idxOf y) with
      | nil => rfl
      | cons x r => simp
    rw [b2, ← pos]
    generalize ((l.filter fun y => p y == s).filter fun y => decide ((Rk s).idxOf o < (Rk s).idxOf y)) = B
    by_cases c1 : (l.filter fun y => p y == s).length < cap s
    · simp [lbS, f7, c1, gApp_lt (l := L.map tup2) (by simpa using hL), tup2]
    · cases B with
      | nil => simp [lbS, f7, c1]
      | cons x r => simp [lbS, f7, c1, gApp_lt (l := L.map tup2) (by simpa using hL), tup2]
end
end Lk75
namespace Lk75
open PySem PySem.Spec PyProof.Rows L2 L2.Dl
section
variable {cap : Str → Nat} {Sl : List Str} {W : Str → List Str} {O : List Str} {Rk : Str → List Str} {p : Str → Str} {l : List Str}
theorem lb_loop (h : ShR cap Sl W O Rk) (hp : Pl W O p l) {L : List (Str × Str)} {o : Str} (ho : o ∈ O) (hL : L.length + 400 < 1000000) (s a b c d e : AV) :
    ∃ S', forL (tNm 6) lbB ((sortS (W o)).map .str) (lbS cap Sl W O Rk p l L (.shr (.str o)) s a b c d e) = .ok .nx S' ∧ ∃ s' a' b' c' d' e', S' = lbS cap Sl W O Rk p l (L ++ blkRow cap W Rk p l o (sortS (W o))) (.shr (.str o)) s' a' b' c' d' e' := by
  have wl := h.wlen ho
  have sl := length_sortS (W o)
  refine forL_list (I := fun ss S => ss.length ≤ (sortS (W o)).length ∧ ∃ s' a' b' c' d' e', S = lbS cap Sl W O Rk p l (L ++ blkRow cap W Rk p l o ss) (.shr (.str o)) s' a' b' c' d' e') D.str (pre := []) (fun pre s S he hI => ?_) ⟨by simp, s, a, b, c, d, e, by simp [blkRow]⟩ |>.imp fun S' q => ⟨q.1, q.2.2⟩
  obtain ⟨post, e⟩ := he
  obtain ⟨_, s', a', b', c', d', e', rfl⟩ := hI
  have hs : s ∈ W o := mem_sortS.mp (by rw [e]; simp)
  have el := congrArg List.length e
  simp only [List.length_append, List.length_cons] at el
  have bl := blkRow_len (cap := cap) (W := W) (Rk := Rk) (p := p) (l := l) o pre
  obtain ⟨a2, b2, c2, d2, e2, q⟩ := lbB_eq h hp (L := L ++ blkRow cap W Rk p l o pre) ho hs (by rw [List.length_append]; omega) a' b' c' d' e'
  refine ⟨lbS cap Sl W O Rk p l (L ++ blkRow cap W Rk p l o pre) (.shr (.str o)) (.shr (.str s)) a' b' c' d' e', _, rfl, q, by simp; omega, .shr (.str s), a2, b2, c2, d2, e2, ?_⟩
  rw [blkRow_snoc]
  split
  · rw [List.append_assoc]
  · rfl
theorem law_blocking_eq (h : ShR cap Sl W O Rk) (hp : Pl W O p l) :
    Fn__law_blocking [placesD cap Sl, rowsD W O, rowsD Rk Sl, planD p l] = .ret (.lst ((blkAll cap W Rk p l (sortS O)).map tup2)) true [] := by
  have ol : (sortS O).length ≤ 400 := by rw [length_sortS]; exact h.lo
  have loop : ∃ S', forL (tNm 5) (sFor (iSeq (sCall gSorted (sCons (sOp subscD (sNm 1) (sNm 5)) sNil))) (tNm 6) lbB) ((sortS O).map .str) (lbS cap Sl W O Rk p l [] .un .un .un .un .un .un .un) = .ok .nx S' ∧
      ((blkAll cap W Rk p l (sortS O)).length ≤ 400 * (sortS O).length ∧ (sortS O).length ≤ (sortS O).length) ∧ ∃ o s a b c d e, S' = lbS cap Sl W O Rk p l (blkAll cap W Rk p l (sortS O)) o s a b c d e := by
    refine forL_list (I := fun os S => ((blkAll cap W Rk p l os).length ≤ 400 * os.length ∧ os.length ≤ (sortS O).length) ∧ ∃ o s a b c d e, S = lbS cap Sl W O Rk p l (blkAll cap W Rk p l os) o s a b c d e) D.str (pre := []) (fun pre o S he hI => ?_) ⟨by simp [blkAll], _, _, _, _, _, _, _, rfl⟩
    obtain ⟨post, e⟩ := he
    obtain ⟨⟨len, _⟩, o', s', a, b, c, d, e', rfl⟩ := hI
    have ho : o ∈ O := mem_sortS.mp (by rw [e]; simp)
    have el := congrArg List.length e
    simp only [List.length_append, List.length_cons] at el
    have wl := h.wlen ho
    have bl := blkRow_len (cap := cap) (W := W) (Rk := Rk) (p := p) (l := l) o (sortS (W o))
    rw [length_sortS] at bl
    obtain ⟨S', e2, s2, a2, b2, c2, d2, e3, rfl⟩ := lb_loop h hp (L := blkAll cap W Rk p l pre) ho (by omega) s' a b c d e'
    refine ⟨lbS cap Sl W O Rk p l (blkAll cap W Rk p l pre) (.shr (.str o)) s' a b c d e', _, rfl, ok_sFor (ds := (sortS (W o)).map .str) (S1 := lbS cap Sl W O Rk p l (blkAll cap W Rk p l pre) (.shr (.str o)) s' a b c d e') ?_ e2, ⟨?_, ?_⟩, _, _, _, _, _, _, _, by rw [blkAll_snoc]⟩
    · exact ok_iSeq (d := .lst ((sortS (W o)).map .str)) (ok_sCall (ok_sCons (ok_sOp (r := .v (.lst ((W o).map .str))) rfl rfl rfl rfl (subscD_nd ho)) rfl) rfl (gSorted_strs _)) rfl rfl
    · rw [blkAll_snoc, List.length_append, List.length_append]
      simp only [List.length_cons, List.length_nil]
      omega
    · rw [List.length_append]
      simp only [List.length_cons, List.length_nil]
      omega
  obtain ⟨S', e, _, o, s, a, b, c, d, e', rfl⟩ := loop
  exact ok_runF (S := [.shr (placesD cap Sl), .shr (rowsD W O), .shr (rowsD Rk Sl), .shr (planD p l), .un, o, s, a, b, c, d, e', .un])
      (ok_sSeq (S1 := lbS cap Sl W O Rk p l [] .un .un .un .un .un .un .un) (ok_sAsg (ra := .f (.lst [])) rfl rfl) (ok_sSeq (ok_sFor (ds := (sortS O).map .str) (S1 := lbS cap Sl W O Rk p l [] .un .un .un .un .un .un .un)
        (ok_iSeq (d := .lst ((sortS O).map .str)) (ok_sCall (ok_sCons rfl rfl) rfl (gSorted_nd _ _)) rfl rfl) e) (ok_sRet (ra := .at 4) rfl rfl))) rfl
end
end Lk75
namespace Lk75
open PySem PySem.Spec PyProof.Rows L2 L2.Dl
section
variable {cap : Str → Nat} {Sl : List Str} {W : Str → List Str} {O : List Str} {Rk : Str → List Str} {ds : List Int}
noncomputable abbrev takeF : List D → FR := runF 2 [true, false] takeSem
noncomputable abbrev lr1B : M Fl := (sExpr (mutL 6 gApp (sCons (mutL 5 gPopAt (sCons (callM [true, false] takeF (sCons (sNm 0) (sCons (sCall gLen (sCons (sNm 5) sNil)) sNil))) sNil)) sNil)))
noncomputable abbrev lr2B : M Fl := (sSeq (sAsg 5 (sLc [8] (iSeq (sCall gSorted (sCons (sNm 2) sNil))) (tNm 8) (sCmpT memD (sNm 4) (sOp subscD (sNm 2) (sNm 8))) (sNm 8)))
    (sSeq (sAsg 6 (sMake gLst sNil))
    (sSeq (sFor (iRng fRng1 (sCons (sCall gLen (sCons (sNm 5) sNil)) sNil)) (tNm 7) lr1B)
    (sPut 3 (sNm 6) (sNm 4)))))
abbrev lrS (ds : List Int) (cap : Str → Nat) (Sl : List Str) (W : Str → List Str) (O : List Str) (Rk : Str → List Str) (pre : List Str) (x4 x5 x6 x7 : AV) : SS :=
  [.own (some 0) (deckI ds), .shr (placesD cap Sl), .shr (rowsD W O), .own none (rowsD Rk pre), x4, x5, x6, x7, .un]
theorem lr1B_eq {lf fs pre : List Str} (x4 x7 : AV) (h0 : 0 < lf.length) (h1 : lf.length < 1000) (h2 : fs.length < 1000) :
    ∃ x lf' ds', lr1B (lrS ds cap Sl W O Rk pre x4 (.own none (.lst (lf.map .str))) (.own none (.lst (fs.map .str))) x7) = .ok .nx (lrS ds' cap Sl W O Rk pre x4 (.own none (.lst (lf'.map .str))) (.own none (.lst ((fs ++ [x]).map .str))) x7) ∧ lf.Perm (x :: lf') ∧ lf'.length + 1 = lf.length := by
  have p : (0 : Int) < lf.length := by omega
  obtain ⟨x, lf', e, hp, hl⟩ := gPopAt_strs (takeI_nonneg (ds := ds) p) (takeI_lt (ds := ds) p) (by omega)
  have tk := take_F (ds := ds) p
  refine ⟨x, lf', ds.dropLast, ?_, hp, hl⟩
  simp [lr1B, lrS, tk, e, gApp_lt (l := fs.map D.str) (d := .str x) (by simp; omega)]
theorem lr1_loop (F pre : List Str) (hF : F.length < 1000) (x4 x7 : AV) :
    ∃ S', forL (tNm 7) lr1B ((List.range F.length).map fun k => .int (k : Nat)) (lrS ds cap Sl W O Rk pre x4 (.own none (.lst (F.map .str))) (.own none (.lst (([] : List Str).map .str))) x7) = .ok .nx S' ∧
      ∃ (ds' : List Int) (fs : List Str) (x7 : AV), S' = lrS ds' cap Sl W O Rk pre x4 (.own none (.lst (([] : List Str).map .str))) (.own none (.lst (fs.map .str))) x7 ∧ fs.Perm F := by
  obtain ⟨S', e, ds', lf, fs, a, rfl, h1, h2, h3⟩ := forL_range (g := tNm 7) (body := lr1B) (n := F.length) (S := lrS ds cap Sl W O Rk pre x4 (.own none (.lst (F.map .str))) (.own none (.lst (([] : List Str).map .str))) x7)
    (fun k S => ∃ (ds' : List Int) (lf fs : List Str) (a : AV), S = lrS ds' cap Sl W O Rk pre x4 (.own none (.lst (lf.map .str))) (.own none (.lst (fs.map .str))) a ∧ (fs ++ lf).Perm F ∧ fs.length = k ∧ lf.length = F.length - k) (fun k S hk hI => by
      obtain ⟨ds', lf, fs, a, rfl, h1, h2, h3⟩ := hI
      obtain ⟨x, lf', ds2, e, hp, hl⟩ := lr1B_eq (cap := cap) (Sl := Sl) (W := W) (O := O) (Rk := Rk) (ds := ds') (lf := lf) (fs := fs) (pre := pre) x4 (.shr (.int (k : Nat))) (by omega) (by omega) (by omega)
      refine ⟨_, _, rfl, e, ds2, lf', fs ++ [x], _, rfl, ?_, by simp; omega, by omega⟩
      rw [List.append_assoc]
      exact ((hp.symm).append_left fs).trans h1) ⟨ds, F, [], x7, rfl, by simp, rfl, rfl⟩
  have : lf = [] := List.length_eq_zero_iff.mp (by omega)
  subst this
  exact ⟨_, e, ds', fs, a, rfl, by simpa using h1⟩
def updR (Rk : Str → List Str) (s : Str) (r : List Str) : Str → List Str := fun t => if t = s then r else Rk t
theorem rowsD_new {pre : List Str} {s : Str} {r : List Str} (hs : s ∉ pre) : D.dct (putD (nd (fun s => D.lst ((Rk s).map .str)) pre) (.inr s) (.lst (r.map .str))) = rowsD (updR Rk s r) (pre ++ [s]) := by
  have e : nd (fun o => D.lst ((Rk o).map .str)) pre = nd (fun y => D.lst ((updR Rk s r y).map .str)) pre := nd_congr fun x hx => by
    have : x ≠ s := fun z => hs (z ▸ hx)
    simp [updR, this]
  rw [e, putD_nd_new hs (by simp [updR])]
  rfl
theorem lr2B_eq (h : Sh cap Sl W O) {pre : List Str} {s : Str} (hs : s ∉ pre) (hpl : pre.length < 1000) (x5 x6 x7 : AV) :
    ∃ ds' r x5' x6' x7', lr2B (lrS ds cap Sl W O Rk pre (.shr (.str s)) x5 x6 x7) = .ok .nx (lrS ds' cap Sl W O (updR Rk s r) (pre ++ [s]) (.shr (.str s)) x5' x6' x7') ∧ r.Perm (O.filter fun o => decide (s ∈ W o)) := by
  have ol := h.lo
  let F := (sortS O).filter fun o => decide (s ∈ W o)
  have hF : F.length ≤ 400 := Nat.le_trans (List.length_filter_le _ _) (by rw [length_sortS]; exact ol)
  have e1 : sLc [8] (iSeq (sCall gSorted (sCons (sNm 2) sNil))) (tNm 8) (sCmpT memD (sNm 4) (sOp subscD (sNm 2) (sNm 8))) (sNm 8) (lrS ds cap Sl W O Rk pre (.shr (.str s)) x5 x6 x7) =
      .ok (.f (.lst (F.map .str))) (lrS ds cap Sl W O Rk pre (.shr (.str s)) x5 x6 x7) := by
    refine lc_names (l := sortS O) (w := .un) (fun o => decide (s ∈ W o)) (iSeq_sorted (t := none) (.inl rfl)) (by rw [length_sortS]; omega) rfl fun o ho => ?_
    have q := subscD_nd (f := fun o => D.lst ((W o).map .str)) (mem_sortS.mp ho)
    simp [lrS, rowsD, q, memD_strs]
  obtain ⟨S7, e7, ds', r, x7', rfl, hr⟩ := lr1_loop (ds := ds) (cap := cap) (Sl := Sl) (W := W) (O := O) (Rk := Rk) F pre (by omega) (.shr (.str s)) x7
  refine ⟨ds', r, .own none (.lst []), .shr (.lst (r.map .str)), x7', ?_, hr.trans ((sortS_perm O).filter _)⟩
  have hp : putAt (rowsD Rk pre) (.str s) (.lst (r.map .str)) = some (rowsD (updR Rk s r) (pre ++ [s])) := by
    show (if (nd (fun o => D.lst ((Rk o).map .str)) pre).length < 1000000 then some (D.dct (putD (nd (fun o => D.lst ((Rk o).map .str)) pre) (.inr s) (.lst (r.map .str)))) else none) = _
    rw [if_pos (by simp [nd]; omega), rowsD_new hs]
  refine ok_sSeq (S1 := lrS ds cap Sl W O Rk pre (.shr (.str s)) (.own none (.lst (F.map .str))) x6 x7) (ok_sAsg e1 rfl)
    (ok_sSeq (S1 := lrS ds cap Sl W O Rk pre (.shr (.str s)) (.own none (.lst (F.map .str))) (.own none (.lst (([] : List Str).map .str))) x7) (ok_sAsg (ra := .f (.lst [])) rfl rfl)
    (ok_sSeq (S1 := lrS ds' cap Sl W O Rk pre (.shr (.str s)) (.own none (.lst (([] : List Str).map .str))) (.own none (.lst (r.map .str))) x7') ?_ ?_))
  · rw [← e7]
    have hr := fRng1_nat (n := F.length) (by omega)
    have gl : gLen [D.lst (F.map .str)] = some (.v (.int (F.length : Nat))) := gLen_strs _
    simp only [ev_sFor, ev_iRng, ev_sCons, ev_sCall, ev_sNm, ev_sNil, ev_bind_ok, ev_lookL_cons, ev_lookL_nil, ev_look_at, ev_slotD, lrS, List.getElem?_cons_succ, List.getElem?_cons_zero, ev_data_own, Option.bind_eq_bind, Option.bind_some, gl, ev_lift_some, ev_look_v, hr]
  · simp [lrS, rowsD] at hp ⊢
    simp [hp]
theorem ranks_run (h : Sh cap Sl W O) (ds : List Int) : ∃ Rk ds', Fn__law_ranks [deckI ds, placesD cap Sl, rowsD W O] = .ret (rowsD Rk Sl) true [deckI ds'] ∧ (∀ s ∈ Sl, (Rk s).Perm (O.filter fun o => decide (s ∈ W o))) ∧ ∀ s, s ∉ Sl → Rk s = [] := by
  have ls := h.ls
  obtain ⟨S', e, ds', Rk, x4, x5, x6, x7, rfl, h1, h2⟩ : ∃ S', forL (tNm 4) lr2B (Sl.map .str) (lrS ds cap Sl W O (fun _ => []) [] .un .un .un .un) = .ok .nx S' ∧
      ∃ ds' Rk x4 x5 x6 x7, S' = lrS ds' cap Sl W O Rk Sl x4 x5 x6 x7 ∧ (∀ s ∈ Sl, (Rk s).Perm (O.filter fun o => decide (s ∈ W o))) ∧ ∀ s, s ∉ Sl → Rk s = [] := by
    refine forL_list (I := fun pre S => ∃ ds' Rk x4 x5 x6 x7, S = lrS ds' cap Sl W O Rk pre x4 x5 x6 x7 ∧ (∀ s ∈ pre, (Rk s).Perm (O.filter fun o => decide (s ∈ W o))) ∧ ∀ s, s ∉ pre → Rk s = []) D.str (pre := []) (fun pre s S he hI => ?_) ⟨_, _, _, _, _, _, rfl, by simp, by simp⟩
    obtain ⟨post, e⟩ := he
    obtain ⟨ds', Rk, x4, x5, x6, x7, rfl, h1, h2⟩ := hI
    have hs : s ∉ pre := fun z => by
      have := h.ns
      rw [e] at this
      exact (List.nodup_append.mp this).2.2 s z s List.mem_cons_self rfl
    have el := congrArg List.length e
    simp only [List.length_append, List.length_cons] at el
    obtain ⟨ds2, r, y5, y6, y7, e2, hr⟩ := lr2B_eq (ds := ds') (Rk := Rk) h hs (by omega) x5 x6 x7
    refine ⟨_, _, rfl, e2, ds2, updR Rk s r, _, _, _, _, rfl, fun t ht => ?_, fun t ht => ?_⟩
    · unfold updR
      by_cases z : t = s
      · subst z; simp [hr]
      · rw [if_neg z]
        exact h1 t ((List.mem_append.mp ht).resolve_right fun q => z (List.mem_singleton.mp q))
    · have z : t ≠ s := fun z => ht (by simp [z])
      unfold updR
      rw [if_neg z]
      exact h2 t fun q => ht (List.mem_append_left _ q)
  refine ⟨Rk, ds', ok_runF (S := [.own (some 0) (deckI ds'), .shr (placesD cap Sl), .shr (rowsD W O), .un, x4, x5, x6, x7, .un]) ?_ rfl, h1, h2⟩
  show sSeq (sAsg 3 sNewK) (sSeq (sFor (iSeq (sNm 1)) (tNm 4) lr2B) (sRet (sNm 3))) [.own (some 0) (deckI ds), .shr (placesD cap Sl), .shr (rowsD W O), .un, .un, .un, .un, .un, .un] = _
  exact ok_sSeq (S1 := lrS ds cap Sl W O (fun _ => []) [] .un .un .un .un) (ok_sAsg (ra := .f (.dct [])) rfl rfl) (ok_sSeq (ok_sFor (iSeq_nd (f := fun s => .int (cap s)) (l := Sl) rfl) e) (ok_sRet (ra := .at 3) rfl rfl))
end
end Lk75
namespace Lk75
open PySem PySem.Spec PyProof.Rows L2 L2.Dl
theorem snoc_ind {α : Type} {P : List α → Prop} (h0 : P []) (h1 : ∀ l a, P l → P (l ++ [a])) (l : List α) : P l := by
  have : ∀ l : List α, P l.reverse := fun l => by
    induction l with
    | nil => exact h0
    | cons a l ih => rw [List.reverse_cons]; exact h1 _ _ ih
  have q := this l.reverse
  rwa [List.reverse_reverse] at q
abbrev PP := (Str → Str) × List Str
def plD (q : PP) : D := planD q.1 q.2
def plansD (F : List PP) : D := .lst (F.map plD)
def ext1 (cap : Str → Nat) (o : Str) (q : PP) (ss : List Str) : List PP := (ss.filter fun s => decide ((q.2.filter fun y => q.1 y == s).length + 1 ≤ cap s)).map fun s => (upd1 q.1 o s, q.2 ++ [o])
def ext (cap : Str → Nat) (W : Str → List Str) (o : Str) (q : PP) : List PP := ext1 cap o q (W o)
def stepP (cap : Str → Nat) (W : Str → List Str) (F : List PP) (o : Str) : List PP := F ++ F.flatMap (ext cap W o)
def someP (cap : Str → Nat) (W : Str → List Str) (os : List Str) : List PP := os.foldl (stepP cap W) [((fun _ => "" : Str → Str), [])]
section
variable {cap : Str → Nat} {Sl : List Str} {W : Str → List Str} {O : List Str} {p : Str → Str} {l : List Str}
theorem someP_snoc (os : List Str) (o : Str) : someP cap W (os ++ [o]) = stepP cap W (someP cap W os) o := by simp [someP]
theorem ext1_len (o : Str) (q : PP) (ss : List Str) : (ext1 cap o q ss).length ≤ ss.length := by
  unfold ext1
  rw [List.length_map]
  exact List.length_filter_le _ _
theorem ext1_snoc (o s : Str) (q : PP) (ss : List Str) : ext1 cap o q (ss ++ [s]) = if (q.2.filter fun y => q.1 y == s).length + 1 ≤ cap s then ext1 cap o q ss ++ [(upd1 q.1 o s, q.2 ++ [o])] else ext1 cap o q ss := by
  unfold ext1
  rw [List.filter_append, List.map_append]
  split <;> rename_i h <;> simp [List.filter_cons, h]
theorem flat_len (o : Str) (hw : (W o).length ≤ 3) : ∀ F : List PP, (F.flatMap (ext cap W o)).length ≤ 3 * F.length
  | [] => by simp
  | q :: F => by
    have ih := flat_len o hw F
    have := ext1_len (cap := cap) o q (W o)
    simp only [List.flatMap_cons, List.length_append, List.length_cons, ext]
    omega
theorem step_len (o : Str) (hw : (W o).length ≤ 3) (F : List PP) : (stepP cap W F o).length ≤ 4 * F.length := by
  have := flat_len (cap := cap) o hw F
  unfold stepP
  rw [List.length_append]
  omega
theorem someP_len (hw : ∀ o, (W o).length ≤ 3) (os : List Str) : (someP cap W os).length ≤ 4 ^ os.length := by
  have : ∀ (os : List Str) (F : List PP), (os.foldl (stepP cap W) F).length ≤ 4 ^ os.length * F.length := by
    intro os
    induction os with
    | nil => intro F; simp
    | cons o os ih =>
      intro F
      have := ih (stepP cap W F o)
      have h2 := step_len (cap := cap) o (hw o) F
      have h3 := Nat.mul_le_mul_left (4 ^ os.length) h2
      simp only [List.foldl_cons, List.length_cons, Nat.pow_succ]
      rw [Nat.mul_assoc]
      omega
  have := this os [((fun _ => "" : Str → Str), [])]
  simpa [someP] using this
/-- what is known of each plan -/
def Good (cap : Str → Nat) (W : Str → List Str) (O : List Str) (q : PP) : Prop := Pl W O q.1 q.2 ∧ ∀ s, (q.2.filter fun o => q.1 o == s).length ≤ cap s
theorem ext_good {o : Str} {q : PP} (ho : o ∈ O) (hg : Good cap W O q) (hl : o ∉ q.2) : ∀ r ∈ ext cap W o q, Good cap W O r := by
  intro r hr
  obtain ⟨s, hs, rfl⟩ := List.mem_map.mp hr
  obtain ⟨h1, h2⟩ := List.mem_filter.mp hs
  have h2 := of_decide_eq_true h2
  refine ⟨hg.1.new ho hl h1, fun t => ?_⟩
  show ((q.2 ++ [o]).filter fun y => upd1 q.1 o s y == t).length ≤ cap t
  rw [filter_new hl, List.length_append]
  have := hg.2 t
  by_cases z : s = t
  · subst z; simp; omega
  · simp [z]; omega
theorem someP_good (nO : O.Nodup) : ∀ pre post : List Str, pre ++ post = O → ∀ q ∈ someP cap W pre, Good cap W O q ∧ q.2.Sublist pre := by
  refine snoc_ind ?_ fun pre o ih => ?_
  · intro post _ q hq
    rw [show someP cap W [] = [((fun _ => "" : Str → Str), [])] from rfl] at hq
    rw [List.mem_singleton.mp hq]
    exact ⟨⟨⟨List.nodup_nil, fun o h => (nomatch h)⟩, fun s => Nat.zero_le _⟩, List.Sublist.refl _⟩
  · intro post e q hq
    rw [List.append_assoc] at e
    have ho : o ∈ O := by rw [← e]; simp
    have hn : o ∉ pre := fun z => by
      rw [← e] at nO
      exact (List.nodup_append.mp nO).2.2 o z o (by simp) rfl
    rw [someP_snoc] at hq
    rcases List.mem_append.mp hq with z | z
    · obtain ⟨h1, h2⟩ := ih _ e q z
      exact ⟨h1, h2.trans (List.sublist_append_left _ _)⟩
    · obtain ⟨r, hr, hq⟩ := List.mem_flatMap.mp z
      obtain ⟨h1, h2⟩ := ih _ e r hr
      refine ⟨ext_good ho h1 (fun w => hn (h2.subset w)) q hq, ?_⟩
      obtain ⟨s, hs, rfl⟩ := List.mem_map.mp hq
      exact h2.append (List.Sublist.refl _)
/-! ### each plan is there once -/
def same (m : Str → Option Str) (os : List Str) (q : PP) : Bool := decide (∀ o ∈ os, mOf q.1 q.2 o = m o)
theorem mOf_off {q : PP} {os : List Str} {o : Str} (h : q.2.Sublist os) (ho : o ∉ os) : mOf q.1 q.2 o = none := if_neg fun z => ho (h.subset z)
theorem sum_nought {α : Type} : ∀ F : List α, (F.map fun _ => 0).sum = 0
  | [] => rfl
  | _ :: F => by
    rw [List.map_cons, List.sum_cons, sum_nought F]
theorem sum_ite {α : Type} (T : α → Bool) : ∀ F : List α, (F.map fun q => if T q = true then 1 else 0).sum = F.countP T
  | [] => rfl
  | q :: F => by
    rw [List.map_cons, List.sum_cons, sum_ite T F, List.countP_cons]
    omega
theorem once_mem {T : Str → Bool} {s : Str} : ∀ {l : List Str}, l.Nodup → s ∈ l → (∀ t ∈ l, T t = true ↔ t = s) → l.countP T = 1
  | [], _, h, _ => nomatch h
  | a :: l, nd, h, ht => by
    obtain ⟨h1, h2⟩ := List.nodup_cons.mp nd
    rw [List.countP_cons]
    by_cases z : a = s
    · subst z
      have : l.countP T = 0 := List.countP_eq_zero.mpr fun t q w => h1 (((ht t (List.mem_cons_of_mem _ q)).mp w) ▸ q)
      rw [this, if_pos ((ht a List.mem_cons_self).mpr rfl)]
    · have := once_mem h2 ((List.mem_cons.mp h).resolve_left fun q => z q.symm) fun t q => ht t (List.mem_cons_of_mem _ q)
      rw [this, if_neg fun q => z ((ht a List.mem_cons_self).mp q)]
theorem cnt_pre {m : Str → Option Str} {s : Str} (pre : List Str) {q : PP} (hq : Pl W O q.1 q.2) (hs : q.2.Sublist pre) (nd : pre.Nodup) (h : ∀ o ∈ pre, mOf q.1 q.2 o = m o) : (q.2.filter fun y => q.1 y == s).length = Sd.cnt m pre s := by
  unfold Sd.cnt
  apply List.Perm.length_eq
  apply (List.perm_ext_iff_of_nodup (hq.nd.filter _) (nd.filter _)).mpr
  intro o
  simp only [List.mem_filter, decide_eq_true_eq, beq_iff_eq]
  constructor
  · rintro ⟨h1, h2⟩
    have hp := hs.subset h1
    exact ⟨hp, by rw [← h o hp]; exact mOf_some.mpr ⟨h1, h2⟩⟩
  · rintro ⟨h1, h2⟩
    rw [← h o h1] at h2
    exact mOf_some.mp h2
theorem someP_once {m : Str → Option Str} (nO : O.Nodup) (nW : ∀ o, (W o).Nodup) (hw : ∀ o ∈ O, ∀ s, m o = some s → s ∈ W o) (hc : ∀ s, Sd.cnt m O s ≤ cap s) : ∀ pre post : List Str, pre ++ post = O → (someP cap W pre).countP (same m pre) = 1 := by
  refine snoc_ind ?_ fun pre o ih => ?_
  · intro post _; rfl
  · intro post e
    rw [List.append_assoc] at e
    have ho : o ∈ O := by rw [← e]; simp
    have np : (pre ++ [o]).Nodup := by
      rw [← e, ← List.append_assoc] at nO
      exact (List.nodup_append.mp nO).1
    have hn : o ∉ pre := fun z => (List.nodup_append.mp np).2.2 o z o (by simp) rfl
    have ih := ih _ e
    have gd := someP_good (cap := cap) (W := W) nO _ _ e
    rw [someP_snoc]
    unfold stepP
    rw [List.countP_append, List.countP_flatMap]
    cases hm : m o with
    | none =>
      have e1 : (someP cap W pre).countP (same m (pre ++ [o])) = (someP cap W pre).countP (same m pre) := List.countP_congr fun q hq => by
        have := mOf_off (gd q hq).2 hn
        simp only [same, decide_eq_true_eq]
        constructor
        · intro h x hx; exact h x (List.mem_append_left _ hx)
        · intro h x hx
          rcases List.mem_append.mp hx with z | z
          · exact h x z
          · rw [List.mem_singleton.mp z, this, hm]
      have e2 : ((someP cap W pre).map (List.countP (same m (pre ++ [o])) ∘ ext cap W o)).sum = 0 := by
        rw [show (someP cap W pre).map (List.countP (same m (pre ++ [o])) ∘ ext cap W o) = (someP cap W pre).map fun _ => 0 from List.map_congr_left fun q hq => by
          refine List.countP_eq_zero.mpr fun r hr w => ?_
          obtain ⟨s, hs, rfl⟩ := List.mem_map.mp hr
          have := of_decide_eq_true w o (by simp)
          rw [hm, mOf_new (fun z => hn ((gd q hq).2.subset z))] at this
          simp at this]
        exact sum_nought _
      rw [e1, e2, ih]
    | some s =>
      have e1 : (someP cap W pre).countP (same m (pre ++ [o])) = 0 := List.countP_eq_zero.mpr fun q hq w => by
        have h1 := mOf_off (gd q hq).2 hn
        have := of_decide_eq_true w o (by simp)
        rw [h1, hm] at this
        cases this
      have e2 : (someP cap W pre).map (List.countP (same m (pre ++ [o])) ∘ ext cap W o) = (someP cap W pre).map fun q => if same m pre q = true then 1 else 0 := List.map_congr_left fun q hq => by
        have hl : o ∉ q.2 := fun z => hn ((gd q hq).2.subset z)
        have key : ∀ t, same m (pre ++ [o]) (upd1 q.1 o t, q.2 ++ [o]) = true ↔ same m pre q = true ∧ t = s := fun t => by
          simp only [same, decide_eq_true_eq]
          constructor
          · intro h
            refine ⟨fun x hx => ?_, ?_⟩
            · have := h x (List.mem_append_left _ hx)
              rw [mOf_new hl, if_neg fun z : x = o => hn (z ▸ hx)] at this
              exact this
            · have := h o (by simp)
              rw [mOf_new hl, if_pos rfl, hm] at this
              exact Option.some.inj this
          · rintro ⟨h, rfl⟩ x hx
            rw [mOf_new hl]
            by_cases z : x = o
            · subst z; rw [if_pos rfl, hm]
            · rw [if_neg z]
              exact h x ((List.mem_append.mp hx).resolve_right fun q => z (List.mem_singleton.mp q))
        show (ext cap W o q).countP _ = _
        unfold ext ext1
        rw [List.countP_map]
        split
        · rename_i hs
          have hs' := of_decide_eq_true hs
          refine once_mem (s := s) ((nW o).filter _) ?_ fun t _ => ?_
          · refine List.mem_filter.mpr ⟨hw o ho s hm, decide_eq_true ?_⟩
            rw [cnt_pre pre (gd q hq).1.1 (gd q hq).2 (List.nodup_append.mp np).1 hs']
            have h1 : Sd.cnt m (pre ++ [o]) s = Sd.cnt m pre s + 1 := by
              unfold Sd.cnt
              rw [List.filter_append, List.length_append]
              simp [List.filter_cons, hm]
            have h2 : Sd.cnt m (pre ++ [o]) s ≤ Sd.cnt m O s := by
              rw [← e]
              unfold Sd.cnt
              exact (((List.append_sublist_append_left pre).mpr (List.sublist_append_left [o] post)).filter _).length_le
            have := hc s
            omega
          · show same m (pre ++ [o]) _ = true ↔ _
            rw [key]
            exact ⟨fun h => h.2, fun h => ⟨hs, h⟩⟩
        · rename_i hs
          refine List.countP_eq_zero.mpr fun t _ w => ?_
          exact hs ((key t).mp w).1
      rw [e1, e2, sum_ite, ih]
end
end Lk75
namespace Lk75
open PySem PySem.Spec PyProof.Rows L2 L2.Dl
section
variable {cap : Str → Nat} {Sl : List Str} {W : Str → List Str} {O : List Str} {p : Str → Str} {l : List Str}
noncomputable abbrev sm1B : M Fl := (sSeq (sAsg 7 (sCall gDict (sCons (sNm 5) sNil)))
    (sSeq (sPut 7 (sNm 6) (sNm 3))
    (sIfS (sCmpT leD (sCall gLen (sCons (sLc [8] (iSeq (sNm 7)) (tNm 8) (sCmpT deq (sOp subscD (sNm 7) (sNm 8)) (sNm 6)) (sNm 8)) sNil)) (sOp subscD (sNm 0) (sNm 6))) (sExpr (mutL 4 gApp (sCons (sNm 7) sNil))) sNext)))
noncomputable abbrev sm2B : M Fl := (sFor (iSeq (sOp subscD (sNm 1) (sNm 3))) (tNm 6) sm1B)
noncomputable abbrev sm3B : M Fl := (sSeq (sAsg 4 (sCall gList (sCons (sNm 2) sNil)))
    (sSeq (sFor (iSeq (sNm 2)) (tNm 5) sm2B)
    (sAsg 2 (sNm 4))))
abbrev smS (cap : Str → Nat) (Sl : List Str) (W : Str → List Str) (O : List Str) (x2 x3 : AV) (L : List PP) (x5 x6 x7 : AV) : SS :=
  [.shr (placesD cap Sl), .shr (rowsD W O), x2, x3, .own none (plansD L), x5, x6, x7, .un]
theorem sm1_eq (h : Sh cap Sl W O) (hp : Pl W O p l) {L : List PP} {o s : Str} (ho : o ∈ O) (hs : s ∈ W o) (hl : o ∉ l) (hL : L.length < 1000000) (x2 x7 : AV) :
    ∃ x7', sm1B (smS cap Sl W O x2 (.shr (.str o)) L (.shr (planD p l)) (.shr (.str s)) x7) = .ok .nx (smS cap Sl W O x2 (.shr (.str o)) (if (l.filter fun y => p y == s).length + 1 ≤ cap s then L ++ [(upd1 p o s, l ++ [o])] else L) (.shr (planD p l)) (.shr (.str s)) x7') := by
  have ll := hp.len h.lo
  have hsl := h.ws o ho s hs
  have hp2 : Pl W O (upd1 p o s) (l ++ [o]) := hp.new ho hl hs
  have pt : putAt (planD p l) (.str o) (.str s) = some (planD (upd1 p o s) (l ++ [o])) := by
    show (if (nd (fun o => D.str (p o)) l).length < 1000000 then some (D.dct (putD (nd (fun o => D.str (p o)) l) (.inr o) (.str s))) else none) = _
    rw [if_pos (by simp [nd]; omega), planD_new hl]
  have gd : gDict [planD p l] = some (.f (planD p l)) := rfl
  have f7 : subscD (placesD cap Sl) (.str s) = some (.v (.int (cap s : Nat))) := subscD_nd hsl
  have e1 : sAsg 7 (sCall gDict (sCons (sNm 5) sNil)) (smS cap Sl W O x2 (.shr (.str o)) L (.shr (planD p l)) (.shr (.str s)) x7) = .ok .nx (smS cap Sl W O x2 (.shr (.str o)) L (.shr (planD p l)) (.shr (.str s)) (.own none (planD p l))) := by
    simp [smS, gd]
  have e2 : sPut 7 (sNm 6) (sNm 3) (smS cap Sl W O x2 (.shr (.str o)) L (.shr (planD p l)) (.shr (.str s)) (.own none (planD p l))) = .ok .nx (smS cap Sl W O x2 (.shr (.str o)) L (.shr (planD p l)) (.shr (.str s)) (.own none (planD (upd1 p o s) (l ++ [o])))) := by
    simp only [planD] at pt ⊢
    simp [smS, pt]
  have e3 : sLc [8] (iSeq (sNm 7)) (tNm 8) (sCmpT deq (sOp subscD (sNm 7) (sNm 8)) (sNm 6)) (sNm 8) (smS cap Sl W O x2 (.shr (.str o)) L (.shr (planD p l)) (.shr (.str s)) (.own none (planD (upd1 p o s) (l ++ [o])))) =
      .ok (.f (.lst (((l ++ [o]).filter fun y => upd1 p o s y == s).map .str))) (smS cap Sl W O x2 (.shr (.str o)) L (.shr (planD p l)) (.shr (.str s)) (.shr (planD (upd1 p o s) (l ++ [o])))) := by
    refine lc_names (l := l ++ [o]) (w := .un) (fun y => upd1 p o s y == s) (ok_iSeq (d := planD (upd1 p o s) (l ++ [o])) rfl rfl (by simp only [planD, seqOf, nd_keyD])) (by simp; omega) rfl fun y hy => ?_
    exact ok_sCmpT (ok_sOp (r := .v (.str (upd1 p o s y))) rfl rfl rfl rfl (subscD_nd hy)) rfl rfl rfl (deq_str (hp2.lay h y hy) (h.ys s hsl))
  have len : ((l ++ [o]).filter fun y => upd1 p o s y == s).length = (l.filter fun y => p y == s).length + 1 := by
    rw [filter_new hl]
    simp
  refine ⟨.shr (planD (upd1 p o s) (l ++ [o])), ok_sSeq e1 (ok_sSeq e2 ?_)⟩
  generalize ((l ++ [o]).filter fun y => upd1 p o s y == s) = B at e3 len
  simp only [ev_sIfS, ev_sCmpT, ev_sCall, ev_sCons, ev_sNil, e3]
  have ap : gApp (L.map plD) [planD (upd1 p o s) (l ++ [o])] = some ((L ++ [(upd1 p o s, l ++ [o])]).map plD, .non) := by
    rw [gApp_lt (by simpa using hL), List.map_append]
    rfl
  by_cases c : (l.filter fun y => p y == s).length + 1 ≤ cap s
  · have c' : ((l.filter fun y => p y == s).length : Int) + 1 ≤ (cap s : Nat) := by omega
    simp [smS, plansD, len, f7, c, c', ap]
  · have c' : ¬ ((l.filter fun y => p y == s).length : Int) + 1 ≤ (cap s : Nat) := by omega
    simp [smS, plansD, len, f7, c, c']
theorem sm2_eq (h : Sh cap Sl W O) (q : PP) (hp : Pl W O q.1 q.2) {L : List PP} {o : Str} (ho : o ∈ O) (hw : (W o).length ≤ 3) (hl : o ∉ q.2) (hL : L.length < 900000) (x2 x6 x7 : AV) :
    ∃ x6' x7', sm2B (smS cap Sl W O x2 (.shr (.str o)) L (.shr (plD q)) x6 x7) = .ok .nx (smS cap Sl W O x2 (.shr (.str o)) (L ++ ext cap W o q) (.shr (plD q)) x6' x7') := by
  have f1 : subscD (rowsD W O) (.str o) = some (.v (.lst ((W o).map .str))) := subscD_nd ho
  obtain ⟨S', e, _, x6', x7', rfl⟩ : ∃ S', forL (tNm 6) sm1B ((W o).map .str) (smS cap Sl W O x2 (.shr (.str o)) L (.shr (plD q)) x6 x7) = .ok .nx S' ∧
      (W o).length ≤ 3 ∧ ∃ x6' x7', S' = smS cap Sl W O x2 (.shr (.str o)) (L ++ ext1 cap o q (W o)) (.shr (plD q)) x6' x7' := by
    refine forL_list (I := fun ss S => ss.length ≤ 3 ∧ ∃ x6' x7', S = smS cap Sl W O x2 (.shr (.str o)) (L ++ ext1 cap o q ss) (.shr (plD q)) x6' x7') D.str (pre := []) (fun pre s S he hI => ?_) ⟨by simp, x6, x7, by simp [ext1]⟩
    obtain ⟨post, e⟩ := he
    obtain ⟨_, y6, y7, rfl⟩ := hI
    have hs : s ∈ W o := by rw [e]; simp
    have el := congrArg List.length e
    simp only [List.length_append, List.length_cons] at el
    have xl := ext1_len (cap := cap) o q pre
    obtain ⟨z7, e2⟩ := sm1_eq (p := q.1) (l := q.2) h hp (L := L ++ ext1 cap o q pre) ho hs hl (by rw [List.length_append]; omega) x2 y7
    refine ⟨smS cap Sl W O x2 (.shr (.str o)) (L ++ ext1 cap o q pre) (.shr (plD q)) (.shr (.str s)) y7, _, rfl, e2, by simp; omega, .shr (.str s), z7, ?_⟩
    rw [ext1_snoc]
    split
    · rw [List.append_assoc]; rfl
    · rfl
  refine ⟨x6', x7', ?_⟩
  exact ok_sFor (ds := (W o).map .str) (S1 := smS cap Sl W O x2 (.shr (.str o)) L (.shr (plD q)) x6 x7) (ok_iSeq (d := .lst ((W o).map .str)) (ok_sOp (r := .v (.lst ((W o).map .str))) rfl rfl rfl rfl f1) rfl rfl) e
theorem sm3_eq (h : Sh cap Sl W O) {F : List PP} {o : Str} (hF : ∀ q ∈ F, Pl W O q.1 q.2 ∧ o ∉ q.2) (ho : o ∈ O) (hw : (W o).length ≤ 3) (hL : F.length < 100000) (x2 x4 x5 x6 x7 : AV) (hx : x2 = .shr (plansD F) ∨ x2 = .own none (plansD F)) :
    ∃ x4' x5' x6' x7', sm3B [.shr (placesD cap Sl), .shr (rowsD W O), x2, .shr (.str o), x4, x5, x6, x7, .un] = .ok .nx [.shr (placesD cap Sl), .shr (rowsD W O), .shr (plansD (stepP cap W F o)), .shr (.str o), x4', x5', x6', x7', .un] := by
  have gl : gList [plansD F] = some (.f (plansD F)) := rfl
  have e1 : sAsg 4 (sCall gList (sCons (sNm 2) sNil)) [.shr (placesD cap Sl), .shr (rowsD W O), x2, .shr (.str o), x4, x5, x6, x7, .un] = .ok .nx (smS cap Sl W O x2 (.shr (.str o)) F x5 x6 x7) := by
    rcases hx with rfl | rfl <;> simp [smS, gl]
  obtain ⟨S', e, ⟨_, _⟩, x5', x6', x7', rfl⟩ : ∃ S', forL (tNm 5) sm2B (F.map plD) (smS cap Sl W O (.shr (plansD F)) (.shr (.str o)) F x5 x6 x7) = .ok .nx S' ∧
      ((F.flatMap (ext cap W o)).length ≤ 3 * F.length ∧ F.length ≤ F.length) ∧ ∃ x5' x6' x7', S' = smS cap Sl W O (.shr (plansD F)) (.shr (.str o)) (F ++ F.flatMap (ext cap W o)) x5' x6' x7' := by
    refine forL_list (I := fun qs S => ((qs.flatMap (ext cap W o)).length ≤ 3 * qs.length ∧ qs.length ≤ F.length) ∧ ∃ x5' x6' x7', S = smS cap Sl W O (.shr (plansD F)) (.shr (.str o)) (F ++ qs.flatMap (ext cap W o)) x5' x6' x7') plD (pre := []) (fun pre q S he hI => ?_) ⟨by simp, x5, x6, x7, by simp⟩
    obtain ⟨post, e⟩ := he
    obtain ⟨⟨l1, l2⟩, y5, y6, y7, rfl⟩ := hI
    have hq : q ∈ F := by rw [e]; simp
    have el := congrArg List.length e
    simp only [List.length_append, List.length_cons] at el
    obtain ⟨z6, z7, e2⟩ := sm2_eq h q (hF q hq).1 (L := F ++ pre.flatMap (ext cap W o)) ho hw (hF q hq).2 (by rw [List.length_append]; omega) (.shr (plansD F)) y6 y7
    refine ⟨_, _, rfl, e2, ⟨flat_len o hw _, by simp; omega⟩, .shr (plD q), z6, z7, ?_⟩
    rw [List.flatMap_append, List.append_assoc]
    simp
  have e4 : sFor (iSeq (sNm 2)) (tNm 5) sm2B (smS cap Sl W O x2 (.shr (.str o)) F x5 x6 x7) = .ok .nx (smS cap Sl W O (.shr (plansD F)) (.shr (.str o)) (F ++ F.flatMap (ext cap W o)) x5' x6' x7') := by
    refine ok_sFor (ds := F.map plD) (S1 := smS cap Sl W O (.shr (plansD F)) (.shr (.str o)) F x5 x6 x7) ?_ e
    rcases hx with rfl | rfl <;> exact ok_iSeq (d := plansD F) rfl rfl rfl
  exact ⟨.shr (plansD (stepP cap W F o)), x5', x6', x7', ok_sSeq e1 (ok_sSeq e4 (ok_sAsg (ra := .at 4) rfl rfl))⟩
theorem plans_eq (h : Sh cap Sl W O) (hw : ∀ o, (W o).length ≤ 3) (hO : O.length ≤ 5) :
    ∃ fr, Fn__law_some_plans [placesD cap Sl, rowsD W O] = .ret (plansD (someP cap W (sortS O))) fr [] := by
  have nO : (sortS O).Nodup := (sortS_perm O).nodup_iff.mpr h.no
  have lO := length_sortS O
  obtain ⟨S', e, _, x2, x3, x4, x5, x6, x7, rfl, hx⟩ : ∃ S', forL (tNm 3) sm3B ((sortS O).map .str) [.shr (placesD cap Sl), .shr (rowsD W O), .own none (plansD (someP cap W [])), .un, .un, .un, .un, .un, .un] = .ok .nx S' ∧
      (∃ post, sortS O = sortS O ++ post) ∧ ∃ x2 x3 x4 x5 x6 x7, S' = [.shr (placesD cap Sl), .shr (rowsD W O), x2, x3, x4, x5, x6, x7, .un] ∧ (x2 = .shr (plansD (someP cap W (sortS O))) ∨ x2 = .own none (plansD (someP cap W (sortS O)))) := by
    refine forL_list (I := fun os S => (∃ post, sortS O = os ++ post) ∧ ∃ x2 x3 x4 x5 x6 x7, S = [.shr (placesD cap Sl), .shr (rowsD W O), x2, x3, x4, x5, x6, x7, .un] ∧ (x2 = .shr (plansD (someP cap W os)) ∨ x2 = .own none (plansD (someP cap W os)))) D.str (pre := []) (fun pre o S he hI => ?_) ⟨⟨sortS O, rfl⟩, _, _, _, _, _, _, rfl, .inr rfl⟩
    obtain ⟨post, e⟩ := he
    obtain ⟨_, x2, x3, x4, x5, x6, x7, rfl, hx⟩ := hI
    have ho : o ∈ O := mem_sortS.mp (by rw [e]; simp)
    have hn : o ∉ pre := fun z => by
      rw [e] at nO
      exact (List.nodup_append.mp nO).2.2 o z o (by simp) rfl
    have el := congrArg List.length e
    simp only [List.length_append, List.length_cons] at el
    have gd : ∀ q ∈ someP cap W pre, Pl W O q.1 q.2 ∧ o ∉ q.2 := fun q hq => by
      obtain ⟨h1, h2⟩ := someP_good (cap := cap) (W := W) nO pre (o :: post) e.symm q hq
      exact ⟨⟨h1.1.nd, fun y hy => ⟨mem_sortS.mp (h1.1.mem y hy).1, (h1.1.mem y hy).2⟩⟩, fun z => hn (h2.subset z)⟩
    have len := someP_len (cap := cap) hw pre
    have : 4 ^ pre.length ≤ 4 ^ 5 := Nat.pow_le_pow_right (by decide) (by omega)
    obtain ⟨y4, y5, y6, y7, e2⟩ := sm3_eq h gd ho (hw o) (by omega) x2 x4 x5 x6 x7 hx
    refine ⟨_, _, rfl, e2, ⟨post, by rw [e]; simp⟩, _, _, _, _, _, _, rfl, .inl ?_⟩
    rw [someP_snoc]
  have e0 : sAsg 2 (sMake gLst (sCons sNewK sNil)) [.shr (placesD cap Sl), .shr (rowsD W O), .un, .un, .un, .un, .un, .un, .un] = .ok .nx [.shr (placesD cap Sl), .shr (rowsD W O), .own none (plansD (someP cap W [])), .un, .un, .un, .un, .un, .un] := by
    simp
    rfl
  rcases hx with rfl | rfl
  · exact ⟨false, ok_runF (S := [.shr (placesD cap Sl), .shr (rowsD W O), .shr (plansD (someP cap W (sortS O))), x3, x4, x5, x6, x7, .un]) (ok_sSeq e0 (ok_sSeq (ok_sFor (iSeq_sorted (t := none) (.inl rfl)) e) (ok_sRet (ra := .at 2) rfl rfl))) rfl⟩
  · exact ⟨true, ok_runF (S := [.shr (placesD cap Sl), .shr (rowsD W O), .un, x3, x4, x5, x6, x7, .un]) (ok_sSeq e0 (ok_sSeq (ok_sFor (iSeq_sorted (t := none) (.inl rfl)) e) (ok_sRet (ra := .at 2) rfl rfl))) rfl⟩
end
end Lk75
namespace Lk75
open PySem PySem.Spec PyProof.Rows L2 L2.Dl
section
variable {cap : Str → Nat} {Sl : List Str} {W : Str → List Str} {O : List Str} {Rk : Str → List Str} {p q : Str → Str} {l k : List Str}
theorem blk1_iff {o s : Str} (hs : s ∈ W o) : blk1 W p l o s = true ↔ (W o).idxOf s < Sd.rk W o (mOf p l o) := by
  unfold blk1 mOf
  by_cases h : o ∈ l
  · rw [if_pos h]
    simp only [h, decide_true, Bool.true_and, not_true_eq_false, decide_false, Bool.false_or, Bool.and_eq_true, Bool.not_eq_true', decide_eq_true_eq, Sd.rk]
    constructor
    · exact fun q => q.2
    · intro q
      refine ⟨?_, q⟩
      rw [beq_eq_false_iff_ne]
      intro z
      rw [z] at q
      omega
  · rw [if_neg h]
    simp only [h, decide_false, Bool.false_and, Bool.not_false, not_false_eq_true, decide_true, Bool.true_or, Bool.and_self, Sd.rk, true_iff]
    exact List.idxOf_lt_length_of_mem hs
theorem blk2_iff (hp : Pl W O p l) (nO : O.Nodup) {o s : Str} :
    blk2 cap W Rk p l o s = true ↔ (Sd.cnt (mOf p l) O s < cap s ∨ ∃ y ∈ O, mOf p l y = some s ∧ (Rk s).idxOf o < (Rk s).idxOf y) := by
  unfold blk2
  rw [cnt_mOf hp (List.Perm.refl O) nO, Bool.or_eq_true, decide_eq_true_iff]
  refine or_congr Iff.rfl ?_
  have e : (!(wor W Rk p l o s).isEmpty) = true ↔ ∃ y, y ∈ wor W Rk p l o s := by
    cases wor W Rk p l o s with
    | nil => simp
    | cons a r => simp
  rw [e]
  unfold wor
  constructor
  · rintro ⟨y, hy⟩
    obtain ⟨h1, h2⟩ := List.mem_filter.mp hy
    obtain ⟨h3, h4⟩ := List.mem_filter.mp (mem_sortS.mp h1)
    have h4 : p y = s := by simpa using h4
    exact ⟨y, (hp.mem y h3).1, mOf_some.mpr ⟨h3, h4⟩, of_decide_eq_true h2⟩
  · rintro ⟨y, hyf, h1, h2⟩
    obtain ⟨h3, h4⟩ := mOf_some.mp h1
    exact ⟨y, List.mem_filter.mpr ⟨mem_sortS.mpr (List.mem_filter.mpr ⟨h3, by simpa using h4⟩), decide_eq_true h2⟩⟩
theorem blkAll_nil (hp : Pl W O p l) (nO : O.Nodup) : blkAll cap W Rk p l (sortS O) = [] ↔ ∀ o ∈ O, ∀ s ∈ W o, ¬ Gs.Blk cap W O Rk (mOf p l) o s := by
  have key : ∀ o ∈ O, ∀ s ∈ W o, ((blk1 W p l o s && blk2 cap W Rk p l o s) = true ↔ Gs.Blk cap W O Rk (mOf p l) o s) := fun o ho s hs => by
    rw [Bool.and_eq_true, blk1_iff hs, blk2_iff hp nO]
    exact Iff.rfl
  unfold blkAll
  rw [List.flatMap_eq_nil_iff]
  constructor
  · intro h o ho s hs hb
    have q := h o (mem_sortS.mpr ho)
    unfold blkRow at q
    rw [List.map_eq_nil_iff, List.filter_eq_nil_iff] at q
    exact q s (mem_sortS.mpr hs) ((key o ho s hs).mpr hb)
  · intro h o ho
    have ho' := mem_sortS.mp ho
    unfold blkRow
    rw [List.map_eq_nil_iff, List.filter_eq_nil_iff]
    intro s hs hb
    have hs' := mem_sortS.mp hs
    exact h o ho' s hs' ((key o ho' s hs').mp hb)
/-- no pair blocks -/
def stb (cap : Str → Nat) (W Rk : Str → List Str) (O : List Str) (q : PP) : Bool := (blkAll cap W Rk q.1 q.2 (sortS O)).isEmpty
theorem Good.plan {q : PP} (h : Good cap W O q) (nO : O.Nodup) : Gs.Plan cap W O (mOf q.1 q.2) where
  wish o ho s e := by
    obtain ⟨z1, rfl⟩ := mOf_some.mp e
    exact (h.1.mem o z1).2
  lim s := by
    rw [cnt_mOf h.1 (List.Perm.refl O) nO]
    exact h.2 s
  off o ho := if_neg fun z => ho (h.1.mem o z).1
theorem stb_iff {q : PP} (h : Good cap W O q) (nO : O.Nodup) : stb cap W Rk O q = true ↔ Gs.Stable cap W O Rk (mOf q.1 q.2) := by
  unfold stb
  rw [List.isEmpty_iff, blkAll_nil h.1 nO]
  exact ⟨fun z => ⟨h.plan nO, z⟩, fun z => z.nb⟩
theorem good_all (nO : O.Nodup) : ∀ q ∈ someP cap W (sortS O), Good cap W O q := fun q hq => by
  obtain ⟨h1, _⟩ := someP_good (cap := cap) (W := W) ((sortS_perm O).nodup_iff.mpr nO) (sortS O) [] (List.append_nil _) q hq
  exact ⟨⟨h1.1.nd, fun y hy => ⟨mem_sortS.mp (h1.1.mem y hy).1, (h1.1.mem y hy).2⟩⟩, h1.2⟩
theorem same_fun {m : Str → Option Str} (hm : ∀ o, o ∉ O → m o = none) (h : Pl W O p l) (e : ∀ o ∈ sortS O, mOf p l o = m o) : mOf p l = m := funext fun o => by
  by_cases z : o ∈ O
  · exact e o (mem_sortS.mpr z)
  · rw [hm o z]
    exact if_neg fun w => z (h.mem o w).1
theorem once {m : Str → Option Str} (nO : O.Nodup) (nW : ∀ o, (W o).Nodup) (hs : Gs.Stable cap W O Rk m) : ((someP cap W (sortS O)).filter (stb cap W Rk O)).countP (same m (sortS O)) = 1 := by
  have c := someP_once (cap := cap) (W := W) (m := m) ((sortS_perm O).nodup_iff.mpr nO) nW (fun o ho s e => hs.wish o (mem_sortS.mp ho) s e) (fun s => by
    have : Sd.cnt m (sortS O) s = Sd.cnt m O s := ((sortS_perm O).filter _).length_eq
    rw [this]
    exact hs.lim s) (sortS O) [] (List.append_nil _)
  rw [List.countP_filter]
  rw [← c]
  refine List.countP_congr fun q hq => ?_
  have gq := good_all nO q hq
  rw [Bool.and_eq_true]
  constructor
  · exact fun z => z.1
  · intro z
    refine ⟨z, (stb_iff gq nO).mpr ?_⟩
    rw [same_fun hs.off gq.1 (of_decide_eq_true z)]
    exact hs
theorem deq_same {k : PP} {q : PP} (hq : Pl W O q.1 q.2) (hk : Pl W O k.1 k.2) (h : Sh cap Sl W O) : deq (plD q) (plD k) = some (same (mOf k.1 k.2) (sortS O) q) := by
  obtain ⟨b, h1, h2⟩ := deq_nd (p := fun o => D.str (q.1 o)) (q := fun o => D.str (k.1 o)) (e := fun o => q.1 o == k.1 o) hq.nd hk.nd fun o ho hk' => eq0_str (hq.lay h o ho) (hk.lay h o hk')
  have h1 : deq (plD q) (plD k) = some b := h1
  rw [h1]
  congr 1
  rw [Bool.eq_iff_iff, h2]
  simp only [same, decide_eq_true_eq]
  constructor
  · rintro ⟨m1, m2⟩ o _
    unfold mOf
    by_cases ho : o ∈ q.2
    · rw [if_pos ho, if_pos ((m1 o).mp ho)]
      have := m2 o ho
      simp at this
      rw [this]
    · rw [if_neg ho, if_neg fun z => ho ((m1 o).mpr z)]
  · intro m
    have mem : ∀ o, o ∈ q.2 ↔ o ∈ k.2 := fun o => by
      by_cases hO : o ∈ O
      · have := m o (mem_sortS.mpr hO)
        unfold mOf at this
        by_cases ho : o ∈ q.2
        · by_cases hk : o ∈ k.2
          · simp [ho, hk]
          · simp [ho, hk] at this
        · by_cases hk : o ∈ k.2
          · simp [ho, hk] at this
          · simp [ho, hk]
      · exact ⟨fun z => absurd (hq.mem o z).1 hO, fun z => absurd (hk.mem o z).1 hO⟩
    refine ⟨mem, fun o ho => ?_⟩
    have := m o (mem_sortS.mpr (hq.mem o ho).1)
    unfold mOf at this
    rw [if_pos ho, if_pos ((mem o).mp ho)] at this
    simpa using this
/-! ### what two plans without blocking pairs have alike -/
theorem mem_some {o : Str} : (mOf p l o).isSome = true ↔ o ∈ l := by
  unfold mOf
  by_cases h : o ∈ l <;> simp [h]
theorem keys_same (hp : Pl W O p l) (hq : Pl W O q k) (h : Sh cap Sl W O) (e : ∀ o ∈ O, (mOf p l o).isSome = (mOf q k o).isSome) : sortS l = sortS k := by
  apply sortS_eq
  apply (List.perm_ext_iff_of_nodup hp.nd hq.nd).mpr
  intro o
  constructor
  · intro z
    have ho := (hp.mem o z).1
    exact mem_some.mp ((e o ho) ▸ mem_some.mpr z)
  · intro z
    have ho := (hq.mem o z).1
    exact mem_some.mp ((e o ho).symm ▸ mem_some.mpr z)
theorem row_same (hp : Pl W O p l) (hq : Pl W O q k) {s : Str} (e : ∀ o ∈ O, (mOf p l o = some s ↔ mOf q k o = some s)) : sortS (l.filter fun o => p o == s) = sortS (k.filter fun o => q o == s) := by
  apply sortS_eq
  apply (List.perm_ext_iff_of_nodup (hp.nd.filter _) (hq.nd.filter _)).mpr
  intro o
  simp only [List.mem_filter, beq_iff_eq]
  constructor
  · rintro ⟨z1, z2⟩
    exact mOf_some.mp ((e o (hp.mem o z1).1).mp (mOf_some.mpr ⟨z1, z2⟩))
  · rintro ⟨z1, z2⟩
    exact mOf_some.mp ((e o (hq.mem o z1).1).mpr (mOf_some.mpr ⟨z1, z2⟩))
theorem rk_mem {o : Str} (h : o ∈ l) : Sd.rk W o (mOf p l o) = (W o).idxOf (p o) := by
  unfold mOf
  rw [if_pos h]
  rfl
end
end Lk75
namespace Lk75
open PySem PySem.Spec PyProof.Rows L2 L2.Dl
section
variable {cap : Str → Nat} {Sl : List Str} {W : Str → List Str} {O : List Str} {Rk : Str → List Str} {p q : Str → Str} {l k : List Str}
theorem places_of_eq (h : Sh cap Sl W O) (hp : Pl W O p l) : Fn__law_places_of [rowsD W O, planD p l] = .ret (.lst ((sortS l).map fun o => .int ((W o).idxOf (p o) : Nat))) true [] := by
  have ll := hp.len h.lo
  have sl := length_sortS l
  obtain ⟨S', e, rfl⟩ := lc_map (vs := [2]) (fi := iSeq (sCall gSorted (sCons (sNm 1) sNil))) (g := tNm 2) (ft := sYes) (fe := sIdx (sOp subscD (sNm 0) (sNm 2)) (sOp subscD (sNm 1) (sNm 2))) (S := [.shr (rowsD W O), .shr (planD p l), .un]) (S1 := [.shr (rowsD W O), .shr (planD p l), .un]) (xs := sortS l)
    D.str (fun _ => true) (fun o => .int ((W o).idxOf (p o) : Nat)) (fun S => S = [.shr (rowsD W O), .shr (planD p l), .un]) (iSeq_sorted (t := none) (.inl rfl)) (by omega) (fun o ho S hS => by
      subst hS
      have hol := mem_sortS.mp ho
      have f1 : subscD (rowsD W O) (.str o) = some (.v (.lst ((W o).map .str))) := subscD_nd (hp.mem o hol).1
      have f2 : subscD (planD p l) (.str o) = some (.v (.str (p o))) := subscD_nd hol
      have f3 := gIndex_strs (hp.mem o hol).2
      refine ⟨[.shr (rowsD W O), .shr (planD p l), .shr (.str o)], _, rfl, rfl, fun _ => ⟨.v (.int ((W o).idxOf (p o) : Nat)), [.shr (rowsD W O), .shr (planD p l), .shr (.str o)], _, ?_, rfl, rfl⟩, fun z => by cases z⟩
      simp [f1, f2, f3]) rfl
  rw [List.filter_eq_self.mpr fun _ _ => rfl] at e
  exact ok_runF (S := [.shr (rowsD W O), .shr (planD p l), .un]) (ok_sRet e rfl) rfl
/-! ### refusals -/
def noB : Str := "nobody"
theorem lay_nobody : Lay noB := by unfold Lay; decide +kernel
abbrev crS (cap : Str → Nat) (Sl : List Str) (W : Str → List Str) (O : List Str) (Rk : Str → List Str) (a b : AV) : SS := [.shr (placesD cap Sl), .shr (rowsD W O), .shr (rowsD Rk Sl), a, b, .un]
theorem check_ranks_bad (h : ShR cap Sl W O Rk) {s0 : Str} (h0 : s0 ∈ Sl) : Fn_check_ranks [placesD cap Sl, rowsD W O, rowsD (updR Rk s0 (Rk s0 ++ [noB])) Sl] = .ex 2 (.str "ranks") [] := by
  have hl := h.ls
  have ho := h.lo
  obtain ⟨pre, post, e0⟩ := List.append_of_mem h0
  have hF : ∀ s, ∀ x ∈ O.filter (fun o => decide (s ∈ W o)), Lay x := fun s x hx => h.yo x (List.mem_filter.mp hx).1
  have up : ∀ (s : Str) (b : AV), sAsg 4 (sCall gSorted (sCons (sLc [5] (iSeq (sNm 1)) (tNm 5) (sCmpT memD (sNm 3) (sOp subscD (sNm 1) (sNm 5))) (sNm 5)) sNil)) (crS cap Sl W O (updR Rk s0 (Rk s0 ++ [noB])) (.shr (.str s)) b) =
      .ok .nx (crS cap Sl W O (updR Rk s0 (Rk s0 ++ [noB])) (.shr (.str s)) (.own none (.lst ((sortS (O.filter fun o => decide (s ∈ W o))).map .str)))) := fun s b => by
    refine ok_sAsg (ok_sCall (ok_sCons (lc_names (l := O) (w := .un) (fun o => decide (s ∈ W o)) (iSeq_nd (f := fun o => .lst ((W o).map .str)) rfl) ?_ rfl fun o hoO => ?_) rfl) rfl (gSorted_strs _)) rfl
    · omega
    · exact ok_sCmpT rfl (ok_sOp (r := .v (.lst ((W o).map .str))) rfl rfl rfl rfl (subscD_nd hoO)) rfl rfl (memD_strs _ _)
  have tst : ∀ s ∈ Sl, ∀ R b, updR Rk s0 (Rk s0 ++ [noB]) s = R → (∀ x ∈ R, Lay x) → decide (sortS R = sortS (O.filter fun o => decide (s ∈ W o))) = b → sCmpT dne (sCall gSorted (sCons (sGet2 (sNm 2) (sNm 3) (sMake gLst sNil)) sNil)) (sNm 4) (crS cap Sl W O (updR Rk s0 (Rk s0 ++ [noB])) (.shr (.str s)) (.own none (.lst ((sortS (O.filter fun o => decide (s ∈ W o))).map .str)))) =
      .ok (!b) (crS cap Sl W O (updR Rk s0 (Rk s0 ++ [noB])) (.shr (.str s)) (.own none (.lst ((sortS (O.filter fun o => decide (s ∈ W o))).map .str)))) := fun s hs R b e1 e2 e3 => by
    refine ok_sCmpT (ok_sCall (ok_sCons (ok_sGet2 (l0 := nd (fun s => .lst ((updR Rk s0 (Rk s0 ++ [noB]) s).map .str)) Sl) (l := nd (fun s => .lst ((updR Rk s0 (Rk s0 ++ [noB]) s).map .str)) Sl) (d := .lst []) (kk := .inr s) rfl rfl rfl (ok_sMake rfl rfl rfl) rfl rfl rfl rfl) rfl) (ds := [.lst (R.map .str)]) ?_ (gSorted_strs _)) rfl rfl rfl ?_
    · simp only [valD_nd hs, e1]; rfl
    · rw [dne_strs, e3]
      · intro x hx; exact e2 x (mem_sortS.mp hx)
      · intro x hx; exact hF s x (mem_sortS.mp hx)
  obtain ⟨S', e, a, b, rfl⟩ : ∃ S', forL (tNm 3) (sSeq (sAsg 4 (sCall gSorted (sCons (sLc [5] (iSeq (sNm 1)) (tNm 5) (sCmpT memD (sNm 3) (sOp subscD (sNm 1) (sNm 5))) (sNm 5)) sNil)))
      (sIfS (sCmpT dne (sCall gSorted (sCons (sGet2 (sNm 2) (sNm 3) (sMake gLst sNil)) sNil)) (sNm 4)) (sRaise 2 "invalid order: " (sV (.str "ranks"))) sNext)) (Sl.map .str) (crS cap Sl W O (updR Rk s0 (Rk s0 ++ [noB])) .un .un) = .ex 2 (.str "ranks") S' ∧ ∃ a b, S' = crS cap Sl W O (updR Rk s0 (Rk s0 ++ [noB])) a b := by
    refine forL_list_ex (I := fun _ S => ∃ a b, S = crS cap Sl W O (updR Rk s0 (Rk s0 ++ [noB])) a b) D.str e0 ?_ ?_ ⟨_, _, rfl⟩
    · rintro pr s S ⟨r, e⟩ ⟨a, b, rfl⟩
      have hs : s ∈ Sl := by rw [e0, e]; simp
      have hne : s ≠ s0 := fun z => by
        have nd := h.ns
        rw [e0, e, z] at nd
        have := (List.nodup_append.mp nd).2.2 s0 (by simp) s0 (by simp)
        exact this rfl
      have hp := h.rk s hs
      refine ⟨_, _, rfl, ok_sSeq (up s b) (ok_sIfF (tst s hs (Rk s) true (by simp [updR, hne]) (fun x hx => hF s x (hp.mem_iff.mp hx)) ?_) rfl), _, _, rfl⟩
      rw [sortS_eq hp]
      simp
    · rintro S ⟨a, b, rfl⟩
      have hp := h.rk s0 h0
      refine ⟨_, _, rfl, ok_sSeq (up s0 b) (ok_sIfT (tst s0 h0 (Rk s0 ++ [noB]) false (by simp [updR]) ?_ ?_) rfl), _, _, rfl⟩
      · intro x hx
        rcases List.mem_append.mp hx with z | z
        · exact hF s0 x (hp.mem_iff.mp z)
        · rw [List.mem_singleton.mp z]; exact lay_nobody
      · apply decide_eq_false
        intro z
        have := congrArg List.length z
        rw [length_sortS, length_sortS, List.length_append, hp.length_eq] at this
        simp at this
  refine ex_runF (S := crS cap Sl W O (updR Rk s0 (Rk s0 ++ [noB])) a b) ?_ rfl
  exact ok_sSeq (ok_sExpr (ok_callM (io := []) (bo := []) (ok_sCons rfl (ok_sCons rfl rfl)) rfl (by simp) (check_wishes_eq h.toSh))) (ex_sSeq (ok_sFor (iSeq_nd (f := fun s => .int (cap s)) (l := Sl) rfl) e))
theorem is_plan_bad {f : Str → Str} (ho : O.length ≤ 400) (hn : noB ∉ O) : Fn_is_plan [placesD cap Sl, rowsD W O, planD f [noB]] = .ret (.bl false) false [] := by
  refine ok_runF (S := [.shr (placesD cap Sl), .shr (rowsD W O), .shr (planD f [noB]), .un, .un]) (ok_sSeqR (ok_sIfT (ok_sOrF (ok_sNot (b := true) (ok_sTru (fa := sIsi ["dict"] (sNm 2)) (ra := .v (.bl true)) (da := .bl true) (by rfl) rfl rfl)) (ok_sTru (lc_names (l := [noB]) (w := .un) (fun _ => true) (iSeq_nd (f := fun o => .str (f o)) rfl) ?_ rfl fun o ho => ?_) rfl ?_)) rfl)) rfl
  · simp
  · rw [List.mem_singleton.mp ho]
    refine ok_sCmpT rfl rfl rfl rfl ?_
    show nmemD (.str noB) (.dct (nd _ O)) = _
    rw [nmemD_nd]
    simp [hn]
  · rfl
theorem blocking_bad (h : ShR cap Sl W O Rk) {f : Str → Str} (hn : noB ∉ O) : Fn_blocking_pairs [placesD cap Sl, rowsD W O, rowsD Rk Sl, planD f [noB]] = .ex 3 (.str "plan") [] := by
  refine ex_runF (S := [.shr (placesD cap Sl), .shr (rowsD W O), .shr (rowsD Rk Sl), .shr (planD f [noB]), .un, .un, .un, .un, .un, .un]) (ok_sSeq (S1 := [.shr (placesD cap Sl), .shr (rowsD W O), .shr (rowsD Rk Sl), .shr (planD f [noB]), .un, .un, .un, .un, .un, .un]) (ok_sExpr (ok_callM (io := []) (bo := []) (ok_sCons rfl (ok_sCons rfl (ok_sCons rfl rfl))) rfl (by simp) (check_ranks_eq h)))
    (ex_sSeq (ok_sIfT (ok_sNot (b := false) (ok_sTru (da := .bl false) (ok_callM (io := []) (bo := []) (ok_sCons rfl (ok_sCons rfl (ok_sCons rfl rfl))) rfl (by simp) (is_plan_bad h.lo hn)) rfl rfl)) rfl))) rfl
theorem stable_bad (h : ShR cap Sl W O Rk) {s0 : Str} (h0 : s0 ∈ Sl) : Fn_stable_plan [placesD cap Sl, rowsD W O, rowsD (updR Rk s0 (Rk s0 ++ [noB])) Sl] = .ex 2 (.str "ranks") [] :=
  ex_runF (S := [.shr (placesD cap Sl), .shr (rowsD W O), .shr (rowsD (updR Rk s0 (Rk s0 ++ [noB])) Sl), .un, .un, .un, .un, .un, .un]) (ex_sSeq (ex_sExpr (ex_callM (io := []) (bo := []) (ok_sCons rfl (ok_sCons rfl (ok_sCons rfl rfl))) rfl (by simp) (check_ranks_bad h h0)))) rfl
theorem slots_bad (h : ShR cap Sl W O Rk) {s0 : Str} (h0 : s0 ∈ Sl) : Fn_stable_for_slots [placesD cap Sl, rowsD W O, rowsD (updR Rk s0 (Rk s0 ++ [noB])) Sl] = .ex 2 (.str "ranks") [] :=
  ex_runF (S := [.shr (placesD cap Sl), .shr (rowsD W O), .shr (rowsD (updR Rk s0 (Rk s0 ++ [noB])) Sl), .un, .un, .un, .un, .un]) (ex_sSeq (ex_sExpr (ex_callM (io := []) (bo := []) (ok_sCons rfl (ok_sCons rfl (ok_sCons rfl rfl))) rfl (by simp) (check_ranks_bad h h0)))) rfl
theorem blocking_bad2 (h : ShR cap Sl W O Rk) {s0 : Str} (h0 : s0 ∈ Sl) (d : D) : Fn_blocking_pairs [placesD cap Sl, rowsD W O, rowsD (updR Rk s0 (Rk s0 ++ [noB])) Sl, d] = .ex 2 (.str "ranks") [] :=
  ex_runF (S := [.shr (placesD cap Sl), .shr (rowsD W O), .shr (rowsD (updR Rk s0 (Rk s0 ++ [noB])) Sl), .shr d, .un, .un, .un, .un, .un, .un]) (ex_sSeq (ex_sExpr (ex_callM (io := []) (bo := []) (ok_sCons rfl (ok_sCons rfl (ok_sCons rfl rfl))) rfl (by simp) (check_ranks_bad h h0)))) rfl
theorem refusal_ranks (h : ShR cap Sl W O Rk) {s0 : Str} (h0 : s0 ∈ Sl) (d : D) {a : Int} (ha : 0 ≤ a ∧ a < 3) : Fn__law_refusal [.int a, placesD cap Sl, rowsD W O, rowsD (updR Rk s0 (Rk s0 ++ [noB])) Sl, d] = .ret (.tup [.str "order", .str "ranks"]) false [] := by
  have e1 := stable_bad h h0
  have e2 := slots_bad h h0
  have e3 := blocking_bad2 h h0 d
  refine ok_runF (S := [.shr (.int a), .shr (placesD cap Sl), .shr (rowsD W O), .shr (rowsD (updR Rk s0 (Rk s0 ++ [noB])) Sl), .shr d, .un]) (ok_sSeqR ?_) rfl
  have c : a = 0 ∨ a = 1 ∨ a = 2 := by omega
  have ex : ∀ fb : M Fl, fb [.shr (.int a), .shr (placesD cap Sl), .shr (rowsD W O), .shr (rowsD (updR Rk s0 (Rk s0 ++ [noB])) Sl), .shr d, .un] = .ex 2 (.str "ranks") [.shr (.int a), .shr (placesD cap Sl), .shr (rowsD W O), .shr (rowsD (updR Rk s0 (Rk s0 ++ [noB])) Sl), .shr d, .un] →
      sTry 4 5 fb [(2, .pair "order"), (3, .pair "plan")] [.shr (.int a), .shr (placesD cap Sl), .shr (rowsD W O), .shr (rowsD (updR Rk s0 (Rk s0 ++ [noB])) Sl), .shr d, .un] = .ok (.rt (.tup [.str "order", .str "ranks"]) false) [.shr (.int a), .shr (placesD cap Sl), .shr (rowsD W O), .shr (rowsD (updR Rk s0 (Rk s0 ++ [noB])) Sl), .shr d, .un] := fun fb e => by
    unfold sTry
    rw [e]
    rfl
  refine ex _ ?_
  rcases c with rfl | rfl | rfl
  · simp [e1]
  · simp [e2]
  · simp [e3]
theorem refusal_plan (h : ShR cap Sl W O Rk) {f : Str → Str} (hn : noB ∉ O) : Fn__law_refusal [.int 2, placesD cap Sl, rowsD W O, rowsD Rk Sl, planD f [noB]] = .ret (.tup [.str "plan", .str "plan"]) false [] := by
  have e3 := blocking_bad h (f := f) hn
  refine ok_runF (S := [.shr (.int 2), .shr (placesD cap Sl), .shr (rowsD W O), .shr (rowsD Rk Sl), .shr (planD f [noB]), .un]) (ok_sSeqR ?_) rfl
  have ex : ∀ fb : M Fl, fb [.shr (.int 2), .shr (placesD cap Sl), .shr (rowsD W O), .shr (rowsD Rk Sl), .shr (planD f [noB]), .un] = .ex 3 (.str "plan") [.shr (.int 2), .shr (placesD cap Sl), .shr (rowsD W O), .shr (rowsD Rk Sl), .shr (planD f [noB]), .un] →
      sTry 4 5 fb [(2, .pair "order"), (3, .pair "plan")] [.shr (.int 2), .shr (placesD cap Sl), .shr (rowsD W O), .shr (rowsD Rk Sl), .shr (planD f [noB]), .un] = .ok (.rt (.tup [.str "plan", .str "plan"]) false) [.shr (.int 2), .shr (placesD cap Sl), .shr (rowsD W O), .shr (rowsD Rk Sl), .shr (planD f [noB]), .un] := fun fb e => by
    unfold sTry
    rw [e]
    rfl
  refine ex _ ?_
  simp [e3]
end
end Lk75
namespace Lk75
open PySem PySem.Spec PyProof.Rows L2 L2.Dl
/-- own or shared -/
def fzA (fz : Bool) (d : D) : AV := if fz then .shr d else .own none d
/-- the law's own slots -/
abbrev LS (ns ds : List Int) (cap : Str → Nat) (Sl : List Str) (W : Str → List Str) (O : List Str) (Rk : Str → List Str) (f2 f3 f4 : Bool) (x5 x6 x7 x8 x9 x10 x11 x12 x13 x14 x15 : AV) : SS :=
  [.shr (.scr ns), .own none (deckI ds), fzA f2 (placesD cap Sl), fzA f3 (rowsD W O), fzA f4 (rowsD Rk Sl), x5, x6, x7, x8, x9, x10, x11, x12, x13, x14, x15, .un, .un, .un, .un]
section
variable {cap : Str → Nat} {Sl : List Str} {W : Str → List Str} {O : List Str} {Rk : Str → List Str} {p q : Str → Str} {l k : List Str} {ns ds : List Int}
noncomputable abbrev lbC (i : Nat) : M R := callM [false, false, false, false] Fn__law_blocking (sCons (sNm 2) (sCons (sNm 3) (sCons (sNm 4) (sCons (sNm i) sNil))))
theorem sub_map {α : Type} {f : α → D} {l : List α} {i : Int} (h0 : 0 ≤ i) (h1 : i < l.length) : ∃ x ∈ l, subscD (.lst (l.map f)) (.int i) = some (.v (f x)) := by
  have hi : i.toNat < l.length := by omega
  refine ⟨l[i.toNat], List.getElem_mem hi, ?_⟩
  show (atI (l.map f) i).map R.v = _
  unfold atI ixN
  rw [if_pos h0, if_pos (by simpa using h1)]
  simp [hi]
/-- blocking pairs by the law: the plan in slot 8 -/
theorem lbC_eq (h : ShR cap Sl W O Rk) {q : PP} (hq : Good cap W O q) (f2 f3 f4 : Bool) (x5 x6 x7 x9 x10 x11 x12 x13 x14 x15 : AV) :
    ∃ g2 g3 g4, lbC 8 (LS ns ds cap Sl W O Rk f2 f3 f4 x5 x6 x7 (.shr (plD q)) x9 x10 x11 x12 x13 x14 x15) =
      .ok (.f (.lst ((blkAll cap W Rk q.1 q.2 (sortS O)).map tup2))) (LS ns ds cap Sl W O Rk g2 g3 g4 x5 x6 x7 (.shr (plD q)) x9 x10 x11 x12 x13 x14 x15) := by
  have e : Fn__law_blocking [placesD cap Sl, rowsD W O, rowsD Rk Sl, plD q] = .ret (.lst ((blkAll cap W Rk q.1 q.2 (sortS O)).map tup2)) true [] := law_blocking_eq h hq.1
  cases hf : flatR true (.lst ((blkAll cap W Rk q.1 q.2 (sortS O)).map tup2)) with
  | true =>
    refine ⟨f2, f3, f4, ?_⟩
    cases f2 <;> cases f3 <;> cases f4 <;> simp [lbC, LS, fzA, e, callK_keep, hf]
  | false =>
    refine ⟨true, true, true, ?_⟩
    cases f2 <;> cases f3 <;> cases f4 <;> simp [lbC, LS, fzA, e, callK_frz, hf]
noncomputable abbrev q6 : M Fl := (sAsg 6 (sLc [8] (iSeq (sNm 5)) (tNm 8) (sCmpT deq (sCall gLen (sCons (lbC 8) sNil)) (sV (.int 0))) (sNm 8)))
theorem q6_eq (h : ShR cap Sl W O Rk) {F : List PP} (hF : ∀ q ∈ F, Good cap W O q) (hl : F.length ≤ 1000000) (f2 f3 f4 f5 : Bool) (x6 x7 x8 x9 x10 x11 x12 x13 x14 x15 : AV) :
    ∃ g2 g3 g4, q6 (LS ns ds cap Sl W O Rk f2 f3 f4 (fzA f5 (plansD F)) x6 x7 x8 x9 x10 x11 x12 x13 x14 x15) =
      .ok .nx (LS ns ds cap Sl W O Rk g2 g3 g4 (.shr (plansD F)) (.own none (plansD (F.filter (stb cap W Rk O)))) x7 x8 x9 x10 x11 x12 x13 x14 x15) := by
  obtain ⟨S', e, g2, g3, g4, rfl⟩ := lc_map (vs := [8]) (fi := iSeq (sNm 5)) (g := tNm 8) (ft := sCmpT deq (sCall gLen (sCons (lbC 8) sNil)) (sV (.int 0))) (fe := sNm 8)
    (S := LS ns ds cap Sl W O Rk f2 f3 f4 (fzA f5 (plansD F)) x6 x7 x8 x9 x10 x11 x12 x13 x14 x15) (S1 := LS ns ds cap Sl W O Rk f2 f3 f4 (.shr (plansD F)) x6 x7 x8 x9 x10 x11 x12 x13 x14 x15) (xs := F)
    plD (stb cap W Rk O) plD (fun S => ∃ g2 g3 g4, S = LS ns ds cap Sl W O Rk g2 g3 g4 (.shr (plansD F)) x6 x7 .un x9 x10 x11 x12 x13 x14 x15)
    (by cases f5 <;> rfl) hl (fun q hq S hS => by
      obtain ⟨g2, g3, g4, rfl⟩ := hS
      obtain ⟨k2, k3, k4, e⟩ := lbC_eq (ns := ns) (ds := ds) h (hF q hq) g2 g3 g4 (.shr (plansD F)) x6 x7 x9 x10 x11 x12 x13 x14 x15
      refine ⟨LS ns ds cap Sl W O Rk g2 g3 g4 (.shr (plansD F)) x6 x7 (.shr (plD q)) x9 x10 x11 x12 x13 x14 x15, LS ns ds cap Sl W O Rk k2 k3 k4 (.shr (plansD F)) x6 x7 (.shr (plD q)) x9 x10 x11 x12 x13 x14 x15, rfl, ?_, fun _ => ⟨.at 8, _, LS ns ds cap Sl W O Rk k2 k3 k4 (.shr (plansD F)) x6 x7 (.shr (plD q)) x9 x10 x11 x12 x13 x14 x15, rfl, rfl, k2, k3, k4, rfl⟩, fun _ => ⟨k2, k3, k4, rfl⟩⟩
      simp only [ev_sCmpT, ev_sCall, ev_sCons, ev_sNil, e, ev_bind_ok, ev_lookL_cons, ev_lookL_nil, ev_look_f, Option.bind_eq_bind, Option.bind_some, gLen_lst, ev_lift_some, ev_sV, ev_look_v, deq_int', ev_liftT_some, stb]
      cases blkAll cap W Rk q.1 q.2 (sortS O) with
      | nil => rfl
      | cons a r => simp; omega) ⟨f2, f3, f4, rfl⟩
  refine ⟨g2, g3, g4, ?_⟩
  rw [show q6 = sAsg 6 (sLc [8] (iSeq (sNm 5)) (tNm 8) (sCmpT deq (sCall gLen (sCons (lbC 8) sNil)) (sV (.int 0))) (sNm 8)) from rfl]
  exact ok_sAsg e rfl
end
end Lk75
namespace Lk75
open PySem PySem.Spec PyProof.Rows L2 L2.Dl
section
variable {cap : Str → Nat} {Sl : List Str} {W : Str → List Str} {O : List Str} {Rk : Str → List Str} {p q : Str → Str} {l k : List Str} {ns ds : List Int}
theorem blkAll_len (h : Sh cap Sl W O) : (blkAll cap W Rk p l (sortS O)).length ≤ 400 * 400 := by
  have : ∀ os : List Str, (∀ o ∈ os, o ∈ O) → (blkAll cap W Rk p l os).length ≤ 400 * os.length := by
    intro os
    induction os with
    | nil => intro _; simp [blkAll]
    | cons o os ih =>
      intro hh
      have ih := ih fun x hx => hh x (List.mem_cons_of_mem _ hx)
      have bl := blkRow_len (cap := cap) (W := W) (Rk := Rk) (p := p) (l := l) o (sortS (W o))
      have wl := h.wlen (hh o List.mem_cons_self)
      rw [length_sortS] at bl
      unfold blkAll at ih ⊢
      rw [List.flatMap_cons, List.length_append, List.length_cons]
      omega
  have := this (sortS O) fun o ho => mem_sortS.mp ho
  have := length_sortS O
  have := h.lo
  omega
theorem blk_ok (h : Sh cap Sl W O) : OkD 160000 2 (.lst ((blkAll cap W Rk p l (sortS O)).map tup2)) := by
  refine .lst (by rw [List.length_map]; exact blkAll_len h) fun d hd => ?_
  obtain ⟨⟨o, s⟩, hq, rfl⟩ := List.mem_map.mp hd
  obtain ⟨o', ho', hq⟩ := List.mem_flatMap.mp hq
  obtain ⟨s', hs', e⟩ := List.mem_map.mp hq
  cases e
  have ho := mem_sortS.mp ho'
  have hs := mem_sortS.mp (List.mem_filter.mp hs').1
  refine .tup (by simp) fun d hd => ?_
  simp only [List.mem_cons, List.not_mem_nil, or_false] at hd
  rcases hd with rfl | rfl
  · exact .str (h.yo _ ho)
  · exact .str (h.ys _ (h.ws _ ho _ hs))
theorem plainF_eq : ∀ n, Fn__law_plain n = plainF n
  | 0 => rfl
  | n + 1 => by
    unfold Fn__law_plain plainF
    rw [plainF_eq n]
    rfl
noncomputable abbrev q7B : M Fl := (sSeq (sAsg 8 (sOp subscD (sNm 5) (callM [true, false] Fn__law_take (sCons (sNm 1) (sCons (sCall gLen (sCons (sNm 5) sNil)) sNil)))))
    (sSeq (sAsg 9 (callM [false, false, false, false] Fn_blocking_pairs (sCons (sNm 2) (sCons (sNm 3) (sCons (sNm 4) (sCons (sCall gDict (sCons (sNm 8) sNil)) sNil))))))
    (sIfS (sCmpT dne (callM [false] (Fn__law_plain 8) (sCons (sNm 9) sNil)) (callM [false] (Fn__law_plain 8) (sCons (lbC 8) sNil))) (sRet (sV (.bl false))) sNext)))
theorem q7B_eq (h : ShR cap Sl W O Rk) {F : List PP} (hF : ∀ q ∈ F, Good cap W O q) (hl : 0 < F.length) (f2 f3 f4 : Bool) (x6 x7 x8 x9 x10 x11 x12 x13 x14 x15 : AV) :
    ∃ ds' g2 g3 g4 y8 y9, q7B (LS ns ds cap Sl W O Rk f2 f3 f4 (.shr (plansD F)) x6 x7 x8 x9 x10 x11 x12 x13 x14 x15) =
      .ok .nx (LS ns ds' cap Sl W O Rk g2 g3 g4 (.shr (plansD F)) x6 x7 y8 y9 x10 x11 x12 x13 x14 x15) := by
  have hn : (0 : Int) < (F.length : Nat) := by omega
  obtain ⟨q, hq, es⟩ := sub_map (f := plD) (takeI_nonneg (ds := ds) hn) (takeI_lt (ds := ds) hn)
  have tk : Fn__law_take [deckI ds, .int (F.length : Nat)] = .ret (.int (takeI ds (F.length : Nat))) false [deckI ds.dropLast] := take_F hn
  have gq := hF q hq
  have gd : gDict [plD q] = some (.f (plD q)) := rfl
  have ll : gLen [plansD F] = some (.v (.int (F.length : Nat))) := by show some (R.v (.int ((F.map plD).length : Nat))) = _; rw [List.length_map]
  have s1 : sAsg 8 (sOp subscD (sNm 5) (callM [true, false] Fn__law_take (sCons (sNm 1) (sCons (sCall gLen (sCons (sNm 5) sNil)) sNil)))) (LS ns ds cap Sl W O Rk f2 f3 f4 (.shr (plansD F)) x6 x7 x8 x9 x10 x11 x12 x13 x14 x15) =
      .ok .nx (LS ns ds.dropLast cap Sl W O Rk f2 f3 f4 (.shr (plansD F)) x6 x7 (.shr (plD q)) x9 x10 x11 x12 x13 x14 x15) := by
    have es : subscD (plansD F) (.int (takeI ds (F.length : Nat))) = some (.v (plD q)) := es
    simp [LS, ll, tk, es]
  have e2 : Fn_blocking_pairs [placesD cap Sl, rowsD W O, rowsD Rk Sl, plD q] = .ret (.lst ((blkAll cap W Rk q.1 q.2 (sortS O)).map tup2)) true [] := blocking_eq h gq.1 fun s _ => gq.2 s
  have s2 : ∃ g2 g3 g4, sAsg 9 (callM [false, false, false, false] Fn_blocking_pairs (sCons (sNm 2) (sCons (sNm 3) (sCons (sNm 4) (sCons (sCall gDict (sCons (sNm 8) sNil)) sNil))))) (LS ns ds.dropLast cap Sl W O Rk f2 f3 f4 (.shr (plansD F)) x6 x7 (.shr (plD q)) x9 x10 x11 x12 x13 x14 x15) =
      .ok .nx (LS ns ds.dropLast cap Sl W O Rk g2 g3 g4 (.shr (plansD F)) x6 x7 (.shr (plD q)) (.own none (.lst ((blkAll cap W Rk q.1 q.2 (sortS O)).map tup2))) x10 x11 x12 x13 x14 x15) := by
    cases hf : flatR true (.lst ((blkAll cap W Rk q.1 q.2 (sortS O)).map tup2)) with
    | true =>
      refine ⟨f2, f3, f4, ?_⟩
      cases f2 <;> cases f3 <;> cases f4 <;> simp [LS, fzA, e2, gd, callK_keep, hf]
    | false =>
      refine ⟨true, true, true, ?_⟩
      cases f2 <;> cases f3 <;> cases f4 <;> simp [LS, fzA, e2, gd, callK_frz, hf]
  obtain ⟨g2, g3, g4, s2⟩ := s2
  obtain ⟨e, fr, e3, ok3⟩ := plain_run (by decide) (by decide) (blk_ok (Rk := Rk) (p := q.1) (l := q.2) h.toSh) 8 (by decide)
  rw [← plainF_eq] at e3
  have dn := ok3.dne_self (by decide)
  have s3 : ∃ y9, callM [false] (Fn__law_plain 8) (sCons (sNm 9) sNil) (LS ns ds.dropLast cap Sl W O Rk g2 g3 g4 (.shr (plansD F)) x6 x7 (.shr (plD q)) (.own none (.lst ((blkAll cap W Rk q.1 q.2 (sortS O)).map tup2))) x10 x11 x12 x13 x14 x15) =
      .ok (if fr = true then .f e else .v e) (LS ns ds.dropLast cap Sl W O Rk g2 g3 g4 (.shr (plansD F)) x6 x7 (.shr (plD q)) y9 x10 x11 x12 x13 x14 x15) := by
    cases hf : flatR fr e with
    | true =>
      refine ⟨.own none (.lst ((blkAll cap W Rk q.1 q.2 (sortS O)).map tup2)), ?_⟩
      simp [LS, e3, callK_keep, hf]
    | false =>
      refine ⟨.shr (.lst ((blkAll cap W Rk q.1 q.2 (sortS O)).map tup2)), ?_⟩
      simp [LS, e3, callK_frz, hf]
  obtain ⟨y9, s3⟩ := s3
  obtain ⟨k2, k3, k4, s4⟩ := lbC_eq (ns := ns) (ds := ds.dropLast) h gq g2 g3 g4 (.shr (plansD F)) x6 x7 y9 x10 x11 x12 x13 x14 x15
  refine ⟨ds.dropLast, k2, k3, k4, .shr (plD q), y9, ok_sSeq s1 (ok_sSeq s2 (ok_sIfF ?_ rfl))⟩
  have s5 : callM [false] (Fn__law_plain 8) (sCons (lbC 8) sNil) (LS ns ds.dropLast cap Sl W O Rk g2 g3 g4 (.shr (plansD F)) x6 x7 (.shr (plD q)) y9 x10 x11 x12 x13 x14 x15) =
      .ok (if fr = true then .f e else .v e) (LS ns ds.dropLast cap Sl W O Rk k2 k3 k4 (.shr (plansD F)) x6 x7 (.shr (plD q)) y9 x10 x11 x12 x13 x14 x15) := by
    have q := ok_callM (md := [false]) (Fn := Fn__law_plain 8) (io := []) (bo := []) (ok_sCons s4 (rs := []) rfl) rfl (by simp) e3
    rw [ev_callK_nil, ev_setIO_nil] at q
    exact q
  simp only [ev_sCmpT, s3, s5, ev_bind_ok]
  cases fr <;> simp [dn]
theorem q7_loop (h : ShR cap Sl W O Rk) {F : List PP} (hF : ∀ q ∈ F, Good cap W O q) (hl : 0 < F.length) (f2 f3 f4 : Bool) (x6 x7 x8 x9 x10 x11 x12 x13 x14 x15 : AV) :
    ∃ ds' g2 g3 g4 y7 y8 y9, sFor (iRng fRng1 (sCons (sV (.int 4)) sNil)) (tNm 7) q7B (LS ns ds cap Sl W O Rk f2 f3 f4 (.shr (plansD F)) x6 x7 x8 x9 x10 x11 x12 x13 x14 x15) =
      .ok .nx (LS ns ds' cap Sl W O Rk g2 g3 g4 (.shr (plansD F)) x6 y7 y8 y9 x10 x11 x12 x13 x14 x15) := by
  obtain ⟨S', e, ds', g2, g3, g4, y7, y8, y9, rfl⟩ := forL_range (g := tNm 7) (body := q7B) (n := 4) (S := LS ns ds cap Sl W O Rk f2 f3 f4 (.shr (plansD F)) x6 x7 x8 x9 x10 x11 x12 x13 x14 x15)
    (fun _ S => ∃ ds' g2 g3 g4 y7 y8 y9, S = LS ns ds' cap Sl W O Rk g2 g3 g4 (.shr (plansD F)) x6 y7 y8 y9 x10 x11 x12 x13 x14 x15) (fun i S hi hI => by
      obtain ⟨ds', g2, g3, g4, y7, y8, y9, rfl⟩ := hI
      obtain ⟨ds2, k2, k3, k4, z8, z9, e⟩ := q7B_eq (ns := ns) (ds := ds') h hF hl g2 g3 g4 x6 (.shr (.int (i : Nat))) y8 y9 x10 x11 x12 x13 x14 x15
      exact ⟨_, _, rfl, e, _, _, _, _, _, _, _, rfl⟩) ⟨_, _, _, _, _, _, _, rfl⟩
  refine ⟨ds', g2, g3, g4, y7, y8, y9, ?_⟩
  rw [← e]
  rfl
end
end Lk75
namespace Lk75
open PySem PySem.Spec PyProof.Rows L2 L2.Dl
section
variable {cap : Str → Nat} {Sl : List Str} {W : Str → List Str} {O : List Str} {Rk : Str → List Str} {p q : Str → Str} {l k : List Str} {ns ds : List Int}
theorem plD_flat (q : PP) : flatR true (plD q) = true := by
  simp [flatR, plD, planD, D.flat, nd, D.sc]
noncomputable abbrev q8 : M Fl := (sAsg 10 (callM [false, false, false] Fn_stable_plan (sCons (sNm 2) (sCons (sNm 3) (sCons (sNm 4) sNil)))))
noncomputable abbrev q9 : M Fl := (sAsg 11 (callM [false, false, false] Fn_stable_for_slots (sCons (sNm 2) (sCons (sNm 3) (sCons (sNm 4) sNil)))))
theorem q8_eq {kb : PP} (e : Fn_stable_plan [placesD cap Sl, rowsD W O, rowsD Rk Sl] = .ret (plD kb) true []) (f2 f3 f4 : Bool) (x5 x6 x7 x8 x9 x10 x11 x12 x13 x14 x15 : AV) :
    q8 (LS ns ds cap Sl W O Rk f2 f3 f4 x5 x6 x7 x8 x9 x10 x11 x12 x13 x14 x15) = .ok .nx (LS ns ds cap Sl W O Rk f2 f3 f4 x5 x6 x7 x8 x9 (.own none (plD kb)) x11 x12 x13 x14 x15) := by
  have pf := plD_flat kb
  cases f2 <;> cases f3 <;> cases f4 <;> simp [q8, LS, fzA, e, callK_keep, pf]
theorem q9_eq {kb : PP} (e : Fn_stable_for_slots [placesD cap Sl, rowsD W O, rowsD Rk Sl] = .ret (plD kb) true []) (f2 f3 f4 : Bool) (x5 x6 x7 x8 x9 x10 x11 x12 x13 x14 x15 : AV) :
    q9 (LS ns ds cap Sl W O Rk f2 f3 f4 x5 x6 x7 x8 x9 x10 x11 x12 x13 x14 x15) = .ok .nx (LS ns ds cap Sl W O Rk f2 f3 f4 x5 x6 x7 x8 x9 x10 (.own none (plD kb)) x12 x13 x14 x15) := by
  have pf := plD_flat kb
  cases f2 <;> cases f3 <;> cases f4 <;> simp [q9, LS, fzA, e, callK_keep, pf]
noncomputable abbrev q10 : M Fl := (sIfS (sOr (sCmpT dne (sCall gList (sCons (sNm 10) sNil)) (sCall gSorted (sCons (sNm 10) sNil))) (sCmpT dne (sCall gList (sCons (sNm 11) sNil)) (sCall gSorted (sCons (sNm 11) sNil)))) (sRet (sV (.bl false))) sNext)
theorem q10_eq {kb kw : PP} (h1 : sortS kb.2 = kb.2) (h2 : sortS kw.2 = kw.2) (y1 : ∀ s ∈ kb.2, Lay s) (y2 : ∀ s ∈ kw.2, Lay s) (f2 f3 f4 : Bool) (x5 x6 x7 x8 x9 x12 x13 x14 x15 : AV) :
    q10 (LS ns ds cap Sl W O Rk f2 f3 f4 x5 x6 x7 x8 x9 (.own none (plD kb)) (.own none (plD kw)) x12 x13 x14 x15) = .ok .nx (LS ns ds cap Sl W O Rk f2 f3 f4 x5 x6 x7 x8 x9 (.own none (plD kb)) (.own none (plD kw)) x12 x13 x14 x15) := by
  have gl : ∀ q : PP, gList [plD q] = some (.f (.lst (q.2.map .str))) := fun q => by
    show some (R.f (.lst ((nd (fun o => D.str (q.1 o)) q.2).map fun p => keyD p.1))) = _
    rw [nd_keyD]
  have gs : ∀ q : PP, gSorted [plD q] = some (.f (.lst ((sortS q.2).map .str))) := fun q => gSorted_nd _ _
  have d1 := dne_strs y1 y1
  have d2 := dne_strs y2 y2
  simp [q10, LS, gl, gs, h1, h2, d1, d2]
noncomputable abbrev cntC (i : Nat) : M Bool := sCmpT dne (sCall gLen (sCons (sLc [8] (iSeq (sNm 6)) (tNm 8) (sCmpT deq (sNm 8) (sNm i)) (sNm 8)) sNil)) (sV (.int 1))
theorem cnt10_eq (h : Sh cap Sl W O) {G : List PP} {kb : PP} (hk : Pl W O kb.1 kb.2) (hG : ∀ q ∈ G, Pl W O q.1 q.2) (hl : G.length ≤ 1000000) (c : G.countP (same (mOf kb.1 kb.2) (sortS O)) = 1) (f2 f3 f4 f6 : Bool) (x5 x7 x8 x9 x11 x12 x13 x14 x15 : AV) :
    cntC 10 (LS ns ds cap Sl W O Rk f2 f3 f4 x5 (fzA f6 (plansD G)) x7 x8 x9 (.own none (plD kb)) x11 x12 x13 x14 x15) = .ok false (LS ns ds cap Sl W O Rk f2 f3 f4 x5 (.shr (plansD G)) x7 x8 x9 (.own none (plD kb)) x11 x12 x13 x14 x15) := by
  obtain ⟨S', e, rfl⟩ := lc_map (vs := [8]) (fi := iSeq (sNm 6)) (g := tNm 8) (ft := sCmpT deq (sNm 8) (sNm 10)) (fe := sNm 8)
    (S := LS ns ds cap Sl W O Rk f2 f3 f4 x5 (fzA f6 (plansD G)) x7 x8 x9 (.own none (plD kb)) x11 x12 x13 x14 x15) (S1 := LS ns ds cap Sl W O Rk f2 f3 f4 x5 (.shr (plansD G)) x7 x8 x9 (.own none (plD kb)) x11 x12 x13 x14 x15) (xs := G)
    plD (same (mOf kb.1 kb.2) (sortS O)) plD (fun S => S = LS ns ds cap Sl W O Rk f2 f3 f4 x5 (.shr (plansD G)) x7 .un x9 (.own none (plD kb)) x11 x12 x13 x14 x15)
    (by cases f6 <;> rfl) hl (fun q hq S hS => by
      subst hS
      refine ⟨LS ns ds cap Sl W O Rk f2 f3 f4 x5 (.shr (plansD G)) x7 (.shr (plD q)) x9 (.own none (plD kb)) x11 x12 x13 x14 x15, LS ns ds cap Sl W O Rk f2 f3 f4 x5 (.shr (plansD G)) x7 (.shr (plD q)) x9 (.own none (plD kb)) x11 x12 x13 x14 x15, rfl, ?_, fun _ => ⟨.at 8, _, LS ns ds cap Sl W O Rk f2 f3 f4 x5 (.shr (plansD G)) x7 (.shr (plD q)) x9 (.own none (plD kb)) x11 x12 x13 x14 x15, rfl, rfl, rfl⟩, fun _ => rfl⟩
      exact ok_sCmpT rfl rfl rfl rfl (deq_same (hG q hq) hk h)) rfl
  rw [List.countP_eq_length_filter] at c
  refine (ok_sCmpT (b := false) (ok_sCall (ds := [.lst ((G.filter (same (mOf kb.1 kb.2) (sortS O))).map plD)]) (r := .v (.int 1)) (ok_sCons (rs := []) e rfl) rfl ?_) rfl rfl rfl rfl).trans rfl
  rw [gLen_lst, List.length_map, c]
  rfl
theorem cnt11_eq (h : Sh cap Sl W O) {G : List PP} {kb : PP} (hk : Pl W O kb.1 kb.2) (hG : ∀ q ∈ G, Pl W O q.1 q.2) (hl : G.length ≤ 1000000) (c : G.countP (same (mOf kb.1 kb.2) (sortS O)) = 1) (f2 f3 f4 f6 : Bool) (x5 x7 x8 x9 x10 x12 x13 x14 x15 : AV) :
    cntC 11 (LS ns ds cap Sl W O Rk f2 f3 f4 x5 (fzA f6 (plansD G)) x7 x8 x9 x10 (.own none (plD kb)) x12 x13 x14 x15) = .ok false (LS ns ds cap Sl W O Rk f2 f3 f4 x5 (.shr (plansD G)) x7 x8 x9 x10 (.own none (plD kb)) x12 x13 x14 x15) := by
  obtain ⟨S', e, rfl⟩ := lc_map (vs := [8]) (fi := iSeq (sNm 6)) (g := tNm 8) (ft := sCmpT deq (sNm 8) (sNm 11)) (fe := sNm 8)
    (S := LS ns ds cap Sl W O Rk f2 f3 f4 x5 (fzA f6 (plansD G)) x7 x8 x9 x10 (.own none (plD kb)) x12 x13 x14 x15) (S1 := LS ns ds cap Sl W O Rk f2 f3 f4 x5 (.shr (plansD G)) x7 x8 x9 x10 (.own none (plD kb)) x12 x13 x14 x15) (xs := G)
    plD (same (mOf kb.1 kb.2) (sortS O)) plD (fun S => S = LS ns ds cap Sl W O Rk f2 f3 f4 x5 (.shr (plansD G)) x7 .un x9 x10 (.own none (plD kb)) x12 x13 x14 x15)
    (by cases f6 <;> rfl) hl (fun q hq S hS => by
      subst hS
      refine ⟨LS ns ds cap Sl W O Rk f2 f3 f4 x5 (.shr (plansD G)) x7 (.shr (plD q)) x9 x10 (.own none (plD kb)) x12 x13 x14 x15, LS ns ds cap Sl W O Rk f2 f3 f4 x5 (.shr (plansD G)) x7 (.shr (plD q)) x9 x10 (.own none (plD kb)) x12 x13 x14 x15, rfl, ?_, fun _ => ⟨.at 8, _, LS ns ds cap Sl W O Rk f2 f3 f4 x5 (.shr (plansD G)) x7 (.shr (plD q)) x9 x10 (.own none (plD kb)) x12 x13 x14 x15, rfl, rfl, rfl⟩, fun _ => rfl⟩
      exact ok_sCmpT rfl rfl rfl rfl (deq_same (hG q hq) hk h)) rfl
  rw [List.countP_eq_length_filter] at c
  refine (ok_sCmpT (b := false) (ok_sCall (ds := [.lst ((G.filter (same (mOf kb.1 kb.2) (sortS O))).map plD)]) (r := .v (.int 1)) (ok_sCons (rs := []) e rfl) rfl ?_) rfl rfl rfl rfl).trans rfl
  rw [gLen_lst, List.length_map, c]
  rfl
noncomputable abbrev q11 : M Fl := (sIfS (sOr (cntC 10) (cntC 11)) (sRet (sV (.bl false))) sNext)
theorem q11_eq (h : Sh cap Sl W O) {G : List PP} {kb kw : PP} (hk : Pl W O kb.1 kb.2) (hw : Pl W O kw.1 kw.2) (hG : ∀ q ∈ G, Pl W O q.1 q.2) (hl : G.length ≤ 1000000) (c : G.countP (same (mOf kb.1 kb.2) (sortS O)) = 1) (c' : G.countP (same (mOf kw.1 kw.2) (sortS O)) = 1) (f2 f3 f4 f6 : Bool) (x5 x7 x8 x9 x12 x13 x14 x15 : AV) :
    q11 (LS ns ds cap Sl W O Rk f2 f3 f4 x5 (fzA f6 (plansD G)) x7 x8 x9 (.own none (plD kb)) (.own none (plD kw)) x12 x13 x14 x15) = .ok .nx (LS ns ds cap Sl W O Rk f2 f3 f4 x5 (.shr (plansD G)) x7 x8 x9 (.own none (plD kb)) (.own none (plD kw)) x12 x13 x14 x15) :=
  ok_sIfF (ok_sOrF (cnt10_eq h hk hG hl c f2 f3 f4 f6 x5 x7 x8 x9 _ x12 x13 x14 x15) (cnt11_eq h hw hG hl c' f2 f3 f4 true x5 x7 x8 x9 _ x12 x13 x14 x15)) rfl
end
end Lk75
namespace Lk75
open PySem PySem.Spec PyProof.Rows L2 L2.Dl
section
variable {cap : Str → Nat} {Sl : List Str} {W : Str → List Str} {O : List Str} {Rk : Str → List Str} {p q : Str → Str} {l k : List Str} {ns ds : List Int}
structure Alike (cap : Str → Nat) (W : Str → List Str) (kb kw q : PP) : Prop where
  k1 : sortS q.2 = sortS kb.2
  k2 : sortS kw.2 = sortS kb.2
  le : ∀ o ∈ q.2, (W o).idxOf (kb.1 o) ≤ (W o).idxOf (q.1 o) ∧ (W o).idxOf (q.1 o) ≤ (W o).idxOf (kw.1 o)
  row : ∀ s, (q.2.filter fun o => q.1 o == s).length < cap s → sortS (q.2.filter fun o => q.1 o == s) = sortS (kb.2.filter fun o => kb.1 o == s)
theorem alike (h : ShR cap Sl W O Rk) (g : Gs.Given cap W O Rk) (hW : ∀ o ∈ O, ∀ s ∈ W o, s ∈ Sl) {kb kw q : PP} (hb : Pl W O kb.1 kb.2) (hw : Pl W O kw.1 kw.2) (hq : Good cap W O q) (sb : Gs.Stable cap W O Rk (mOf kb.1 kb.2)) (sw : Gs.Stable cap W O Rk (mOf kw.1 kw.2)) (sq : Gs.Stable cap W O Rk (mOf q.1 q.2))
    (best : ∀ m, Gs.Stable cap W O Rk m → ∀ o ∈ O, Sd.rk W o (mOf kb.1 kb.2 o) ≤ Sd.rk W o (m o)) (worst : ∀ m, Gs.Stable cap W O Rk m → ∀ o ∈ O, Sd.rk W o (m o) ≤ Sd.rk W o (mOf kw.1 kw.2 o)) : Alike cap W kb kw q := by
  have r1 := Gs.rural g sb.toPlan sq (best _ sq) h.ns hW
  have r2 := Gs.rural g sb.toPlan sw (best _ sw) h.ns hW
  have k1 := keys_same hq.1 hb h.toSh fun o ho => (r1.1 o ho).symm
  have k2 := keys_same hw hb h.toSh fun o ho => (r2.1 o ho).symm
  refine ⟨k1, k2, fun o ho => ?_, fun s hs => ?_⟩
  · have hO := (hq.1.mem o ho).1
    have b1 : o ∈ kb.2 := mem_sortS.mp (k1 ▸ mem_sortS.mpr ho)
    have b2 : o ∈ kw.2 := mem_sortS.mp (k2.symm ▸ mem_sortS.mpr b1)
    have h1 := best _ sq o hO
    have h2 := worst _ sq o hO
    rw [rk_mem b1, rk_mem ho] at h1
    rw [rk_mem b2, rk_mem ho] at h2
    exact ⟨h1, h2⟩
  · rw [← cnt_mOf hq.1 (List.Perm.refl O) h.no] at hs
    exact row_same hq.1 hb fun o ho => (r1.2 s hs o ho).symm
noncomputable abbrev b1 : M Fl := (sIfS (sCmpT dne (sCall gSorted (sCons (sNm 8) sNil)) (sCall gSorted (sCons (sNm 10) sNil))) (sRet (sV (.bl false))) sNext)
noncomputable abbrev b2 : M Fl := (sAsg 12 (sLc [16] (iSeq (sMake gTup (sCons (sNm 10) (sCons (sNm 8) (sCons (sNm 11) sNil))))) (tNm 16) sYes (callM [false, false] Fn__law_places_of (sCons (sNm 3) (sCons (sNm 16) sNil)))))
noncomputable abbrev b3 : M Fl := (sIfS (sCmpT gtD (sCall gLen (sCons (sLc [16, 17, 18] (iMake gZip3 (sCons (sOp subscD (sNm 12) (sV (.int 0))) (sCons (sOp subscD (sNm 12) (sV (.int 1))) (sCons (sOp subscD (sNm 12) (sV (.int 2))) sNil)))) (tTupT 3 (tCons (tNm 16) (tCons (tNm 17) (tCons (tNm 18) tNil)))) (sNot (sTru (sChain leD leD (sNm 16) (sNm 17) (sNm 18)))) (sV (.int 1))) sNil)) (sV (.int 0))) (sRet (sV (.bl false))) sNext)
noncomputable abbrev b4B : M Fl := (sSeq (sAsg 14 (sCall gSorted (sCons (sLc [19] (iSeq (sNm 8)) (tNm 19) (sCmpT deq (sOp subscD (sNm 8) (sNm 19)) (sNm 13)) (sNm 19)) sNil)))
    (sIfS (sAnd (sCmpT ltD (sCall gLen (sCons (sNm 14) sNil)) (sOp subscD (sNm 2) (sNm 13))) (sCmpT dne (sNm 14) (sCall gSorted (sCons (sLc [19] (iSeq (sNm 10)) (tNm 19) (sCmpT deq (sOp subscD (sNm 10) (sNm 19)) (sNm 13)) (sNm 19)) sNil)))) (sRet (sV (.bl false))) sNext))
theorem b1_eq {kb q : PP} (h : Sh cap Sl W O) (hb : Pl W O kb.1 kb.2) (hq : Pl W O q.1 q.2) (k1 : sortS q.2 = sortS kb.2) (f2 f3 f4 f10 : Bool) (x5 x6 x7 x9 x11 x12 x13 x14 x15 : AV) :
    b1 (LS ns ds cap Sl W O Rk f2 f3 f4 x5 x6 x7 (.shr (plD q)) x9 (fzA f10 (plD kb)) x11 x12 x13 x14 x15) = .ok .nx (LS ns ds cap Sl W O Rk f2 f3 f4 x5 x6 x7 (.shr (plD q)) x9 (fzA f10 (plD kb)) x11 x12 x13 x14 x15) := by
  have gs : ∀ q : PP, gSorted [plD q] = some (.f (.lst ((sortS q.2).map .str))) := fun q => gSorted_nd _ _
  have y : ∀ s ∈ sortS kb.2, Lay s := fun s hs => h.yo s (hb.mem s (mem_sortS.mp hs)).1
  have d1 := dne_strs y y
  cases f10 <;> simp [b1, LS, fzA, gs, k1, d1]
def plOf (W : Str → List Str) (q : PP) : D := .lst ((sortS q.2).map fun o => .int ((W o).idxOf (q.1 o) : Nat))
theorem plOf_flat (q : PP) : flatR true (plOf W q) = true := by
  simp [flatR, plOf, D.flat, D.sc]
theorem b2_eq {kb kw q : PP} (h : Sh cap Sl W O) (hb : Pl W O kb.1 kb.2) (hw : Pl W O kw.1 kw.2) (hq : Pl W O q.1 q.2) (f2 f3 f4 f10 f11 : Bool) (x5 x6 x7 x9 x12 x13 x14 x15 : AV) :
    b2 (LS ns ds cap Sl W O Rk f2 f3 f4 x5 x6 x7 (.shr (plD q)) x9 (fzA f10 (plD kb)) (fzA f11 (plD kw)) x12 x13 x14 x15) = .ok .nx (LS ns ds cap Sl W O Rk f2 f3 f4 x5 x6 x7 (.shr (plD q)) x9 (.shr (plD kb)) (.shr (plD kw)) (.own none (.lst [plOf W kb, plOf W q, plOf W kw])) x13 x14 x15) := by
  obtain ⟨S', e, rfl⟩ := lc_map (vs := [16]) (fi := iSeq (sMake gTup (sCons (sNm 10) (sCons (sNm 8) (sCons (sNm 11) sNil))))) (g := tNm 16) (ft := sYes) (fe := callM [false, false] Fn__law_places_of (sCons (sNm 3) (sCons (sNm 16) sNil)))
    (S := LS ns ds cap Sl W O Rk f2 f3 f4 x5 x6 x7 (.shr (plD q)) x9 (fzA f10 (plD kb)) (fzA f11 (plD kw)) x12 x13 x14 x15) (S1 := LS ns ds cap Sl W O Rk f2 f3 f4 x5 x6 x7 (.shr (plD q)) x9 (.shr (plD kb)) (.shr (plD kw)) x12 x13 x14 x15) (xs := [kb, q, kw])
    plD (fun _ => true) (plOf W) (fun S => S = LS ns ds cap Sl W O Rk f2 f3 f4 x5 x6 x7 (.shr (plD q)) x9 (.shr (plD kb)) (.shr (plD kw)) x12 x13 x14 x15)
    (by cases f10 <;> cases f11 <;> rfl) (by simp) (fun r hr S hS => by
      subst hS
      have hr : Pl W O r.1 r.2 := by
        simp only [List.mem_cons, List.not_mem_nil, or_false] at hr
        rcases hr with rfl | rfl | rfl
        · exact hb
        · exact hq
        · exact hw
      have ep : Fn__law_places_of [rowsD W O, plD r] = .ret (plOf W r) true [] := places_of_eq h hr
      have pf := plOf_flat (W := W) r
      refine ⟨[.shr (.scr ns), .own none (deckI ds), fzA f2 (placesD cap Sl), fzA f3 (rowsD W O), fzA f4 (rowsD Rk Sl), x5, x6, x7, .shr (plD q), x9, .shr (plD kb), .shr (plD kw), x12, x13, x14, x15, .shr (plD r), .un, .un, .un], _, rfl, rfl, fun _ => ⟨.f (plOf W r), [.shr (.scr ns), .own none (deckI ds), fzA f2 (placesD cap Sl), fzA f3 (rowsD W O), fzA f4 (rowsD Rk Sl), x5, x6, x7, .shr (plD q), x9, .shr (plD kb), .shr (plD kw), x12, x13, x14, x15, .shr (plD r), .un, .un, .un], _, ?_, rfl, rfl⟩, fun z => by cases z⟩
      cases f3 <;> simp [fzA, ep, callK_keep, pf]) rfl
  exact ok_sAsg e rfl
theorem zip_map (a b c : Str → D) : ∀ K : List Str, zipD3 (K.map a) (K.map b) (K.map c) = K.map fun o => .tup [a o, b o, c o]
  | [] => rfl
  | o :: K => by simp only [List.map_cons, zipD3, zip_map a b c K]
@[simp] theorem ev_iMake {g : List D → Option (List D)} {fl : M (List R)} {S : SS} : iMake g fl S = (fl S).bind fun rs S1 => match valsR S1 rs with
  | none => .no
  | some (ds, S2) => match g ds with
    | none => .no
    | some l => .ok l S2 := rfl
theorem b3_eq {kb kw q : PP} (al : Alike cap W kb kw q) (hl : q.2.length ≤ 400) (f2 f3 f4 : Bool) (x5 x6 x7 x8 x9 x10 x11 x13 x14 x15 : AV) :
    b3 (LS ns ds cap Sl W O Rk f2 f3 f4 x5 x6 x7 x8 x9 x10 x11 (.own none (.lst [plOf W kb, plOf W q, plOf W kw])) x13 x14 x15) = .ok .nx (LS ns ds cap Sl W O Rk f2 f3 f4 x5 x6 x7 x8 x9 x10 x11 (.own none (.lst [plOf W kb, plOf W q, plOf W kw])) x13 x14 x15) := by
  have z : gZip3 [plOf W kb, plOf W q, plOf W kw] = some ((sortS q.2).map fun o => .tup [.int ((W o).idxOf (kb.1 o) : Nat), .int ((W o).idxOf (q.1 o) : Nat), .int ((W o).idxOf (kw.1 o) : Nat)]) := by
    show some (zipD3 ((sortS kb.2).map _) ((sortS q.2).map _) ((sortS kw.2).map _)) = _
    rw [al.k2, ← al.k1, zip_map]
  have s0 : subscD (.lst [plOf W kb, plOf W q, plOf W kw]) (.int 0) = some (.v (plOf W kb)) := rfl
  have s1 : subscD (.lst [plOf W kb, plOf W q, plOf W kw]) (.int 1) = some (.v (plOf W q)) := rfl
  have s2 : subscD (.lst [plOf W kb, plOf W q, plOf W kw]) (.int 2) = some (.v (plOf W kw)) := rfl
  obtain ⟨S', e, rfl⟩ := lc_map (vs := [16, 17, 18]) (fi := iMake gZip3 (sCons (sOp subscD (sNm 12) (sV (.int 0))) (sCons (sOp subscD (sNm 12) (sV (.int 1))) (sCons (sOp subscD (sNm 12) (sV (.int 2))) sNil)))) (g := tTupT 3 (tCons (tNm 16) (tCons (tNm 17) (tCons (tNm 18) tNil)))) (ft := sNot (sTru (sChain leD leD (sNm 16) (sNm 17) (sNm 18)))) (fe := sV (.int 1))
    (S := LS ns ds cap Sl W O Rk f2 f3 f4 x5 x6 x7 x8 x9 x10 x11 (.own none (.lst [plOf W kb, plOf W q, plOf W kw])) x13 x14 x15) (S1 := LS ns ds cap Sl W O Rk f2 f3 f4 x5 x6 x7 x8 x9 x10 x11 (.own none (.lst [plOf W kb, plOf W q, plOf W kw])) x13 x14 x15) (xs := sortS q.2)
    (fun o => .tup [.int ((W o).idxOf (kb.1 o) : Nat), .int ((W o).idxOf (q.1 o) : Nat), .int ((W o).idxOf (kw.1 o) : Nat)]) (fun _ => false) (fun _ => .int 1) (fun S => S = LS ns ds cap Sl W O Rk f2 f3 f4 x5 x6 x7 x8 x9 x10 x11 (.own none (.lst [plOf W kb, plOf W q, plOf W kw])) x13 x14 x15)
    (by simp [LS, s0, s1, s2, z]) (by rw [length_sortS]; omega) (fun o ho S hS => by
      subst hS
      obtain ⟨l1, l2⟩ := al.le o (mem_sortS.mp ho)
      refine ⟨[.shr (.scr ns), .own none (deckI ds), fzA f2 (placesD cap Sl), fzA f3 (rowsD W O), fzA f4 (rowsD Rk Sl), x5, x6, x7, x8, x9, x10, x11, .own none (.lst [plOf W kb, plOf W q, plOf W kw]), x13, x14, x15, .shr (.int ((W o).idxOf (kb.1 o) : Nat)), .shr (.int ((W o).idxOf (q.1 o) : Nat)), .shr (.int ((W o).idxOf (kw.1 o) : Nat)), .un], [.shr (.scr ns), .own none (deckI ds), fzA f2 (placesD cap Sl), fzA f3 (rowsD W O), fzA f4 (rowsD Rk Sl), x5, x6, x7, x8, x9, x10, x11, .own none (.lst [plOf W kb, plOf W q, plOf W kw]), x13, x14, x15, .shr (.int ((W o).idxOf (kb.1 o) : Nat)), .shr (.int ((W o).idxOf (q.1 o) : Nat)), .shr (.int ((W o).idxOf (kw.1 o) : Nat)), .un], rfl, ?_, (fun z => by cases z), fun _ => rfl⟩
      have q1 : leD (.int ((W o).idxOf (kb.1 o) : Nat)) (.int ((W o).idxOf (q.1 o) : Nat)) = some true := by rw [leD_int]; simp [l1]
      have q2 : leD (.int ((W o).idxOf (q.1 o) : Nat)) (.int ((W o).idxOf (kw.1 o) : Nat)) = some true := by rw [leD_int]; simp [l2]
      have : sChain leD leD (sNm 16) (sNm 17) (sNm 18) [.shr (.scr ns), .own none (deckI ds), fzA f2 (placesD cap Sl), fzA f3 (rowsD W O), fzA f4 (rowsD Rk Sl), x5, x6, x7, x8, x9, x10, x11, .own none (.lst [plOf W kb, plOf W q, plOf W kw]), x13, x14, x15, .shr (.int ((W o).idxOf (kb.1 o) : Nat)), .shr (.int ((W o).idxOf (q.1 o) : Nat)), .shr (.int ((W o).idxOf (kw.1 o) : Nat)), .un] =
          .ok (.v (.bl true)) [.shr (.scr ns), .own none (deckI ds), fzA f2 (placesD cap Sl), fzA f3 (rowsD W O), fzA f4 (rowsD Rk Sl), x5, x6, x7, x8, x9, x10, x11, .own none (.lst [plOf W kb, plOf W q, plOf W kw]), x13, x14, x15, .shr (.int ((W o).idxOf (kb.1 o) : Nat)), .shr (.int ((W o).idxOf (q.1 o) : Nat)), .shr (.int ((W o).idxOf (kw.1 o) : Nat)), .un] := by
        simp [sChain, lift2, q1, q2]
      rw [ev_sNot, ev_sTru, this]
      rfl) rfl
  rw [List.filter_eq_nil_iff.mpr fun _ _ z => by cases z] at e
  exact ok_sIfF (ok_sCmpT (b := false) (ok_sCall (r := .v (.int 0)) (ok_sCons (rs := []) e rfl) rfl rfl) rfl rfl rfl rfl) rfl
theorem b4B_eq {kb kw q : PP} (h : Sh cap Sl W O) (hb : Pl W O kb.1 kb.2) (hq : Pl W O q.1 q.2) (al : Alike cap W kb kw q) {s : Str} (hs : s ∈ Sl) (f3 f4 : Bool) (x5 x6 x7 x9 x11 x12 x14 x15 : AV) :
    ∃ y14, b4B (LS ns ds cap Sl W O Rk true f3 f4 x5 x6 x7 (.shr (plD q)) x9 (.shr (plD kb)) x11 x12 (.shr (.str s)) x14 x15) = .ok .nx (LS ns ds cap Sl W O Rk true f3 f4 x5 x6 x7 (.shr (plD q)) x9 (.shr (plD kb)) x11 x12 (.shr (.str s)) y14 x15) := by
  have ql := hq.len h.lo
  have bl := hb.len h.lo
  have e1 : ∀ x14, sLc [19] (iSeq (sNm 8)) (tNm 19) (sCmpT deq (sOp subscD (sNm 8) (sNm 19)) (sNm 13)) (sNm 19) (LS ns ds cap Sl W O Rk true f3 f4 x5 x6 x7 (.shr (plD q)) x9 (.shr (plD kb)) x11 x12 (.shr (.str s)) x14 x15) =
      .ok (.f (.lst ((q.2.filter fun y => q.1 y == s).map .str))) (LS ns ds cap Sl W O Rk true f3 f4 x5 x6 x7 (.shr (plD q)) x9 (.shr (plD kb)) x11 x12 (.shr (.str s)) x14 x15) := fun x14 => by
    refine lc_names (l := q.2) (w := .un) (fun y => q.1 y == s) (iSeq_nd (f := fun o => .str (q.1 o)) rfl) (by omega) rfl fun y hy => ?_
    exact ok_sCmpT (ok_sOp (r := .v (.str (q.1 y))) rfl rfl rfl rfl (subscD_nd hy)) rfl rfl rfl (deq_str (hq.lay h y hy) (h.ys s hs))
  have e2 : ∀ x14, sLc [19] (iSeq (sNm 10)) (tNm 19) (sCmpT deq (sOp subscD (sNm 10) (sNm 19)) (sNm 13)) (sNm 19) (LS ns ds cap Sl W O Rk true f3 f4 x5 x6 x7 (.shr (plD q)) x9 (.shr (plD kb)) x11 x12 (.shr (.str s)) x14 x15) =
      .ok (.f (.lst ((kb.2.filter fun y => kb.1 y == s).map .str))) (LS ns ds cap Sl W O Rk true f3 f4 x5 x6 x7 (.shr (plD q)) x9 (.shr (plD kb)) x11 x12 (.shr (.str s)) x14 x15) := fun x14 => by
    refine lc_names (l := kb.2) (w := .un) (fun y => kb.1 y == s) (iSeq_nd (f := fun o => .str (kb.1 o)) rfl) (by omega) rfl fun y hy => ?_
    exact ok_sCmpT (ok_sOp (r := .v (.str (kb.1 y))) rfl rfl rfl rfl (subscD_nd hy)) rfl rfl rfl (deq_str (hb.lay h y hy) (h.ys s hs))
  have f7 : subscD (placesD cap Sl) (.str s) = some (.v (.int (cap s : Nat))) := subscD_nd hs
  refine ⟨.own none (.lst ((sortS (q.2.filter fun y => q.1 y == s)).map .str)), ok_sSeq (S1 := LS ns ds cap Sl W O Rk true f3 f4 x5 x6 x7 (.shr (plD q)) x9 (.shr (plD kb)) x11 x12 (.shr (.str s)) (.own none (.lst ((sortS (q.2.filter fun y => q.1 y == s)).map .str))) x15) (ok_sAsg (ok_sCall (ok_sCons (rs := []) (e1 x14) rfl) rfl (gSorted_strs _)) rfl) (ok_sIfF ?_ rfl)⟩
  have c1 : sCmpT ltD (sCall gLen (sCons (sNm 14) sNil)) (sOp subscD (sNm 2) (sNm 13)) (LS ns ds cap Sl W O Rk true f3 f4 x5 x6 x7 (.shr (plD q)) x9 (.shr (plD kb)) x11 x12 (.shr (.str s)) (.own none (.lst ((sortS (q.2.filter fun y => q.1 y == s)).map .str))) x15) =
      .ok (decide ((q.2.filter fun y => q.1 y == s).length < cap s)) (LS ns ds cap Sl W O Rk true f3 f4 x5 x6 x7 (.shr (plD q)) x9 (.shr (plD kb)) x11 x12 (.shr (.str s)) (.own none (.lst ((sortS (q.2.filter fun y => q.1 y == s)).map .str))) x15) := by
    refine ok_sCmpT (ok_sCall (ok_sCons rfl rfl) rfl (gLen_strs _)) (ok_sOp rfl rfl rfl rfl f7) rfl rfl ?_
    rw [ltD_nat, length_sortS]
  rw [ev_sAnd, c1]
  simp only [ev_bind_ok]
  by_cases c : (q.2.filter fun y => q.1 y == s).length < cap s
  · rw [decide_eq_true c]
    simp only [if_true]
    refine ok_sCmpT rfl (ok_sCall (ok_sCons (rs := []) (e2 _) rfl) rfl (gSorted_strs _)) rfl rfl ?_
    have y : ∀ x ∈ sortS (kb.2.filter fun o => kb.1 o == s), Lay x := fun x hx => h.yo x (hb.mem x (List.mem_filter.mp (mem_sortS.mp hx)).1).1
    rw [al.row s c, dne_strs y y]
    simp
  · rw [decide_eq_false c]
    rfl
end
end Lk75
namespace Lk75
open PySem PySem.Spec PyProof.Rows L2 L2.Dl
section
variable {cap : Str → Nat} {Sl : List Str} {W : Str → List Str} {O : List Str} {Rk : Str → List Str} {p q : Str → Str} {l k : List Str} {ns ds : List Int}
noncomputable abbrev b4 : M Fl := sFor (iSeq (sNm 2)) (tNm 13) b4B
theorem b4_eq {kb kw q : PP} (h : Sh cap Sl W O) (hb : Pl W O kb.1 kb.2) (hq : Pl W O q.1 q.2) (al : Alike cap W kb kw q) (f2 f3 f4 : Bool) (x5 x6 x7 x9 x11 x12 x13 x14 x15 : AV) :
    ∃ y13 y14, b4 (LS ns ds cap Sl W O Rk f2 f3 f4 x5 x6 x7 (.shr (plD q)) x9 (.shr (plD kb)) x11 x12 x13 x14 x15) = .ok .nx (LS ns ds cap Sl W O Rk true f3 f4 x5 x6 x7 (.shr (plD q)) x9 (.shr (plD kb)) x11 x12 y13 y14 x15) := by
  obtain ⟨S', e, y13, y14, rfl⟩ := forL_list (g := tNm 13) (body := b4B) (xs := Sl) (pre := []) (S := LS ns ds cap Sl W O Rk true f3 f4 x5 x6 x7 (.shr (plD q)) x9 (.shr (plD kb)) x11 x12 x13 x14 x15) D.str
    (I := fun _ S => ∃ y13 y14, S = LS ns ds cap Sl W O Rk true f3 f4 x5 x6 x7 (.shr (plD q)) x9 (.shr (plD kb)) x11 x12 y13 y14 x15) (fun pre s S he hI => by
      obtain ⟨post, e⟩ := he
      obtain ⟨y13, y14, rfl⟩ := hI
      have hs : s ∈ Sl := by rw [e]; simp
      obtain ⟨z14, e2⟩ := b4B_eq (ns := ns) (ds := ds) (Rk := Rk) h hb hq al hs f3 f4 x5 x6 x7 x9 x11 x12 y14 x15
      exact ⟨_, _, rfl, e2, _, _, rfl⟩) ⟨_, _, rfl⟩
  refine ⟨y13, y14, ok_sFor (ds := Sl.map .str) (S1 := LS ns ds cap Sl W O Rk true f3 f4 x5 x6 x7 (.shr (plD q)) x9 (.shr (plD kb)) x11 x12 x13 x14 x15) ?_ e⟩
  have sq : seqOf (placesD cap Sl) = some (Sl.map .str) := by
    show some ((nd _ _).map fun p => keyD p.1) = _
    rw [nd_keyD]
  cases f2 <;> exact ok_iSeq (d := placesD cap Sl) rfl rfl sq
noncomputable abbrev q12B : M Fl := sSeq b1 (sSeq b2 (sSeq b3 b4))
noncomputable abbrev q12 : M Fl := sFor (iSeq (sNm 6)) (tNm 8) q12B
theorem q12_eq {kb kw : PP} {G : List PP} (h : Sh cap Sl W O) (hb : Pl W O kb.1 kb.2) (hw : Pl W O kw.1 kw.2) (hG : ∀ q ∈ G, Pl W O q.1 q.2 ∧ Alike cap W kb kw q) (f2 f3 f4 : Bool) (x5 x7 x8 x9 x12 x13 x14 x15 : AV) :
    ∃ g2 g10 g11 y8 y12 y13 y14, q12 (LS ns ds cap Sl W O Rk f2 f3 f4 x5 (.shr (plansD G)) x7 x8 x9 (.own none (plD kb)) (.own none (plD kw)) x12 x13 x14 x15) = .ok .nx (LS ns ds cap Sl W O Rk g2 f3 f4 x5 (.shr (plansD G)) x7 y8 x9 (fzA g10 (plD kb)) (fzA g11 (plD kw)) y12 y13 y14 x15) := by
  obtain ⟨S', e, g2, g10, g11, y8, y12, y13, y14, rfl⟩ := forL_list (g := tNm 8) (body := q12B) (xs := G) (pre := []) (S := LS ns ds cap Sl W O Rk f2 f3 f4 x5 (.shr (plansD G)) x7 x8 x9 (.own none (plD kb)) (.own none (plD kw)) x12 x13 x14 x15) plD
    (I := fun _ S => ∃ g2 g10 g11 y8 y12 y13 y14, S = LS ns ds cap Sl W O Rk g2 f3 f4 x5 (.shr (plansD G)) x7 y8 x9 (fzA g10 (plD kb)) (fzA g11 (plD kw)) y12 y13 y14 x15) (fun pre q S he hI => by
      obtain ⟨post, e⟩ := he
      obtain ⟨g2, g10, g11, y8, y12, y13, y14, rfl⟩ := hI
      have hq : q ∈ G := by rw [e]; simp
      obtain ⟨hq, al⟩ := hG q hq
      have e1 := b1_eq (ns := ns) (ds := ds) (Rk := Rk) h hb hq al.k1 g2 f3 f4 g10 x5 (.shr (plansD G)) x7 x9 (fzA g11 (plD kw)) y12 y13 y14 x15
      have e2 := b2_eq (ns := ns) (ds := ds) (Rk := Rk) h hb hw hq g2 f3 f4 g10 g11 x5 (.shr (plansD G)) x7 x9 y12 y13 y14 x15
      have e3 := b3_eq (ns := ns) (ds := ds) (Rk := Rk) (Sl := Sl) (O := O) al (hq.len h.lo) g2 f3 f4 x5 (.shr (plansD G)) x7 (.shr (plD q)) x9 (.shr (plD kb)) (.shr (plD kw)) y13 y14 x15
      obtain ⟨z13, z14, e4⟩ := b4_eq (ns := ns) (ds := ds) (Rk := Rk) h hb hq al g2 f3 f4 x5 (.shr (plansD G)) x7 x9 (.shr (plD kw)) (.own none (.lst [plOf W kb, plOf W q, plOf W kw])) y13 y14 x15
      exact ⟨LS ns ds cap Sl W O Rk g2 f3 f4 x5 (.shr (plansD G)) x7 (.shr (plD q)) x9 (fzA g10 (plD kb)) (fzA g11 (plD kw)) y12 y13 y14 x15, _, rfl, ok_sSeq e1 (ok_sSeq e2 (ok_sSeq e3 e4)), true, true, true, _, _, _, _, rfl⟩) ⟨f2, false, false, _, _, _, _, rfl⟩
  exact ⟨g2, g10, g11, y8, y12, y13, y14, ok_sFor (ds := G.map plD) (S1 := LS ns ds cap Sl W O Rk f2 f3 f4 x5 (.shr (plansD G)) x7 x8 x9 (.own none (plD kb)) (.own none (plD kw)) x12 x13 x14 x15) rfl e⟩
/-! ### the refusals -/
noncomputable abbrev rfC (f1 : M R) (i : Nat) (f2 : M R) : M R := callM [false, false, false, false, false] Fn__law_refusal (sCons f1 (sCons (sNm 2) (sCons (sNm 3) (sCons (sNm i) (sCons f2 sNil)))))
noncomputable abbrev q13 : M Fl := (sAsg 15 (sCall gDict (sCons (sNm 4) sNil)))
noncomputable abbrev q14 : M Fl := (sPut 15 (sOp addD (sOp subscD (sNm 4) (sOp subscD (sCall gSorted (sCons (sNm 2) sNil)) (sV (.int 0)))) (sMake gLst (sCons (sV (.str "nobody")) sNil))) (sOp subscD (sCall gSorted (sCons (sNm 2) sNil)) (sV (.int 0))))
noncomputable abbrev q15 : M Fl := (sIfS (sCmpT dne (rfC (callM [true, false] Fn__law_take (sCons (sNm 1) (sCons (sV (.int 3)) sNil))) 15 sNewK) (sMake gTup (sCons (sV (.str "order")) (sCons (sV (.str "ranks")) sNil)))) (sRet (sV (.bl false))) sNext)
noncomputable abbrev q16 : M Fl := (sRet (sOp (toB deq) (rfC (sV (.int 2)) 4 (sDisp1 (sV (.str "nobody")) (sV (.str "s0")))) (sMake gTup (sCons (sV (.str "plan")) (sCons (sV (.str "plan")) sNil)))))
theorem last_eq (h : ShR cap Sl W O Rk) (h0 : 0 < Sl.length) (hn : noB ∉ O) (f2 f3 f4 : Bool) (x5 x6 x7 x8 x9 x10 x11 x12 x13 x14 x15 : AV) :
    ∃ ds' g2 g3 g4 y15, sSeq q13 (sSeq q14 (sSeq q15 q16)) (LS ns ds cap Sl W O Rk f2 f3 f4 x5 x6 x7 x8 x9 x10 x11 x12 x13 x14 x15) = .ok (.rt (.bl true) false) (LS ns ds' cap Sl W O Rk g2 g3 g4 x5 x6 x7 x8 x9 x10 x11 x12 x13 x14 y15) := by
  obtain ⟨s0, hs, es⟩ := subscD_strs (l := sortS Sl) (i := 0) (by omega) (by rw [length_sortS]; omega)
  have hs : s0 ∈ Sl := mem_sortS.mp hs
  have gs : gSorted [placesD cap Sl] = some (.f (.lst ((sortS Sl).map .str))) := gSorted_nd _ _
  have gd : gDict [rowsD Rk Sl] = some (.f (rowsD Rk Sl)) := rfl
  have f1 : subscD (rowsD Rk Sl) (.str s0) = some (.v (.lst ((Rk s0).map .str))) := subscD_nd hs
  have rl := h.len_rk hs
  have ls := h.ls
  have ad : addD (.lst ((Rk s0).map .str)) (.lst [.str noB]) = some (.f (.lst ((Rk s0 ++ [noB]).map .str))) := by
    show (if ((Rk s0).map D.str).length + [D.str noB].length ≤ 1000000 then _ else none) = _
    rw [if_pos (by simp; omega), List.map_append]
    rfl
  have pt : putAt (rowsD Rk Sl) (.str s0) (.lst ((Rk s0 ++ [noB]).map .str)) = some (rowsD (updR Rk s0 (Rk s0 ++ [noB])) Sl) := by
    show (if (nd (fun o => D.lst ((Rk o).map .str)) Sl).length < 1000000 then some (D.dct (putD (nd (fun o => D.lst ((Rk o).map .str)) Sl) (.inr s0) (.lst ((Rk s0 ++ [noB]).map .str)))) else none) = _
    rw [if_pos (by simp [nd]; omega), putD_nd_old hs]
    congr 2
    refine nd_congr fun x _ => ?_
    unfold updR
    by_cases z : x = s0
    · subst z; simp
    · simp [z]
  have e13 : q13 (LS ns ds cap Sl W O Rk f2 f3 f4 x5 x6 x7 x8 x9 x10 x11 x12 x13 x14 x15) = .ok .nx (LS ns ds cap Sl W O Rk f2 f3 f4 x5 x6 x7 x8 x9 x10 x11 x12 x13 x14 (.own none (rowsD Rk Sl))) := by
    cases f4 <;> simp [q13, LS, fzA, gd]
  have e14 : q14 (LS ns ds cap Sl W O Rk f2 f3 f4 x5 x6 x7 x8 x9 x10 x11 x12 x13 x14 (.own none (rowsD Rk Sl))) = .ok .nx (LS ns ds cap Sl W O Rk f2 f3 f4 x5 x6 x7 x8 x9 x10 x11 x12 x13 x14 (.own none (rowsD (updR Rk s0 (Rk s0 ++ [noB])) Sl))) := by
    have k2 : sOp subscD (sCall gSorted (sCons (sNm 2) sNil)) (sV (.int 0)) (LS ns ds cap Sl W O Rk f2 f3 f4 x5 x6 x7 x8 x9 x10 x11 x12 x13 x14 (.own none (rowsD Rk Sl))) = .ok (.v (.str s0)) (LS ns ds cap Sl W O Rk f2 f3 f4 x5 x6 x7 x8 x9 x10 x11 x12 x13 x14 (.own none (rowsD Rk Sl))) := by
      cases f2 <;> simp [LS, fzA, gs, es]
    have k1 : sOp addD (sOp subscD (sNm 4) (sOp subscD (sCall gSorted (sCons (sNm 2) sNil)) (sV (.int 0)))) (sMake gLst (sCons (sV (.str "nobody")) sNil)) (LS ns ds cap Sl W O Rk f2 f3 f4 x5 x6 x7 x8 x9 x10 x11 x12 x13 x14 (.own none (rowsD Rk Sl))) = .ok (.f (.lst ((Rk s0 ++ [noB]).map .str))) (LS ns ds cap Sl W O Rk f2 f3 f4 x5 x6 x7 x8 x9 x10 x11 x12 x13 x14 (.own none (rowsD Rk Sl))) := by
      have k3 : sOp subscD (sNm 4) (sOp subscD (sCall gSorted (sCons (sNm 2) sNil)) (sV (.int 0))) (LS ns ds cap Sl W O Rk f2 f3 f4 x5 x6 x7 x8 x9 x10 x11 x12 x13 x14 (.own none (rowsD Rk Sl))) = .ok (.v (.lst ((Rk s0).map .str))) (LS ns ds cap Sl W O Rk f2 f3 f4 x5 x6 x7 x8 x9 x10 x11 x12 x13 x14 (.own none (rowsD Rk Sl))) := by
        cases f4 <;> exact ok_sOp rfl k2 rfl rfl f1
      exact ok_sOp k3 (rb := .f (.lst [.str noB])) rfl rfl rfl ad
    exact (ok_sPut k1 rfl rfl k2 rfl rfl pt).trans rfl
  have tk : Fn__law_take [deckI ds, .int 3] = .ret (.int (takeI ds 3)) false [deckI ds.dropLast] := take_F (by decide)
  have er := refusal_ranks h hs (.dct []) (a := takeI ds 3) ⟨takeI_nonneg (by decide), takeI_lt (by decide)⟩
  have dn1 : dne (.tup [.str "order", .str "ranks"]) (.tup [.str "order", .str "ranks"]) = some false := OkD.dne_self (N := 2) (n := 1) (.tup (by decide) fun d hd => by
    simp only [List.mem_cons, List.not_mem_nil, or_false] at hd
    rcases hd with rfl | rfl
    · exact .str (by unfold Lay; decide +kernel)
    · exact .str (by unfold Lay; decide +kernel)) (by decide)
  have ff : ∀ l, flatR false (D.tup l) = false := fun l => rfl
  have e15 : q15 (LS ns ds cap Sl W O Rk f2 f3 f4 x5 x6 x7 x8 x9 x10 x11 x12 x13 x14 (.own none (rowsD (updR Rk s0 (Rk s0 ++ [noB])) Sl))) = .ok .nx (LS ns ds.dropLast cap Sl W O Rk true true f4 x5 x6 x7 x8 x9 x10 x11 x12 x13 x14 (.shr (rowsD (updR Rk s0 (Rk s0 ++ [noB])) Sl))) := by
    cases f2 <;> cases f3 <;> simp [q15, rfC, LS, fzA, tk, er, callK_frz, ff, dn1]
  have ep := refusal_plan h (f := fun _ => "s0") hn
  have dq : toB deq (.tup [.str "plan", .str "plan"]) (.tup [.str "plan", .str "plan"]) = some (.v (.bl true)) := by
    have : deq (.tup [.str "plan", .str "plan"]) (.tup [.str "plan", .str "plan"]) = some true := OkD.deq_self (N := 2) (n := 1) (.tup (by decide) fun d hd => by
      simp only [List.mem_cons, List.not_mem_nil, or_false] at hd
      rcases hd with rfl | rfl
      · exact .str (by unfold Lay; decide +kernel)
      · exact .str (by unfold Lay; decide +kernel)) (by decide)
    unfold toB
    rw [this]
    rfl
  have dd : ∀ S : SS, sDisp1 (sV (.str "nobody")) (sV (.str "s0")) S = .ok (.f (planD (fun _ => "s0") [noB])) S := fun S => rfl
  have e16 : q16 (LS ns ds.dropLast cap Sl W O Rk true true f4 x5 x6 x7 x8 x9 x10 x11 x12 x13 x14 (.shr (rowsD (updR Rk s0 (Rk s0 ++ [noB])) Sl))) = .ok (.rt (.bl true) false) (LS ns ds.dropLast cap Sl W O Rk true true true x5 x6 x7 x8 x9 x10 x11 x12 x13 x14 (.shr (rowsD (updR Rk s0 (Rk s0 ++ [noB])) Sl))) := by
    cases f4 <;> simp [q16, rfC, LS, fzA, dd, ep, callK_frz, ff, dq]
  exact ⟨ds.dropLast, true, true, true, _, ok_sSeq e13 (ok_sSeq e14 (ok_sSeq e15 e16))⟩
end
end Lk75
namespace Lk75
open PySem PySem.Spec PyProof.Rows L2 L2.Dl
section
variable {cap : Str → Nat} {Sl : List Str} {W : Str → List Str} {O : List Str} {Rk : Str → List Str} {p q : Str → Str} {l k : List Str} {ns ds : List Int}
theorem sh_of (cap : Str → Nat) {n j : Nat} (hn : n ≤ 16) (hj : j ≤ 16) (hW : ∀ o, (W o).length ≤ 3 ∧ (W o).Nodup ∧ ∀ x ∈ W o, x ∈ namesS "s" n) : Sh cap (namesS "s" n) W (namesS "o" j) :=
  ⟨pfx_s.nodup hn, pfx_o.nodup hj, fun o _ => (hW o).2.1, fun o _ => (hW o).2.2, by simp; omega, by simp; omega, pfx_s.layAll hn, pfx_o.layAll hj⟩
theorem noB_nin {j : Nat} (hj : j ≤ 16) : noB ∉ namesS "o" j := by
  intro z
  obtain ⟨k, hk, e⟩ := List.mem_map.mp z
  have hk := List.mem_range.mp hk
  have : ∀ k : Nat, k < 16 → nmS "o" k ≠ noB := by decide +kernel
  exact this k (by omega) e
theorem given_of (h : ShR cap Sl W O Rk) (hW : ∀ o, (W o).Nodup) (off : ∀ s, s ∉ Sl → Rk s = []) : Gs.Given cap W O Rk where
  nW := hW
  nL := h.no
  nR s := by
    by_cases z : s ∈ Sl
    · exact (h.rk s z).nodup_iff.mpr (h.no.filter _)
    · rw [off s z]; exact List.nodup_nil
  rk o ho s hs := (h.mem_rk (h.ws o ho s hs) o).mpr ⟨ho, hs⟩
  rm s o ho := by
    by_cases z : s ∈ Sl
    · exact (h.mem_rk z o).mp ho
    · rw [off s z] at ho; cases ho
theorem sortS_idem (l : List Str) : sortS (sortS l) = sortS l := sortS_eq (sortS_perm l)
theorem Pl.sort (h : Pl W O p l) : Pl W O p (sortS l) := ⟨(sortS_perm l).nodup_iff.mpr h.nd, fun o ho => h.mem o (mem_sortS.mp ho)⟩
theorem mOf_sort : mOf p (sortS l) = mOf p l := funext fun o => by simp [mOf, mem_sortS]
noncomputable abbrev q1 : M Fl := sAsg 1 (callM [false, false, false] Fn__law_deck (sCons (sNm 0) (sCons (sV (.int 60)) (sCons (sV (.int 14)) sNil))))
noncomputable abbrev q2 : M Fl := (sAsg 2 (callM [true, false] Fn__law_places (sCons (sNm 1) (sCons (sV (.int 4)) sNil))))
noncomputable abbrev q3 : M Fl := (sAsg 3 (callM [true, false, false] Fn__law_wishes (sCons (sNm 1) (sCons (sV (.int 5)) (sCons (sNm 2) sNil)))))
noncomputable abbrev q4 : M Fl := (sAsg 4 (callM [true, false, false] Fn__law_ranks (sCons (sNm 1) (sCons (sNm 2) (sCons (sNm 3) sNil)))))
noncomputable abbrev q5 : M Fl := (sAsg 5 (callM [false, false] Fn__law_some_plans (sCons (sNm 2) (sCons (sNm 3) sNil))))
abbrev S0 (ns : List Int) (x1 x2 x3 : AV) : SS := [.shr (.scr ns), x1, x2, x3, .un, .un, .un, .un, .un, .un, .un, .un, .un, .un, .un, .un, .un, .un, .un, .un]
theorem LAW (ns : List Int) (hn : ns.length ≤ 63) : ∃ io, Fn_law [.scr ns] = .ret (.bl true) false io := by
  obtain ⟨ds0, e1⟩ := deck_run (ns := ns) (c := 60) (e := 14) (by decide) (by decide)
  have e1 : Fn__law_deck [.scr ns, .int 60, .int 14] = .ret (deckI ds0) true [] := e1
  obtain ⟨cap, ds1, n, e2, n0, n1, _⟩ := places_run (ds := ds0) (most := 4) (by decide) (by decide)
  have e2 : Fn__law_places [deckI ds0, .int 4] = .ret (placesD cap (namesS "s" n)) true [deckI ds1] := e2
  obtain ⟨W, ds2, j, e3, j1, hW⟩ := wishes_run (ds := ds1) (Sl := namesS "s" n) (most := 5) (cap := cap) (by decide) (by decide) (by simpa using n0)
  have e3 : Fn__law_wishes [deckI ds1, .int 5, placesD cap (namesS "s" n)] = .ret (rowsD W (namesS "o" j)) true [deckI ds2] := e3
  have h0 : Sh cap (namesS "s" n) W (namesS "o" j) := sh_of cap (by omega) (by omega) hW
  have nW : ∀ o, (W o).Nodup := fun o => (hW o).2.1
  have jl : (namesS "o" j).length = j := namesS_length _ _
  obtain ⟨Rk, ds3, e4, rk, off⟩ := ranks_run h0 ds2
  have h : ShR cap (namesS "s" n) W (namesS "o" j) Rk := ⟨h0, rk⟩
  have gv := given_of h nW off
  obtain ⟨fr, e5⟩ := plans_eq h0 (fun o => (hW o).1) (by omega)
  -- the state
  have s1 : q1 (S0 ns .un .un .un) = .ok .nx (S0 ns (.own none (deckI ds0)) .un .un) := by simp [q1, S0, e1]
  have s2 : q2 (S0 ns (.own none (deckI ds0)) .un .un) = .ok .nx (S0 ns (.own none (deckI ds1)) (.own none (placesD cap (namesS "s" n))) .un) := by simp [q2, S0, e2]
  have s3 : ∃ f2, q3 (S0 ns (.own none (deckI ds1)) (.own none (placesD cap (namesS "s" n))) .un) = .ok .nx (S0 ns (.own none (deckI ds2)) (fzA f2 (placesD cap (namesS "s" n))) (.own none (rowsD W (namesS "o" j)))) := by
    cases hfl : (flatR true (rowsD W (namesS "o" j)) && [deckI ds2].all D.flat) with
    | true => exact ⟨false, by simp [q3, S0, fzA, e3, callK_keep hfl]⟩
    | false => exact ⟨true, by simp [q3, S0, fzA, e3, callK_frz hfl]⟩
  obtain ⟨f2, s3⟩ := s3
  have s4 : ∃ g2 g3, q4 (S0 ns (.own none (deckI ds2)) (fzA f2 (placesD cap (namesS "s" n))) (.own none (rowsD W (namesS "o" j)))) = .ok .nx (LS ns ds3 cap (namesS "s" n) W (namesS "o" j) Rk g2 g3 false .un .un .un .un .un .un .un .un .un .un .un) := by
    cases hfl : (flatR true (rowsD Rk (namesS "s" n)) && [deckI ds3].all D.flat) with
    | true => exact ⟨f2, false, by cases f2 <;> simp [q4, S0, LS, fzA, e4, callK_keep hfl]⟩
    | false => exact ⟨true, true, by cases f2 <;> simp [q4, S0, LS, fzA, e4, callK_frz hfl]⟩
  obtain ⟨g2, g3, s4⟩ := s4
  have s5 : ∃ k2 k3 k5, q5 (LS ns ds3 cap (namesS "s" n) W (namesS "o" j) Rk g2 g3 false .un .un .un .un .un .un .un .un .un .un .un) = .ok .nx (LS ns ds3 cap (namesS "s" n) W (namesS "o" j) Rk k2 k3 false (fzA k5 (plansD (someP cap W (sortS (namesS "o" j))))) .un .un .un .un .un .un .un .un .un .un) := by
    cases hfl : flatR fr (plansD (someP cap W (sortS (namesS "o" j)))) with
    | true => exact ⟨g2, g3, !fr, by cases g2 <;> cases g3 <;> cases fr <;> simp [q5, LS, fzA, e5, callK_keep, hfl]⟩
    | false => exact ⟨true, true, !fr, by cases g2 <;> cases g3 <;> cases fr <;> simp [q5, LS, fzA, e5, callK_frz, hfl]⟩
  obtain ⟨k2, k3, k5, s5⟩ := s5
  -- all plans
  have no := h0.no
  have gd := good_all (cap := cap) (W := W) no
  have len : (someP cap W (sortS (namesS "o" j))).length ≤ 1000000 := by
    have q := someP_len (cap := cap) (fun o => (hW o).1) (sortS (namesS "o" j))
    have : 4 ^ (sortS (namesS "o" j)).length ≤ 4 ^ 5 := Nat.pow_le_pow_right (by decide) (by rw [length_sortS, jl]; omega)
    omega
  -- best and worst
  obtain ⟨pb, lb, e8, Pb, sb, best⟩ := stable_plan_eq h gv
  obtain ⟨pw, lw, e9, Pw, sw, worst⟩ := stable_for_slots_eq h gv h0.ws
  have Pb' : Pl W (namesS "o" j) pb (sortS lb) := Pb.sort
  have Pw' : Pl W (namesS "o" j) pw (sortS lw) := Pw.sort
  have mb : mOf pb (sortS lb) = mOf pb lb := mOf_sort
  have mw : mOf pw (sortS lw) = mOf pw lw := mOf_sort
  have cb := once no nW sb
  have cw := once no nW sw
  have ne : 0 < (someP cap W (sortS (namesS "o" j))).length := by
    have q := cb
    rw [List.countP_filter] at q
    have := List.countP_le_length (p := fun x => same (mOf pb lb) (sortS (namesS "o" j)) x && stb cap W Rk (namesS "o" j) x) (l := someP cap W (sortS (namesS "o" j)))
    omega
  obtain ⟨a2, a3, a4, s6⟩ := q6_eq (ns := ns) (ds := ds3) h gd len k2 k3 false k5 .un .un .un .un .un .un .un .un .un .un
  obtain ⟨ds4, c2, c3, c4, y7, y8, y9, s7⟩ := q7_loop (ns := ns) (ds := ds3) h gd ne a2 a3 a4 (.own none (plansD ((someP cap W (sortS (namesS "o" j))).filter (stb cap W Rk (namesS "o" j))))) .un .un .un .un .un .un .un .un .un
  have s8 := q8_eq (ns := ns) (ds := ds4) (kb := (pb, sortS lb)) e8 c2 c3 c4 (.shr (plansD (someP cap W (sortS (namesS "o" j))))) (.own none (plansD ((someP cap W (sortS (namesS "o" j))).filter (stb cap W Rk (namesS "o" j))))) y7 y8 y9 .un .un .un .un .un .un
  have s9 := q9_eq (ns := ns) (ds := ds4) (kb := (pw, sortS lw)) e9 c2 c3 c4 (.shr (plansD (someP cap W (sortS (namesS "o" j))))) (.own none (plansD ((someP cap W (sortS (namesS "o" j))).filter (stb cap W Rk (namesS "o" j))))) y7 y8 y9 (.own none (plD (pb, sortS lb))) .un .un .un .un .un
  have s10 := q10_eq (ns := ns) (ds := ds4) (cap := cap) (Sl := namesS "s" n) (W := W) (O := namesS "o" j) (Rk := Rk) (kb := (pb, sortS lb)) (kw := (pw, sortS lw)) (sortS_idem lb) (sortS_idem lw) (fun s hs => h0.yo s (Pb'.mem s hs).1) (fun s hs => h0.yo s (Pw'.mem s hs).1) c2 c3 c4 (.shr (plansD (someP cap W (sortS (namesS "o" j))))) (.own none (plansD ((someP cap W (sortS (namesS "o" j))).filter (stb cap W Rk (namesS "o" j))))) y7 y8 y9 .un .un .un .un
  have gG : ∀ q ∈ (someP cap W (sortS (namesS "o" j))).filter (stb cap W Rk (namesS "o" j)), Pl W (namesS "o" j) q.1 q.2 := fun q hq => (gd q (List.mem_filter.mp hq).1).1
  have lG : ((someP cap W (sortS (namesS "o" j))).filter (stb cap W Rk (namesS "o" j))).length ≤ 1000000 := Nat.le_trans (List.length_filter_le _ _) len
  have s11 := q11_eq (ns := ns) (ds := ds4) (Rk := Rk) (kb := (pb, sortS lb)) (kw := (pw, sortS lw)) h0 Pb' Pw' gG lG (by rw [show mOf (pb, sortS lb).1 (pb, sortS lb).2 = mOf pb lb from mb]; exact cb) (by rw [show mOf (pw, sortS lw).1 (pw, sortS lw).2 = mOf pw lw from mw]; exact cw) c2 c3 c4 false (.shr (plansD (someP cap W (sortS (namesS "o" j))))) y7 y8 y9 .un .un .un .un
  obtain ⟨d2, d10, d11, z8, z12, z13, z14, s12⟩ := q12_eq (ns := ns) (ds := ds4) (Rk := Rk) (kb := (pb, sortS lb)) (kw := (pw, sortS lw)) h0 Pb' Pw' (fun q hq => ⟨gG q hq, by
    obtain ⟨hq1, hq2⟩ := List.mem_filter.mp hq
    have gq := gd q hq1
    have sq := (stb_iff gq no).mp hq2
    exact alike h gv h0.ws Pb' Pw' gq (by rw [show mOf (pb, sortS lb).1 (pb, sortS lb).2 = mOf pb lb from mb]; exact sb) (by rw [show mOf (pw, sortS lw).1 (pw, sortS lw).2 = mOf pw lw from mw]; exact sw) sq
      (by rw [show mOf (pb, sortS lb).1 (pb, sortS lb).2 = mOf pb lb from mb]; exact best) (by rw [show mOf (pw, sortS lw).1 (pw, sortS lw).2 = mOf pw lw from mw]; exact worst)⟩) c2 c3 c4 (.shr (plansD (someP cap W (sortS (namesS "o" j))))) y7 y8 y9 .un .un .un .un
  obtain ⟨ds5, b2, b3, b4, y15, s13⟩ := last_eq (ns := ns) (ds := ds4) h (by simpa using n0) (noB_nin (by omega)) d2 c3 c4 (.shr (plansD (someP cap W (sortS (namesS "o" j))))) (.shr (plansD ((someP cap W (sortS (namesS "o" j))).filter (stb cap W Rk (namesS "o" j))))) y7 z8 y9 (fzA d10 (plD (pb, sortS lb))) (fzA d11 (plD (pw, sortS lw))) z12 z13 z14 .un
  refine ⟨[], ok_runF (f := sem_law) (ok_sSeq s1 (ok_sSeq s2 (ok_sSeq s3 (ok_sSeq s4 (ok_sSeq s5 (ok_sSeq s6 (ok_sSeq s7 (ok_sSeq s8 (ok_sSeq s9 (ok_sSeq s10 (ok_sSeq s11 (ok_sSeq s12 s13)))))))))))) rfl⟩
end
end Lk75
namespace Lk75
open PySem PySem.Spec PyProof.Rows L2 L2.Dl LamX NdefX
/-! ### the head -/
abbrev sti_InvalidSlot : Stmt := (clsBody (top 2)).getD 0 (.Pass ⟨0, 0, 0, 0⟩)
def di_InvalidSlot : He.DefD := ⟨("InvalidSlot", some "__init__"), "__init__", "InvalidSlot.__init__", defArgs sti_InvalidSlot, defBody sti_InvalidSlot, defScope sti_InvalidSlot, [], []⟩
theorem sci_InvalidSlot : FnScope ["self", "what"] ["self", "what"] (defScope sti_InvalidSlot) := ⟨rfl, rfl, rfl, by decide +kernel, rfl, by decide +kernel, by decide +kernel⟩
abbrev sti_TooMany : Stmt := (clsBody (top 5)).getD 0 (.Pass ⟨0, 0, 0, 0⟩)
def di_TooMany : He.DefD := ⟨("TooMany", some "__init__"), "__init__", "TooMany.__init__", defArgs sti_TooMany, defBody sti_TooMany, defScope sti_TooMany, [], []⟩
theorem sci_TooMany : FnScope ["self", "what"] ["self", "what"] (defScope sti_TooMany) := ⟨rfl, rfl, rfl, by decide +kernel, rfl, by decide +kernel, by decide +kernel⟩
abbrev sti_InvalidOrder : Stmt := (clsBody (top 3)).getD 0 (.Pass ⟨0, 0, 0, 0⟩)
def di_InvalidOrder : He.DefD := ⟨("InvalidOrder", some "__init__"), "__init__", "InvalidOrder.__init__", defArgs sti_InvalidOrder, defBody sti_InvalidOrder, defScope sti_InvalidOrder, [], []⟩
theorem sci_InvalidOrder : FnScope ["self", "what"] ["self", "what"] (defScope sti_InvalidOrder) := ⟨rfl, rfl, rfl, by decide +kernel, rfl, by decide +kernel, by decide +kernel⟩
abbrev sti_InvalidPlan : Stmt := (clsBody (top 4)).getD 0 (.Pass ⟨0, 0, 0, 0⟩)
def di_InvalidPlan : He.DefD := ⟨("InvalidPlan", some "__init__"), "__init__", "InvalidPlan.__init__", defArgs sti_InvalidPlan, defBody sti_InvalidPlan, defScope sti_InvalidPlan, [], []⟩
theorem sci_InvalidPlan : FnScope ["self", "what"] ["self", "what"] (defScope sti_InvalidPlan) := ⟨rfl, rfl, rfl, by decide +kernel, rfl, by decide +kernel, by decide +kernel⟩
def d_holders : He.DefD := ⟨("holders", none), "holders", "holders", defArgs st_holders, defBody st_holders, defScope st_holders, [], []⟩
def d_check_wishes : He.DefD := ⟨("check_wishes", none), "check_wishes", "check_wishes", defArgs st_check_wishes, defBody st_check_wishes, defScope st_check_wishes, [], []⟩
def d_check_ranks : He.DefD := ⟨("check_ranks", none), "check_ranks", "check_ranks", defArgs st_check_ranks, defBody st_check_ranks, defScope st_check_ranks, [], []⟩
def d_place_in : He.DefD := ⟨("place_in", none), "place_in", "place_in", defArgs st_place_in, defBody st_place_in, defScope st_place_in, [], []⟩
def d_stable_plan : He.DefD := ⟨("stable_plan", none), "stable_plan", "stable_plan", defArgs st_stable_plan, defBody st_stable_plan, defScope st_stable_plan, [], []⟩
def d_likes_more : He.DefD := ⟨("likes_more", none), "likes_more", "likes_more", defArgs st_likes_more, defBody st_likes_more, defScope st_likes_more, [], []⟩
def d_stable_for_slots : He.DefD := ⟨("stable_for_slots", none), "stable_for_slots", "stable_for_slots", defArgs st_stable_for_slots, defBody st_stable_for_slots, defScope st_stable_for_slots, [], []⟩
def d_is_plan : He.DefD := ⟨("is_plan", none), "is_plan", "is_plan", defArgs st_is_plan, defBody st_is_plan, defScope st_is_plan, [], []⟩
def d_blocking_pairs : He.DefD := ⟨("blocking_pairs", none), "blocking_pairs", "blocking_pairs", defArgs st_blocking_pairs, defBody st_blocking_pairs, defScope st_blocking_pairs, [], []⟩
def d__law_deck : He.DefD := ⟨("_law_deck", none), "_law_deck", "_law_deck", defArgs st__law_deck, defBody st__law_deck, defScope st__law_deck, [], []⟩
def d__law_take : He.DefD := ⟨("_law_take", none), "_law_take", "_law_take", defArgs st__law_take, defBody st__law_take, defScope st__law_take, [], []⟩
def d__law_plain : He.DefD := ⟨("_law_plain", none), "_law_plain", "_law_plain", defArgs st__law_plain, defBody st__law_plain, defScope st__law_plain, [], []⟩
def d__law_places : He.DefD := ⟨("_law_places", none), "_law_places", "_law_places", defArgs st__law_places, defBody st__law_places, defScope st__law_places, [], []⟩
def d__law_wishes : He.DefD := ⟨("_law_wishes", none), "_law_wishes", "_law_wishes", defArgs st__law_wishes, defBody st__law_wishes, defScope st__law_wishes, [], []⟩
def d__law_some_plans : He.DefD := ⟨("_law_some_plans", none), "_law_some_plans", "_law_some_plans", defArgs st__law_some_plans, defBody st__law_some_plans, defScope st__law_some_plans, [], []⟩
def d__law_blocking : He.DefD := ⟨("_law_blocking", none), "_law_blocking", "_law_blocking", defArgs st__law_blocking, defBody st__law_blocking, defScope st__law_blocking, [], []⟩
def d__law_ranks : He.DefD := ⟨("_law_ranks", none), "_law_ranks", "_law_ranks", defArgs st__law_ranks, defBody st__law_ranks, defScope st__law_ranks, [], []⟩
def d__law_places_of : He.DefD := ⟨("_law_places_of", none), "_law_places_of", "_law_places_of", defArgs st__law_places_of, defBody st__law_places_of, defScope st__law_places_of, [], []⟩
def d__law_refusal : He.DefD := ⟨("_law_refusal", none), "_law_refusal", "_law_refusal", defArgs st__law_refusal, defBody st__law_refusal, defScope st__law_refusal, [], []⟩
def d_law : He.DefD := ⟨("law", none), "law", "law", defArgs st_law, defBody st_law, defScope st_law, [], []⟩
def fn : List He.DefD := [d_holders, d_check_wishes, d_check_ranks, d_place_in, d_stable_plan, d_likes_more, d_stable_for_slots, d_is_plan, d_blocking_pairs, d__law_deck, d__law_take, d__law_plain, d__law_places, d__law_wishes, d__law_some_plans, d__law_blocking, d__law_ranks, d__law_places_of, d__law_refusal, d_law, di_InvalidSlot, di_TooMany, di_InvalidOrder, di_InvalidPlan]
def fa : List He.Fa := ([.glo "holders", .glo "check_wishes", .glo "check_ranks", .glo "place_in", .glo "stable_plan", .glo "likes_more", .glo "stable_for_slots", .glo "is_plan", .glo "blocking_pairs", .glo "_law_deck", .glo "_law_take", .glo "_law_plain", .glo "_law_places", .glo "_law_wishes", .glo "_law_some_plans", .glo "_law_blocking", .glo "_law_ranks", .glo "_law_places_of", .glo "_law_refusal", .glo "law", .free "abs", .free "bool", .free "dict", .free "int", .free "isinstance", .free "len", .free "list", .free "range", .free "set", .free "sorted"] : List He.Fa) ++ ([.free "str", .free "tuple", .free "zip", .glo "SlotError", .glo "InvalidSlot", .glo "TooMany", .glo "InvalidOrder", .glo "InvalidPlan", .int "MOST_ORDERS" (400)] : List He.Fa)
def tfq : List (He.Defn × Str) := [(("stable_plan", none), ("stable_plan" : Str) ++ ".<locals>." ++ "<lambda>")]
def tf : List He.Defn := [("stable_plan", none)]
def cls : List Str := ["InvalidSlot", "TooMany", "InvalidOrder", "InvalidPlan"]
def names : List Str := (["SlotError", "InvalidSlot", "InvalidOrder", "InvalidPlan", "TooMany", "MOST_ORDERS", "check_wishes", "holders", "is_plan", "check_ranks", "place_in", "stable_plan", "likes_more", "stable_for_slots", "blocking_pairs", "_law_deck", "_law_take", "_law_plain", "_law_places", "_law_wishes", "_law_some_plans", "_law_blocking", "_law_ranks", "_law_places_of", "_law_refusal"] : List Str)
abbrev R : PySem.W.OpenRow := PySem.W.OpenLaw.row PySem.Challenge.rw_slotwork_k75_whole_stable_plans
abbrev hk : PySem.W.Hook := L2.Dl.hookY 6 fa fn tf (exE tf "SlotError" cls)
def ob (s : PySem.W.SharedT) : He.AlX := L2.Dl.obsY 6 fa fn tf (exE tf "SlotError" cls) (HandSHeadRun.getT s)
theorem ob_eq (s : PySem.W.SharedT) : ob s = hk.obs s.abs := L2.Dl.obsY_eq (HandSHeadRun.getT_eq s)
theorem run (w : World) : HandSHeadRun.RunEq R (PySem.W.view R.prog [29]) hk ob 8000 names w := by
  intro os
  kernel_rfl
theorem law_at {w : World} {K : PySem.W.Frag} {h : Heap} {mg : Str → Option Value} {f : Addr} (X : K.In h) (G : h.Ns mainGlobals mg) (hfa : mg ("law" : Str) = some (.ref f)) (c : He.SaysX fa fn [] tf (exE tf "SlotError" cls) w h K)
    (LAW : ∀ ns : List Int, ns.length ≤ 63 → ∃ io, Fn_law [.scr ns] = .ret (.bl true) false io) : LamX.LawAtS PySem.Challenge.rw_slotwork_k75_whole_stable_plans w K (L2.CX PySem.Challenge.rw_slotwork_k75_whole_stable_plans.prog w) 9 63 "script" mg f h := by
  have c1 : He.SaysD fa fn K := c.t.d
  obtain ⟨fd_holders, F_holders⟩ := c1.def_ 0 (d := d_holders) rfl
  obtain ⟨fd_check_wishes, F_check_wishes⟩ := c1.def_ 1 (d := d_check_wishes) rfl
  obtain ⟨fd_check_ranks, F_check_ranks⟩ := c1.def_ 2 (d := d_check_ranks) rfl
  obtain ⟨fd_place_in, F_place_in⟩ := c1.def_ 3 (d := d_place_in) rfl
  obtain ⟨fd_stable_plan, F_stable_plan⟩ := c1.def_ 4 (d := d_stable_plan) rfl
  obtain ⟨fd_likes_more, F_likes_more⟩ := c1.def_ 5 (d := d_likes_more) rfl
  obtain ⟨fd_stable_for_slots, F_stable_for_slots⟩ := c1.def_ 6 (d := d_stable_for_slots) rfl
  obtain ⟨fd_is_plan, F_is_plan⟩ := c1.def_ 7 (d := d_is_plan) rfl
  obtain ⟨fd_blocking_pairs, F_blocking_pairs⟩ := c1.def_ 8 (d := d_blocking_pairs) rfl
  obtain ⟨fd__law_deck, F__law_deck⟩ := c1.def_ 9 (d := d__law_deck) rfl
  obtain ⟨fd__law_take, F__law_take⟩ := c1.def_ 10 (d := d__law_take) rfl
  obtain ⟨fd__law_plain, F__law_plain⟩ := c1.def_ 11 (d := d__law_plain) rfl
  obtain ⟨fd__law_places, F__law_places⟩ := c1.def_ 12 (d := d__law_places) rfl
  obtain ⟨fd__law_wishes, F__law_wishes⟩ := c1.def_ 13 (d := d__law_wishes) rfl
  obtain ⟨fd__law_some_plans, F__law_some_plans⟩ := c1.def_ 14 (d := d__law_some_plans) rfl
  obtain ⟨fd__law_blocking, F__law_blocking⟩ := c1.def_ 15 (d := d__law_blocking) rfl
  obtain ⟨fd__law_ranks, F__law_ranks⟩ := c1.def_ 16 (d := d__law_ranks) rfl
  obtain ⟨fd__law_places_of, F__law_places_of⟩ := c1.def_ 17 (d := d__law_places_of) rfl
  obtain ⟨fd__law_refusal, F__law_refusal⟩ := c1.def_ 18 (d := d__law_refusal) rfl
  obtain ⟨fd_law, F_law⟩ := c1.def_ 19 (d := d_law) rfl
  have g_holders : mg "holders" = some (.ref (He.ga K "holders")) := He.glo_ok X G (c1.fact 0 (f := .glo "holders") rfl)
  have g_check_wishes : mg "check_wishes" = some (.ref (He.ga K "check_wishes")) := He.glo_ok X G (c1.fact 1 (f := .glo "check_wishes") rfl)
  have g_check_ranks : mg "check_ranks" = some (.ref (He.ga K "check_ranks")) := He.glo_ok X G (c1.fact 2 (f := .glo "check_ranks") rfl)
  have g_place_in : mg "place_in" = some (.ref (He.ga K "place_in")) := He.glo_ok X G (c1.fact 3 (f := .glo "place_in") rfl)
  have g_stable_plan : mg "stable_plan" = some (.ref (He.ga K "stable_plan")) := He.glo_ok X G (c1.fact 4 (f := .glo "stable_plan") rfl)
  have g_likes_more : mg "likes_more" = some (.ref (He.ga K "likes_more")) := He.glo_ok X G (c1.fact 5 (f := .glo "likes_more") rfl)
  have g_stable_for_slots : mg "stable_for_slots" = some (.ref (He.ga K "stable_for_slots")) := He.glo_ok X G (c1.fact 6 (f := .glo "stable_for_slots") rfl)
  have g_is_plan : mg "is_plan" = some (.ref (He.ga K "is_plan")) := He.glo_ok X G (c1.fact 7 (f := .glo "is_plan") rfl)
  have g_blocking_pairs : mg "blocking_pairs" = some (.ref (He.ga K "blocking_pairs")) := He.glo_ok X G (c1.fact 8 (f := .glo "blocking_pairs") rfl)
  have g__law_deck : mg "_law_deck" = some (.ref (He.ga K "_law_deck")) := He.glo_ok X G (c1.fact 9 (f := .glo "_law_deck") rfl)
  have g__law_take : mg "_law_take" = some (.ref (He.ga K "_law_take")) := He.glo_ok X G (c1.fact 10 (f := .glo "_law_take") rfl)
  have g__law_plain : mg "_law_plain" = some (.ref (He.ga K "_law_plain")) := He.glo_ok X G (c1.fact 11 (f := .glo "_law_plain") rfl)
  have g__law_places : mg "_law_places" = some (.ref (He.ga K "_law_places")) := He.glo_ok X G (c1.fact 12 (f := .glo "_law_places") rfl)
  have g__law_wishes : mg "_law_wishes" = some (.ref (He.ga K "_law_wishes")) := He.glo_ok X G (c1.fact 13 (f := .glo "_law_wishes") rfl)
  have g__law_some_plans : mg "_law_some_plans" = some (.ref (He.ga K "_law_some_plans")) := He.glo_ok X G (c1.fact 14 (f := .glo "_law_some_plans") rfl)
  have g__law_blocking : mg "_law_blocking" = some (.ref (He.ga K "_law_blocking")) := He.glo_ok X G (c1.fact 15 (f := .glo "_law_blocking") rfl)
  have g__law_ranks : mg "_law_ranks" = some (.ref (He.ga K "_law_ranks")) := He.glo_ok X G (c1.fact 16 (f := .glo "_law_ranks") rfl)
  have g__law_places_of : mg "_law_places_of" = some (.ref (He.ga K "_law_places_of")) := He.glo_ok X G (c1.fact 17 (f := .glo "_law_places_of") rfl)
  have g__law_refusal : mg "_law_refusal" = some (.ref (He.ga K "_law_refusal")) := He.glo_ok X G (c1.fact 18 (f := .glo "_law_refusal") rfl)
  have g_law : mg "law" = some (.ref (He.ga K "law")) := He.glo_ok X G (c1.fact 19 (f := .glo "law") rfl)
  obtain ⟨fi_InvalidSlot, FI_InvalidSlot⟩ := c1.def_ 20 (d := di_InvalidSlot) rfl
  obtain ⟨fi_TooMany, FI_TooMany⟩ := c1.def_ 21 (d := di_TooMany) rfl
  obtain ⟨fi_InvalidOrder, FI_InvalidOrder⟩ := c1.def_ 22 (d := di_InvalidOrder) rfl
  obtain ⟨fi_InvalidPlan, FI_InvalidPlan⟩ := c1.def_ 23 (d := di_InvalidPlan) rfl
  have g_SlotError : mg "SlotError" = some (.ref (He.ga K "SlotError")) := He.glo_ok X G (c1.fact 33 (f := .glo "SlotError") rfl)
  have g_InvalidSlot : mg "InvalidSlot" = some (.ref (He.ga K "InvalidSlot")) := He.glo_ok X G (c1.fact 34 (f := .glo "InvalidSlot") rfl)
  have g_TooMany : mg "TooMany" = some (.ref (He.ga K "TooMany")) := He.glo_ok X G (c1.fact 35 (f := .glo "TooMany") rfl)
  have g_InvalidOrder : mg "InvalidOrder" = some (.ref (He.ga K "InvalidOrder")) := He.glo_ok X G (c1.fact 36 (f := .glo "InvalidOrder") rfl)
  have g_InvalidPlan : mg "InvalidPlan" = some (.ref (He.ga K "InvalidPlan")) := He.glo_ok X G (c1.fact 37 (f := .glo "InvalidPlan") rfl)
  have T : TopF mg := ⟨He.free_ok X G (c1.fact 20 (f := .free "abs") rfl),
    He.free_ok X G (c1.fact 21 (f := .free "bool") rfl),
    He.free_ok X G (c1.fact 22 (f := .free "dict") rfl),
    He.free_ok X G (c1.fact 23 (f := .free "int") rfl),
    He.free_ok X G (c1.fact 24 (f := .free "isinstance") rfl),
    He.free_ok X G (c1.fact 25 (f := .free "len") rfl),
    He.free_ok X G (c1.fact 26 (f := .free "list") rfl),
    He.free_ok X G (c1.fact 27 (f := .free "range") rfl),
    He.free_ok X G (c1.fact 28 (f := .free "set") rfl),
    He.free_ok X G (c1.fact 29 (f := .free "sorted") rfl),
    He.free_ok X G (c1.fact 30 (f := .free "str") rfl),
    He.free_ok X G (c1.fact 31 (f := .free "tuple") rfl),
    He.free_ok X G (c1.fact 32 (f := .free "zip") rfl),
    He.int_ok X G (c1.fact 38 (f := .int "MOST_ORDERS" (400)) rfl)⟩
  have EF : ExF K tf "SlotError" cls := exE_ok c.more
  have e := hfa.symm.trans g_law
  cases e
  have b := FunD.bindsA (ps := ["script"]) F_law fun _ _ _ _ _ _ us hl => match us, hl with | [_], _ => rfl
  refine law_atD (tf := tf) (br := brOf K cls tfq) (Fn := Fn_law) X (fun s v => b s [v] rfl) c.hd c.out c.empty (by rfl) EF.tabs LAW fun base _ _ TB => ?_
  have e_InvalidSlot : ErrC PySem.Challenge.rw_slotwork_k75_whole_stable_plans.prog w K mg base (brOf K cls tfq) 0 "InvalidSlot" "invalid slot: " := errC_of EF (by rfl) (by decide +kernel) g_InvalidSlot (init_of FI_InvalidSlot sci_InvalidSlot fun cdv A outer s H E => pss_cons (ps_expr (pe_baseinit EF.base g_SlotError (pa_cons (pv 0) (pa_cons (pe_op op_add_str pe_str (pv 1)) pa_nil)))) (pss_one (ps_ost (pv 0) (pv 1)))) (FI_InvalidSlot.bindsN fun _ _ _ _ _ _ us hl => match us, hl with | [_, _], _ => rfl)
  have hd_InvalidSlot : HdC K mg (brOf K cls tfq) 0 "InvalidSlot" := hdC_of EF (by rfl) (by decide +kernel) g_InvalidSlot
  have e_TooMany : ErrC PySem.Challenge.rw_slotwork_k75_whole_stable_plans.prog w K mg base (brOf K cls tfq) 1 "TooMany" "too many " := errC_of EF (by rfl) (by decide +kernel) g_TooMany (init_of FI_TooMany sci_TooMany fun cdv A outer s H E => pss_cons (ps_expr (pe_baseinit EF.base g_SlotError (pa_cons (pv 0) (pa_cons (pe_op op_add_str pe_str (pv 1)) pa_nil)))) (pss_one (ps_ost (pv 0) (pv 1)))) (FI_TooMany.bindsN fun _ _ _ _ _ _ us hl => match us, hl with | [_, _], _ => rfl)
  have hd_TooMany : HdC K mg (brOf K cls tfq) 1 "TooMany" := hdC_of EF (by rfl) (by decide +kernel) g_TooMany
  have e_InvalidOrder : ErrC PySem.Challenge.rw_slotwork_k75_whole_stable_plans.prog w K mg base (brOf K cls tfq) 2 "InvalidOrder" "invalid order: " := errC_of EF (by rfl) (by decide +kernel) g_InvalidOrder (init_of FI_InvalidOrder sci_InvalidOrder fun cdv A outer s H E => pss_cons (ps_expr (pe_baseinit EF.base g_SlotError (pa_cons (pv 0) (pa_cons (pe_op op_add_str pe_str (pv 1)) pa_nil)))) (pss_one (ps_ost (pv 0) (pv 1)))) (FI_InvalidOrder.bindsN fun _ _ _ _ _ _ us hl => match us, hl with | [_, _], _ => rfl)
  have hd_InvalidOrder : HdC K mg (brOf K cls tfq) 2 "InvalidOrder" := hdC_of EF (by rfl) (by decide +kernel) g_InvalidOrder
  have e_InvalidPlan : ErrC PySem.Challenge.rw_slotwork_k75_whole_stable_plans.prog w K mg base (brOf K cls tfq) 3 "InvalidPlan" "invalid plan: " := errC_of EF (by rfl) (by decide +kernel) g_InvalidPlan (init_of FI_InvalidPlan sci_InvalidPlan fun cdv A outer s H E => pss_cons (ps_expr (pe_baseinit EF.base g_SlotError (pa_cons (pv 0) (pa_cons (pe_op op_add_str pe_str (pv 1)) pa_nil)))) (pss_one (ps_ost (pv 0) (pv 1)))) (FI_InvalidPlan.bindsN fun _ _ _ _ _ _ us hl => match us, hl with | [_, _], _ => rfl)
  have hd_InvalidPlan : HdC K mg (brOf K cls tfq) 3 "InvalidPlan" := hdC_of EF (by rfl) (by decide +kernel) g_InvalidPlan
  have xm : XM K (brOf K cls tfq) cls.length := xm_of EF
  have h_holders : Cl PySem.Challenge.rw_slotwork_k75_whole_stable_plans.prog w K mg base (brOf K cls tfq) "holders" ["plan", "slot"] [false, false] 1 Fn_holders := ⟨_, fd_holders, ok_holders (br := brOf K cls tfq) F_holders T, g_holders, F_holders.kp, F_holders.bindsN fun _ _ _ _ _ _ us hl => match us, hl with | [_, _], _ => rfl⟩
  have h_check_wishes : Cl PySem.Challenge.rw_slotwork_k75_whole_stable_plans.prog w K mg base (brOf K cls tfq) "check_wishes" ["places", "wishes"] [false, false] 3 Fn_check_wishes := ⟨_, fd_check_wishes, ok_check_wishes (br := brOf K cls tfq) F_check_wishes T e_InvalidSlot e_InvalidOrder e_TooMany, g_check_wishes, F_check_wishes.kp, F_check_wishes.bindsN fun _ _ _ _ _ _ us hl => match us, hl with | [_, _], _ => rfl⟩
  have h_check_ranks : Cl PySem.Challenge.rw_slotwork_k75_whole_stable_plans.prog w K mg base (brOf K cls tfq) "check_ranks" ["places", "wishes", "ranks"] [false, false, false] 4 Fn_check_ranks := ⟨_, fd_check_ranks, ok_check_ranks (br := brOf K cls tfq) F_check_ranks T h_check_wishes e_InvalidOrder, g_check_ranks, F_check_ranks.kp, F_check_ranks.bindsN fun _ _ _ _ _ _ us hl => match us, hl with | [_, _, _], _ => rfl⟩
  have h_place_in : Cl PySem.Challenge.rw_slotwork_k75_whole_stable_plans.prog w K mg base (brOf K cls tfq) "place_in" ["row", "item"] [false, false] 1 Fn_place_in := ⟨_, fd_place_in, ok_place_in (br := brOf K cls tfq) F_place_in T, g_place_in, F_place_in.kp, F_place_in.bindsN fun _ _ _ _ _ _ us hl => match us, hl with | [_, _], _ => rfl⟩
  have h_stable_plan : Cl PySem.Challenge.rw_slotwork_k75_whole_stable_plans.prog w K mg base (brOf K cls tfq) "stable_plan" ["places", "wishes", "ranks"] [false, false, false] 5 Fn_stable_plan := ⟨_, fd_stable_plan, ok_stable_plan (br := brOf K cls tfq) F_stable_plan T h_check_ranks h_holders h_place_in (TB ("stable_plan", none) (.head _)) (code_of F_stable_plan) (List.mem_map.mpr ⟨(("stable_plan", none), ("stable_plan" : Str) ++ ".<locals>." ++ "<lambda>"), (.head _), rfl⟩), g_stable_plan, F_stable_plan.kp, F_stable_plan.bindsN fun _ _ _ _ _ _ us hl => match us, hl with | [_, _, _], _ => rfl⟩
  have h_likes_more : Cl PySem.Challenge.rw_slotwork_k75_whole_stable_plans.prog w K mg base (brOf K cls tfq) "likes_more" ["wishes", "plan", "order", "slot"] [false, false, false, false] 2 Fn_likes_more := ⟨_, fd_likes_more, ok_likes_more (br := brOf K cls tfq) F_likes_more T h_place_in, g_likes_more, F_likes_more.kp, F_likes_more.bindsN fun _ _ _ _ _ _ us hl => match us, hl with | [_, _, _, _], _ => rfl⟩
  have h_stable_for_slots : Cl PySem.Challenge.rw_slotwork_k75_whole_stable_plans.prog w K mg base (brOf K cls tfq) "stable_for_slots" ["places", "wishes", "ranks"] [false, false, false] 5 Fn_stable_for_slots := ⟨_, fd_stable_for_slots, ok_stable_for_slots (br := brOf K cls tfq) F_stable_for_slots T h_check_ranks h_holders h_likes_more, g_stable_for_slots, F_stable_for_slots.kp, F_stable_for_slots.bindsN fun _ _ _ _ _ _ us hl => match us, hl with | [_, _, _], _ => rfl⟩
  have h_is_plan : Cl PySem.Challenge.rw_slotwork_k75_whole_stable_plans.prog w K mg base (brOf K cls tfq) "is_plan" ["places", "wishes", "plan"] [false, false, false] 2 Fn_is_plan := ⟨_, fd_is_plan, ok_is_plan (br := brOf K cls tfq) F_is_plan T h_holders, g_is_plan, F_is_plan.kp, F_is_plan.bindsN fun _ _ _ _ _ _ us hl => match us, hl with | [_, _, _], _ => rfl⟩
  have h_blocking_pairs : Cl PySem.Challenge.rw_slotwork_k75_whole_stable_plans.prog w K mg base (brOf K cls tfq) "blocking_pairs" ["places", "wishes", "ranks", "plan"] [false, false, false, false] 5 Fn_blocking_pairs := ⟨_, fd_blocking_pairs, ok_blocking_pairs (br := brOf K cls tfq) F_blocking_pairs T h_check_ranks h_is_plan h_likes_more h_holders h_place_in e_InvalidPlan, g_blocking_pairs, F_blocking_pairs.kp, F_blocking_pairs.bindsN fun _ _ _ _ _ _ us hl => match us, hl with | [_, _, _, _], _ => rfl⟩
  have h__law_deck : Cl PySem.Challenge.rw_slotwork_k75_whole_stable_plans.prog w K mg base (brOf K cls tfq) "_law_deck" ["script", "cells", "each"] [false, false, false] 1 Fn__law_deck := ⟨_, fd__law_deck, ok__law_deck (br := brOf K cls tfq) F__law_deck T, g__law_deck, F__law_deck.kp, F__law_deck.bindsN fun _ _ _ _ _ _ us hl => match us, hl with | [_, _, _], _ => rfl⟩
  have h__law_take : Cl PySem.Challenge.rw_slotwork_k75_whole_stable_plans.prog w K mg base (brOf K cls tfq) "_law_take" ["deck", "many"] [true, false] 1 Fn__law_take := ⟨_, fd__law_take, ok__law_take (br := brOf K cls tfq) F__law_take T, g__law_take, F__law_take.kp, F__law_take.bindsN fun _ _ _ _ _ _ us hl => match us, hl with | [_, _], _ => rfl⟩
  have hr__law_plain : ∀ n, Cl PySem.Challenge.rw_slotwork_k75_whole_stable_plans.prog w K mg base (brOf K cls tfq) "_law_plain" ["value"] [false] (n + 0) (Fn__law_plain n) := by
    intro n
    induction n with
    | zero => exact ⟨_, fd__law_plain, fn_zero, g__law_plain, F__law_plain.kp, F__law_plain.bindsN fun _ _ _ _ _ _ us hl => match us, hl with | [_], _ => rfl⟩
    | succ n ih => exact ⟨_, fd__law_plain, (ok__law_plain (br := brOf K cls tfq) F__law_plain T ih).mono (by omega), g__law_plain, F__law_plain.kp, F__law_plain.bindsN fun _ _ _ _ _ _ us hl => match us, hl with | [_], _ => rfl⟩
  have h__law_plain : Cl PySem.Challenge.rw_slotwork_k75_whole_stable_plans.prog w K mg base (brOf K cls tfq) "_law_plain" ["value"] [false] 8 (Fn__law_plain 8) := hr__law_plain 8
  have h__law_places : Cl PySem.Challenge.rw_slotwork_k75_whole_stable_plans.prog w K mg base (brOf K cls tfq) "_law_places" ["deck", "most"] [true, false] 2 Fn__law_places := ⟨_, fd__law_places, ok__law_places (br := brOf K cls tfq) F__law_places T h__law_take, g__law_places, F__law_places.kp, F__law_places.bindsN fun _ _ _ _ _ _ us hl => match us, hl with | [_, _], _ => rfl⟩
  have h__law_wishes : Cl PySem.Challenge.rw_slotwork_k75_whole_stable_plans.prog w K mg base (brOf K cls tfq) "_law_wishes" ["deck", "most", "places"] [true, false, false] 2 Fn__law_wishes := ⟨_, fd__law_wishes, ok__law_wishes (br := brOf K cls tfq) F__law_wishes T h__law_take, g__law_wishes, F__law_wishes.kp, F__law_wishes.bindsN fun _ _ _ _ _ _ us hl => match us, hl with | [_, _, _], _ => rfl⟩
  have h__law_some_plans : Cl PySem.Challenge.rw_slotwork_k75_whole_stable_plans.prog w K mg base (brOf K cls tfq) "_law_some_plans" ["places", "wishes"] [false, false] 1 Fn__law_some_plans := ⟨_, fd__law_some_plans, ok__law_some_plans (br := brOf K cls tfq) F__law_some_plans T, g__law_some_plans, F__law_some_plans.kp, F__law_some_plans.bindsN fun _ _ _ _ _ _ us hl => match us, hl with | [_, _], _ => rfl⟩
  have h__law_blocking : Cl PySem.Challenge.rw_slotwork_k75_whole_stable_plans.prog w K mg base (brOf K cls tfq) "_law_blocking" ["places", "wishes", "ranks", "plan"] [false, false, false, false] 1 Fn__law_blocking := ⟨_, fd__law_blocking, ok__law_blocking (br := brOf K cls tfq) F__law_blocking T, g__law_blocking, F__law_blocking.kp, F__law_blocking.bindsN fun _ _ _ _ _ _ us hl => match us, hl with | [_, _, _, _], _ => rfl⟩
  have h__law_ranks : Cl PySem.Challenge.rw_slotwork_k75_whole_stable_plans.prog w K mg base (brOf K cls tfq) "_law_ranks" ["deck", "places", "wishes"] [true, false, false] 2 Fn__law_ranks := ⟨_, fd__law_ranks, ok__law_ranks (br := brOf K cls tfq) F__law_ranks T h__law_take, g__law_ranks, F__law_ranks.kp, F__law_ranks.bindsN fun _ _ _ _ _ _ us hl => match us, hl with | [_, _, _], _ => rfl⟩
  have h__law_places_of : Cl PySem.Challenge.rw_slotwork_k75_whole_stable_plans.prog w K mg base (brOf K cls tfq) "_law_places_of" ["wishes", "plan"] [false, false] 1 Fn__law_places_of := ⟨_, fd__law_places_of, ok__law_places_of (br := brOf K cls tfq) F__law_places_of T, g__law_places_of, F__law_places_of.kp, F__law_places_of.bindsN fun _ _ _ _ _ _ us hl => match us, hl with | [_, _], _ => rfl⟩
  have h__law_refusal : Cl PySem.Challenge.rw_slotwork_k75_whole_stable_plans.prog w K mg base (brOf K cls tfq) "_law_refusal" ["ask", "places", "wishes", "ranks", "plan"] [false, false, false, false, false] 6 Fn__law_refusal := ⟨_, fd__law_refusal, ok__law_refusal (br := brOf K cls tfq) F__law_refusal T h_stable_plan h_stable_for_slots h_blocking_pairs hd_InvalidOrder hd_InvalidPlan xm, g__law_refusal, F__law_refusal.kp, F__law_refusal.bindsN fun _ _ _ _ _ _ us hl => match us, hl with | [_, _, _, _, _], _ => rfl⟩
  exact ok_law (br := brOf K cls tfq) F_law T h__law_deck h__law_places h__law_wishes h__law_ranks h__law_some_plans h__law_blocking h__law_take h_blocking_pairs h__law_plain h_stable_plan h_stable_for_slots h__law_places_of h__law_refusal
end Lk75
open PySem PySem.W PySem.Calls PyProof.Rows in
theorem Lk75.holds_of (LAW : ∀ ns : List Int, ns.length ≤ 63 → ∃ io, Lk75.Fn_law [.scr ns] = .ret (.bl true) false io) : PySem.Challenge.rw_slotwork_k75_whole_stable_plans.Holds := by
  w_on; o_law
  refine HandSHeadRun.head_any (r := OpenLaw.row PySem.Challenge.rw_slotwork_k75_whole_stable_plans) (q := view (OpenLaw.row PySem.Challenge.rw_slotwork_k75_whole_stable_plans).prog [29]) (H := Lk75.hk) (ob := Lk75.ob) (M := 8000) (loose := Lk75.names) (d := HandSHeadRun.topDef (OpenLaw.row PySem.Challenge.rw_slotwork_k75_whole_stable_plans).prog 29) (kwd := []) Lk75.ob_eq
    (by kernel_rfl) (fun s => by kernel_rfl) Lk75.run (by kernel_rfl) (by kernel_rfl) (by kernel_rfl) (by rfl) (by first | assumption | decide +kernel) (by decide +kernel) ⟨rfl, rfl, rfl, rfl, rfl, by decide +kernel⟩ ?hw ?hc
  case hw => w_witness2
  case hc =>
    refine LamX.walk_ofTsE (l := PySem.Challenge.rw_slotwork_k75_whole_stable_plans) (n := 63) (k := 9) (x := "script") (CX := L2.CX PySem.Challenge.rw_slotwork_k75_whole_stable_plans.prog) rfl (by decide) (by kernel_rfl) ⟨rfl, by decide, by decide⟩ ?F (fun w H s e s' z => L2.Dl.hCX0 _ w H s e s' z)
    intro w mg fa h Y G hmg0
    obtain ⟨K, KX, c⟩ := Y
    have hmg : mg ("law" : PySem.Str) = some (.ref fa) := by
      have e : (HandSHeadRun.topDef (OpenLaw.row PySem.Challenge.rw_slotwork_k75_whole_stable_plans).prog 29).name = ("law" : PySem.Str) := by kernel_rfl
      rw [← e]
      exact hmg0
    exact ⟨K, KX, Lk75.law_at KX G hmg c LAW⟩
theorem PySem.Challenge.cw_slotwork_k75_whole_stable_plans_holds : PySem.Challenge.rw_slotwork_k75_whole_stable_plans.Holds := by
  exact Lk75.holds_of Lk75.LAW
