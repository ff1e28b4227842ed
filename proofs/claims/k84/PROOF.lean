import PyProof.Rows.All
import Wide.All
import OpenK.AllK
import Wide.FinOn
import PySem.Challenge.RW_slotwork_k84_whole_seals
import HandS.ForMost
import HandS.ForExc
import HandS.Walk
import HandS.DictComp
import HandS.CallSlots
import HandS.Codes
import HandS.Lambda
import HandS.Flow
import HandS.Wide
import HandS.More
import HandS.Conv
import HandS.Defaults
import HandS.SortInts
import HandS.Style
import HandS.Strs
import HandS.IsInst
import HandS.Deep
import HandS.DeepEq
import HandS.SetKeys
import HandS.TupLen
import KE.SortData
import KE.SortKeyHeap
import PyProof.Rows.SetFrom
import HandS.Iter
import HandS.Nested
import HandS.SortKw
import HandS.HeadHook1
import HandS.HeadHook2
import HandS.HeadHook4
import HandS.EndTab
import HandS.HeadWalk
import HandS.NestedK
import HandS.Head0
import HandS.Head1
import HandS.Head2
import HandS.ExcInit
import HandS.ExcField
import HandS.TryMany
import HandS.Dict
import KE.GoesEnum
import PyProof.CollectIter
import KE.KDictList
import HandS.Rev
import KE.KDictSum
import HandS.RaiseMore
import PyProof.P3Eq
set_option Elab.async false
set_option linter.all false
set_option maxRecDepth 100000
set_option maxHeartbeats 4000000
/-! Values as data: what an object holds, told as a tree; slots that own their object, slots that share it. -/
namespace L2.Dl
open PySem PySem.Spec PyProof.Rows

/-- data -/
inductive D where
  | non
  | bl (b : Bool)
  | int (i : Int)
  | str (s : Str)
  | lst (l : List D)
  | tup (l : List D)
  | dct (l : List (Key × D))
  | dtt (l : List (List Key × D))
  | scr (l : List Int)
  | ins (c : Nat) (l : List (Str × D))

/-- a slot: empty, shared data, or an object of its own (t: the parameter that brought it) -/
inductive AV where
  | un
  | shr (d : D)
  | own (t : Option Nat) (d : D)
abbrev SS := List AV

/-- what the text brings: its classes by number, the tables of its code objects -/
structure Brings where
  at_ : Nat → Addr
  T : List (Addr × Str) := []
instance : CoeFun Brings (fun _ => Nat → Addr) := ⟨Brings.at_⟩
/-- the def's own: classes by number, the objects that came to be changed, the heap at the entry -/
structure Dx where
  K : PySem.W.Frag
  cl : Brings
  A : List Addr
  B : Hp

mutual
/-- v stands for d in the heap G -/
inductive Rep (z : Dx) (G : Hp) : V → D → Prop
  | non : Rep z G .non .non
  | bl (b : Bool) : Rep z G (.bl b) (.bl b)
  | int (i : Int) : Rep z G (.int i) (.int i)
  | str (s : Str) : Rep z G (.str s) (.str s)
  | lst {a xs l} : G a = some (.lst xs) → RepL z G xs l → Rep z G (.ref a) (.lst l)
  | tup {a xs l} : SqT z.K G a xs → RepL z G xs l → Rep z G (.ref a) (.tup l)
  | dct {a vs l} : G a = some (.dK vs) → vs.map (·.1) = l.map (·.1) → RepL z G (vs.map (·.2)) (l.map (·.2)) → Rep z G (.ref a) (.dct l)
  | dtt {a vs l} : G a = some (.dT vs) → vs.map (·.1) = l.map (·.1) → RepL z G (vs.map (·.2)) (l.map (·.2)) → Rep z G (.ref a) (.dtt l)
  | scr {a l} : SqL z.K G a (l.map V.int) → Rep z G (.ref a) (.scr l)
  | ins {a c dx vs l} : G a = some (.ins (z.cl c) dx vs) → vs.map (·.1) = l.map (·.1) → RepL z G (vs.map (·.2)) (l.map (·.2)) → Rep z G (.ref a) (.ins c l)
inductive RepL (z : Dx) (G : Hp) : List V → List D → Prop
  | nil : RepL z G [] []
  | cons {v d vs ds} : Rep z G v d → RepL z G vs ds → RepL z G (v :: vs) (d :: ds)
end

/-- a thing of data -/
def Pl : HO → Prop
  | .tbl _ => False
  | .ext _ => False
  | _ => True
theorem TabS_keep {H H' : Hp} {P : Addr} {q : Str} (t : LamX.TabS H P q) (e : ∀ b o, H b = some o → ¬ Pl o → H' b = some o) : LamX.TabS H' P q := by
  obtain ⟨ps, h1, h2, h3⟩ := t
  refine ⟨ps, e _ _ h1 (fun z => z), h2, fun pos cv hc => ?_⟩
  obtain ⟨c, e1, e2⟩ := h3 pos cv hc
  exact ⟨c, e1, e _ _ e2 (fun z => z)⟩
/-- no table -/
def NT : HO → Prop
  | .tbl _ => False
  | _ => True
/-- a code object's table, known by the name of what it tells -/
def Tb (u : HO) (H : Hp) (a : Addr) : Prop := ∃ q t, u = .tbl #[.str q t] ∧ LamX.TabS H a q
theorem Tb.keep {u : HO} {H H' : Hp} {P : Addr} (t : Tb u H P) (e : ∀ b o, H b = some o → ¬ Pl o → H' b = some o) : Tb u H' P := by
  obtain ⟨q, t, h1, h2⟩ := t
  exact ⟨q, t, h1, TabS_keep h2 e⟩
theorem Tb.some {u : HO} {H : Hp} {P : Addr} (t : Tb u H P) : ∃ ps, H P = some (.tbl ps) := by
  obtain ⟨q, t, _, ps, h, _⟩ := t
  exact ⟨ps, h⟩
def GLe (G G' : Hp) : Prop := ∀ a u, G a = some u → G' a = some u
def Dk : HO → Prop
  | .dK _ => True
  | .dT _ => True
  | _ => False
/-- what is shared stands in the heap (a dict may be locked) -/
def LeH (G H : Hp) : Prop := ∀ a u, G a = some u → (H a = some u ∧ NT u) ∨ (Dk u ∧ ∃ o, H a = some (.frz o u)) ∨ Tb u H a
theorem GLe.refl (G : Hp) : GLe G G := fun _ _ h => h
theorem GLe.trans {G1 G2 G3 : Hp} (a : GLe G1 G2) (b : GLe G2 G3) : GLe G1 G3 := fun x u h => b x u (a x u h)
theorem GLe.sqT {K : PySem.W.Frag} {G G' : Hp} {a : Addr} {xs : List V} (h : GLe G G') (r : SqT K G a xs) : SqT K G' a xs := by
  rcases r with (r | ⟨o, r⟩) | r
  · exact .inl (.inl (h _ _ r))
  · exact .inl (.inr ⟨o, h _ _ r⟩)
  · exact .inr r
theorem GLe.sqL {K : PySem.W.Frag} {G G' : Hp} {a : Addr} {xs : List V} (h : GLe G G') (r : SqL K G a xs) : SqL K G' a xs := by
  rcases r with (r | ⟨o, r⟩) | r
  · exact .inl (.inl (h _ _ r))
  · exact .inl (.inr ⟨o, h _ _ r⟩)
  · exact .inr r
theorem LeH.lst {G H : Hp} {a : Addr} {xs : List V} (h : LeH G H) (r : G a = some (.lst xs)) : H a = some (.lst xs) := by
  rcases h a _ r with e | ⟨k, _⟩ | ⟨_, _, k, _⟩
  · exact e.1
  · exact k.elim
  · cases k
theorem LeH.ins {G H : Hp} {a C dx : Addr} {fs : List (Str × V)} (h : LeH G H) (r : G a = some (.ins C dx fs)) : H a = some (.ins C dx fs) := by
  rcases h a _ r with e | ⟨k, _⟩ | ⟨_, _, k, _⟩
  · exact e.1
  · exact k.elim
  · cases k
theorem LeH.frz {G H : Hp} {a : Addr} {o : Obj} {u : HO} (h : LeH G H) (r : G a = some (.frz o u)) : H a = some (.frz o u) := by
  rcases h a _ r with e | ⟨k, _⟩ | ⟨_, _, k, _⟩
  · exact e.1
  · exact k.elim
  · cases k
theorem LeH.rd {G H : Hp} {a : Addr} {u : HO} (h : LeH G H) (r : G a = some u) (n : Pl u := by trivial) : Rd H a u := by
  rcases h a u r with e | ⟨k, o, e⟩ | ⟨_, _, rfl, _⟩
  · exact .inl e.1
  · exact .inr ⟨o, e⟩
  · exact n.elim
theorem LeH.sqT {K : PySem.W.Frag} {G H : Hp} {a : Addr} {xs : List V} (h : LeH G H) (r : SqT K G a xs) : SqT K H a xs := by
  rcases r with (r | ⟨o, r⟩) | r
  · exact .inl (h.rd r)
  · exact .inl (.inr ⟨o, h.frz r⟩)
  · exact .inr r
theorem LeH.sqL {K : PySem.W.Frag} {G H : Hp} {a : Addr} {xs : List V} (h : LeH G H) (r : SqL K G a xs) : SqL K H a xs := by
  rcases r with (r | ⟨o, r⟩) | r
  · exact .inl (h.rd r)
  · exact .inl (.inr ⟨o, h.frz r⟩)
  · exact .inr r
theorem LeH.some {G H : Hp} {a : Addr} {u : HO} (h : LeH G H) (r : G a = some u) : ∃ o, H a = some o := by
  rcases h a u r with e | ⟨_, o, e⟩ | k
  · exact ⟨_, e.1⟩
  · exact ⟨_, e⟩
  · obtain ⟨ps, e⟩ := k.some; exact ⟨_, e⟩
theorem LeH.none {G H : Hp} {a : Addr} (h : LeH G H) (r : H a = none) : G a = none := by
  cases e : G a with
  | none => rfl
  | some u =>
    obtain ⟨o, q⟩ := h.some e
    rw [r] at q; cases q

mutual
theorem Rep.mono {z : Dx} {G G' : Hp} (h : GLe G G') : ∀ {v : V} {d : D}, Rep z G v d → Rep z G' v d
  | _, _, .non => .non
  | _, _, .bl b => .bl b
  | _, _, .int i => .int i
  | _, _, .str s => .str s
  | _, _, .lst e r => .lst (h _ _ e) (RepL.mono h r)
  | _, _, .tup e r => .tup (h.sqT e) (RepL.mono h r)
  | _, _, .dct e k r => .dct (h _ _ e) k (RepL.mono h r)
  | _, _, .dtt e k r => .dtt (h _ _ e) k (RepL.mono h r)
  | _, _, .scr e => .scr (h.sqL e)
  | _, _, .ins e k r => .ins (h _ _ e) k (RepL.mono h r)
theorem RepL.mono {z : Dx} {G G' : Hp} (h : GLe G G') : ∀ {vs : List V} {ds : List D}, RepL z G vs ds → RepL z G' vs ds
  | _, _, .nil => .nil
  | _, _, .cons r t => .cons (Rep.mono h r) (RepL.mono h t)
end
section
variable {z : Dx} {G : Hp}
theorem RepL.length {vs : List V} {ds : List D} (r : RepL z G vs ds) : vs.length = ds.length := by
  induction ds generalizing vs with
  | nil => cases r; rfl
  | cons d ds ih =>
    cases r with
    | cons a b => simp [ih b]
theorem RepL.get {vs : List V} {ds : List D} (r : RepL z G vs ds) {i : Nat} {d : D} (e : ds[i]? = some d) : ∃ v, vs[i]? = some v ∧ Rep z G v d := by
  induction ds generalizing vs i with
  | nil => simp at e
  | cons d0 ds ih =>
    cases r with
    | cons a b =>
      cases i with
      | zero => simp at e; subst e; exact ⟨_, rfl, a⟩
      | succ i => simpa using ih b (by simpa using e)
theorem RepL.got {vs : List V} {ds : List D} (r : RepL z G vs ds) {i : Nat} {v : V} (e : vs[i]? = some v) : ∃ d, ds[i]? = some d ∧ Rep z G v d := by
  induction ds generalizing vs i with
  | nil => cases r; simp at e
  | cons d0 ds ih =>
    cases r with
    | cons a b =>
      cases i with
      | zero => simp at e; subst e; exact ⟨_, rfl, a⟩
      | succ i => simpa using ih b (by simpa using e)
theorem RepL.append {vs ws : List V} {ds es : List D} (r : RepL z G vs ds) (q : RepL z G ws es) : RepL z G (vs ++ ws) (ds ++ es) := by
  induction ds generalizing vs with
  | nil => cases r; exact q
  | cons d ds ih =>
    cases r with
    | cons a b => exact .cons a (ih b)
theorem RepL.set {vs : List V} {ds : List D} (r : RepL z G vs ds) (i : Nat) {v : V} {d : D} (q : Rep z G v d) : RepL z G (vs.set i v) (ds.set i d) := by
  induction ds generalizing vs i with
  | nil => cases r; exact .nil
  | cons d0 ds ih =>
    cases r with
    | cons a b =>
      cases i with
      | zero => exact .cons q b
      | succ i => exact .cons a (ih b i)
theorem RepL.of_get {vs : List V} {ds : List D} (hl : vs.length = ds.length) (h : ∀ (i : Nat) v d, vs[i]? = some v → ds[i]? = some d → Rep z G v d) : RepL z G vs ds := by
  induction ds generalizing vs with
  | nil =>
    cases vs with
    | nil => exact .nil
    | cons => simp at hl
  | cons d ds ih =>
    cases vs with
    | nil => simp at hl
    | cons v vs =>
      exact .cons (h 0 v d rfl rfl) (ih (by simpa using hl) fun i x y e1 e2 => h (i + 1) x y (by simpa using e1) (by simpa using e2))
end

/-- the object at a is known by its data, one level in H, the rest shared -/
def OwnAt (z : Dx) (G H : Hp) (a : Addr) : D → Prop
  | .lst l => ∃ xs, H a = some (.lst xs) ∧ RepL z G xs l
  | .dct l => ∃ vs, H a = some (.dK vs) ∧ vs.map (·.1) = l.map (·.1) ∧ RepL z G (vs.map (·.2)) (l.map (·.2))
  | .dtt l => ∃ vs, H a = some (.dT vs) ∧ vs.map (·.1) = l.map (·.1) ∧ RepL z G (vs.map (·.2)) (l.map (·.2))
  | .ins c l => ∃ dx vs, H a = some (.ins (z.cl c) dx vs) ∧ vs.map (·.1) = l.map (·.1) ∧ RepL z G (vs.map (·.2)) (l.map (·.2))
  | _ => False
/-- read: shared, or an own object -/
def View (z : Dx) (G H : Hp) (v : V) (d : D) : Prop := Rep z G v d ∨ ∃ a, v = .ref a ∧ OwnAt z G H a d
section
variable {z : Dx} {G G' H H' : Hp} {a : Addr} {d : D} {v : V}
theorem OwnAt.mono (h : OwnAt z G H a d) (hg : GLe G G') (hh : ∀ o, H a = some o → H' a = some o) : OwnAt z G' H' a d := by
  cases d with
  | lst l => obtain ⟨xs, e, r⟩ := h; exact ⟨xs, hh _ e, r.mono hg⟩
  | dct l => obtain ⟨vs, e, k, r⟩ := h; exact ⟨vs, hh _ e, k, r.mono hg⟩
  | dtt l => obtain ⟨vs, e, k, r⟩ := h; exact ⟨vs, hh _ e, k, r.mono hg⟩
  | ins c l => obtain ⟨dx, vs, e, k, r⟩ := h; exact ⟨dx, vs, hh _ e, k, r.mono hg⟩
  | _ => exact h.elim
theorem OwnAt.there (h : OwnAt z G H a d) : ∃ o, H a = some o := by
  cases d with
  | lst l => obtain ⟨xs, e, r⟩ := h; exact ⟨_, e⟩
  | dct l => obtain ⟨vs, e, k, r⟩ := h; exact ⟨_, e⟩
  | dtt l => obtain ⟨vs, e, k, r⟩ := h; exact ⟨_, e⟩
  | ins c l => obtain ⟨dx, vs, e, k, r⟩ := h; exact ⟨_, e⟩
  | _ => exact h.elim
theorem OwnAt.nt {o : HO} (h : OwnAt z G H a d) (e : H a = some o) : NT o := by
  cases d with
  | lst l => obtain ⟨xs, e', r⟩ := h; rw [e] at e'; cases e'; trivial
  | dct l => obtain ⟨vs, e', k, r⟩ := h; rw [e] at e'; cases e'; trivial
  | dtt l => obtain ⟨vs, e', k, r⟩ := h; rw [e] at e'; cases e'; trivial
  | ins c l => obtain ⟨dx, vs, e', k, r⟩ := h; rw [e] at e'; cases e'; trivial
  | _ => exact h.elim
/-- shared from now on -/
theorem OwnAt.rep {o : HO} (h : OwnAt z G H a d) (e : H a = some o) (hg : GLe G G') (ha : G' a = some o) : Rep z G' (.ref a) d := by
  cases d with
  | lst l => obtain ⟨xs, e', r⟩ := h; rw [e] at e'; cases e'; exact .lst ha (r.mono hg)
  | dct l => obtain ⟨vs, e', k, r⟩ := h; rw [e] at e'; cases e'; exact .dct ha k (r.mono hg)
  | dtt l => obtain ⟨vs, e', k, r⟩ := h; rw [e] at e'; cases e'; exact .dtt ha k (r.mono hg)
  | ins c l => obtain ⟨dx, vs, e', k, r⟩ := h; rw [e] at e'; cases e'; exact .ins ha k (r.mono hg)
  | _ => exact h.elim
theorem View.int {i : Int} (h : View z G H v (.int i)) : v = .int i := by
  rcases h with r | ⟨a, _, r⟩
  · cases r; rfl
  · exact r.elim
theorem View.str {s : Str} (h : View z G H v (.str s)) : v = .str s := by
  rcases h with r | ⟨a, _, r⟩
  · cases r; rfl
  · exact r.elim
theorem View.bl {b : Bool} (h : View z G H v (.bl b)) : v = .bl b := by
  rcases h with r | ⟨a, _, r⟩
  · cases r; rfl
  · exact r.elim
theorem View.non (h : View z G H v .non) : v = .non := by
  rcases h with r | ⟨a, _, r⟩
  · cases r; rfl
  · exact r.elim
theorem View.lst {l : List D} (le : LeH G H) (h : View z G H v (.lst l)) : ∃ a xs, v = .ref a ∧ H a = some (.lst xs) ∧ RepL z G xs l := by
  rcases h with r | ⟨a, e, xs, q, r⟩
  · cases r with
    | lst e r => exact ⟨_, _, rfl, le.lst e, r⟩
  · exact ⟨a, xs, e, q, r⟩
theorem View.tup {l : List D} (le : LeH G H) (h : View z G H v (.tup l)) : ∃ a xs, v = .ref a ∧ SqT z.K H a xs ∧ RepL z G xs l := by
  rcases h with r | ⟨a, _, r⟩
  · cases r with
    | tup e r => exact ⟨_, _, rfl, le.sqT e, r⟩
  · exact r.elim
theorem View.scr {l : List Int} (le : LeH G H) (h : View z G H v (.scr l)) : ∃ a, v = .ref a ∧ SqL z.K H a (l.map V.int) := by
  rcases h with r | ⟨a, _, r⟩
  · cases r with
    | scr e => exact ⟨_, rfl, le.sqL e⟩
  · exact r.elim
theorem View.dct {l : List (Key × D)} (le : LeH G H) (h : View z G H v (.dct l)) : ∃ a vs, v = .ref a ∧ Rd H a (.dK vs) ∧ vs.map (·.1) = l.map (·.1) ∧ RepL z G (vs.map (·.2)) (l.map (·.2)) := by
  rcases h with r | ⟨a, e, vs, q, k, r⟩
  · cases r with
    | dct e k r => exact ⟨_, _, rfl, le.rd e, k, r⟩
  · exact ⟨a, vs, e, .inl q, k, r⟩
theorem View.dtt {l : List (List Key × D)} (le : LeH G H) (h : View z G H v (.dtt l)) : ∃ a vs, v = .ref a ∧ Rd H a (.dT vs) ∧ vs.map (·.1) = l.map (·.1) ∧ RepL z G (vs.map (·.2)) (l.map (·.2)) := by
  rcases h with r | ⟨a, e, vs, q, k, r⟩
  · cases r with
    | dtt e k r => exact ⟨_, _, rfl, le.rd e, k, r⟩
  · exact ⟨a, vs, e, .inl q, k, r⟩
theorem View.ins {c : Nat} {l : List (Str × D)} (le : LeH G H) (h : View z G H v (.ins c l)) : ∃ a dx vs, v = .ref a ∧ H a = some (.ins (z.cl c) dx vs) ∧ vs.map (·.1) = l.map (·.1) ∧ RepL z G (vs.map (·.2)) (l.map (·.2)) := by
  rcases h with r | ⟨a, e, dx, vs, q, k, r⟩
  · cases r with
    | ins e k r => exact ⟨_, _, _, rfl, le.ins e, k, r⟩
  · exact ⟨a, dx, vs, e, q, k, r⟩
end

/-- the tables are known -/
def Tabd (T : List (Addr × Str)) (G : Hp) : Prop := ∀ p ∈ T, ∃ t, G p.1 = some (.tbl #[.str p.2 t])
theorem Tabd.ge {T : List (Addr × Str)} {G G' : Hp} (h : Tabd T G) (g : GLe G G') : Tabd T G' := fun p hp => let ⟨t, e⟩ := h p hp; ⟨t, g _ _ e⟩
/-- the slots as told -/
structure SI (z : Dx) (S : SS) (σ : St) (H G : Hp) : Prop where
  len : S.length = σ.length
  le : LeH G H
  shr : ∀ (i : Nat) d, S[i]? = some (.shr d) → ∃ v, σ[i]? = some (some v) ∧ Rep z G v d
  own : ∀ (i : Nat) t d, S[i]? = some (.own t d) → ∃ a, σ[i]? = some (some (.ref a)) ∧ G a = none ∧ OwnAt z G H a d ∧ (∀ j, t = some j → z.A[j]? = some a) ∧ (t = none → z.B a = none)
  sep : ∀ (i j : Nat) ti di tj dj a, S[i]? = some (.own ti di) → S[j]? = some (.own tj dj) → σ[i]? = some (some (.ref a)) → σ[j]? = some (some (.ref a)) → i = j
  dom : ∀ a, H a = none → z.B a = none
  tab : Tabd z.cl.T G
def Owns (S : SS) (σ : St) (a : Addr) : Prop := ∃ (i : Nat) (t : Option Nat) (d : D), S[i]? = some (.own t d) ∧ σ[i]? = some (some (.ref a))
/-- kept; a shared dict may have been locked -/
def Lk (G : Hp) (a : Addr) (o : HO) (H' : Hp) : Prop := H' a = some o ∨ (G a = some o ∧ Dk o ∧ ∃ ob, H' a = some (.frz ob o)) ∨ ((∃ u, G a = some u) ∧ ∃ ps ps', o = .tbl ps ∧ H' a = some (.tbl ps'))
/-- what may be locked, or grow -/
def Wk : HO → Prop
  | .dK _ => True
  | .dT _ => True
  | .tbl _ => True
  | _ => False
theorem Wk.of {o : HO} (h : Dk o) : Wk o := by cases o <;> first | trivial | exact h.elim
theorem Lk.eq {G H' : Hp} {a : Addr} {o : HO} (h : Lk G a o H') (n : ¬ Wk o) : H' a = some o := by
  rcases h with h | ⟨_, k, _⟩ | ⟨_, ps, _, rfl, _⟩
  · exact h
  · exact absurd (Wk.of k) n
  · exact absurd trivial n
theorem Lk.own {G H' : Hp} {a : Addr} {o : HO} (h : Lk G a o H') (n : G a = none) : H' a = some o := by
  rcases h with h | ⟨q, _⟩ | ⟨⟨u, q⟩, _⟩
  · exact h
  · rw [n] at q; cases q
  · rw [n] at q; cases q
theorem Lk.ge {G G' H' : Hp} {a : Addr} {o : HO} (h : Lk G a o H') (g : GLe G G') : Lk G' a o H' := by
  rcases h with h | ⟨q, k⟩ | ⟨⟨u, q⟩, k⟩
  · exact .inl h
  · exact .inr (.inl ⟨g _ _ q, k⟩)
  · exact .inr (.inr ⟨⟨u, g _ _ q⟩, k⟩)
/-- what has changed: own objects; all that is new in G is new, or was owned -/
structure Go (S S' : SS) (σ σ' : St) (H H' G G' : Hp) : Prop where
  ge : GLe G G'
  fr : ∀ a o, H a = some o → ¬ Owns S σ a → Lk G' a o H'
  ow : ∀ a, Owns S' σ' a → Owns S σ a ∨ H a = none
  nw : ∀ a u, G' a = some u → G a = some u ∨ H a = none ∨ Owns S σ a
  th : ∀ a, H' a = none → H a = none
theorem Go.refl {S : SS} {σ : St} {H G : Hp} : Go S S σ σ H H G G := ⟨.refl _, fun _ _ h _ => .inl h, fun _ h => .inl h, fun _ _ h => .inl h, fun _ h => h⟩
theorem Go.trans {S S1 S2 : SS} {σ σ1 σ2 : St} {H H1 H2 G G1 G2 : Hp} (x : Go S S1 σ σ1 H H1 G G1) (y : Go S1 S2 σ1 σ2 H1 H2 G1 G2) : Go S S2 σ σ2 H H2 G G2 where
  ge := x.ge.trans y.ge
  fr := fun a o h n => by
    have n1 : ¬ Owns S1 σ1 a := fun q => (x.ow a q).elim n fun e => by rw [e] at h; cases h
    rcases x.fr a o h n with q | ⟨g, k, ob, q⟩ | ⟨⟨u, g⟩, ps, ps', e, q⟩
    · exact y.fr a o q n1
    · exact .inr (.inl ⟨y.ge _ _ g, k, ob, (y.fr a _ q n1).eq fun z => z⟩)
    · subst e
      rcases y.fr a _ q n1 with q | ⟨_, k, _⟩ | ⟨g', ps1, ps2, e, q⟩
      · exact .inr (.inr ⟨⟨u, y.ge _ _ g⟩, ps, ps', rfl, q⟩)
      · exact k.elim
      · exact .inr (.inr ⟨g', ps, ps2, rfl, q⟩)
  ow := fun a q => (y.ow a q).elim (x.ow a) fun e => .inr (x.th a e)
  nw := fun a u q => by
    rcases y.nw a u q with e | e | e
    · exact x.nw a u e
    · exact .inr (.inl (x.th a e))
    · rcases x.ow a e with e | e
      · exact .inr (.inr e)
      · exact .inr (.inl e)
  th := fun a e => x.th a (y.th a e)

/-- a change by new objects alone -/
structure Ext (H H' G G' : Hp) : Prop where
  ge : GLe G G'
  le : LeH G' H'
  hh : ∀ a o, H a = some o → H' a = some o
  nw : ∀ a u, G' a = some u → G a = some u ∨ H a = none
theorem Ext.refl {H G : Hp} (h : LeH G H) : Ext H H G G := ⟨.refl _, h, fun _ _ h => h, fun _ _ h => .inl h⟩
theorem Ext.trans {H H1 H2 G G1 G2 : Hp} (x : Ext H H1 G G1) (y : Ext H1 H2 G1 G2) : Ext H H2 G G2 :=
  ⟨x.ge.trans y.ge, y.le, fun a o h => y.hh a o (x.hh a o h), fun a u h => (y.nw a u h).elim (x.nw a u) fun e => .inr (by
    cases q : H a with
    | none => rfl
    | some o => rw [x.hh a o q] at e; cases e)⟩
/-- a new object, not shared -/
theorem Ext.own {H G : Hp} {p : Addr} {o : HO} (le : LeH G H) (hp : H p = none) : Ext H (upd H p o) G G :=
  ⟨.refl _, fun a u h => by
    have ne : a ≠ p := fun e => by subst e; rw [le.none hp] at h; cases h
    exact (le a u h).imp (fun q => ⟨by rw [upd_ne ne]; exact q.1, q.2⟩) (Or.imp (fun q => by rw [upd_ne ne]; exact q) fun q => q.keep fun b o e _ => by rw [upd_ne (ne_of_none e hp)]; exact e), fun a u h => by rw [upd_ne (ne_of_none h hp)]; exact h, fun _ _ h => .inl h⟩
/-- a new object, shared -/
theorem Ext.new {H G : Hp} {p : Addr} {o : HO} (le : LeH G H) (hp : H p = none) (nt : NT o := by trivial) : Ext H (upd H p o) G (upd G p o) :=
  ⟨fun a u h => by rw [upd_ne (ne_of_none h (le.none hp))]; exact h, fun a u h => by
    by_cases e : a = p
    · subst e; rw [upd_same] at h; cases h; exact .inl ⟨upd_same, nt⟩
    · rw [upd_ne e] at h; exact (le a u h).imp (fun q => ⟨by rw [upd_ne e]; exact q.1, q.2⟩) (Or.imp (fun q => by rw [upd_ne e]; exact q) fun q => q.keep fun b o e _ => by rw [upd_ne (ne_of_none e hp)]; exact e), fun a u h => by rw [upd_ne (ne_of_none h hp)]; exact h, fun a u h => by
    by_cases e : a = p
    · subst e; exact .inr hp
    · rw [upd_ne e] at h; exact .inl h⟩
section
variable {z : Dx} {S : SS} {σ : St} {H H' G G' : Hp}
theorem SI.ownFree (si : SI z S σ H G) {a : Addr} (h : Owns S σ a) : G a = none ∧ ∃ o, H a = some o := by
  obtain ⟨i, t, d, e1, e2⟩ := h
  obtain ⟨b, e3, g, o, _⟩ := si.own i t d e1
  rw [e2] at e3
  cases e3
  exact ⟨g, o.there⟩
theorem SI.ext (si : SI z S σ H G) (x : Ext H H' G G') : SI z S σ H' G' where
  len := si.len
  le := x.le
  shr := fun i d e => let ⟨v, q, r⟩ := si.shr i d e; ⟨v, q, r.mono x.ge⟩
  own := fun i t d e => by
    obtain ⟨a, q, g, o, t1, t2⟩ := si.own i t d e
    obtain ⟨ob, ho⟩ := o.there
    refine ⟨a, q, ?_, o.mono x.ge (x.hh a), t1, t2⟩
    cases e' : G' a with
    | none => rfl
    | some u =>
      rcases x.nw a u e' with z1 | z1
      · rw [g] at z1; cases z1
      · rw [ho] at z1; cases z1
  sep := si.sep
  dom := fun a e => si.dom a (by
    cases q : H a with
    | none => rfl
    | some o => rw [x.hh a o q] at e; cases e)
  tab := si.tab.ge x.ge
theorem Ext.go (x : Ext H H' G G') : Go S S σ σ H H' G G' :=
  ⟨x.ge, fun a o h _ => .inl (x.hh a o h), fun _ h => .inl h, fun a u h => (x.nw a u h).elim .inl fun e => .inr (.inl e), fun a e => by
    cases q : H a with
    | none => rfl
    | some o => rw [x.hh a o q] at e; cases e⟩
/-- an object that nobody owns is shared from now on -/
theorem SI.add {p : Addr} {o : HO} (si : SI z S σ H G) (hp : H p = some o) (gp : G p = none) (no : ¬ Owns S σ p) (nt : NT o) : SI z S σ H (upd G p o) where
  len := si.len
  le := fun a u h => by
    by_cases e : a = p
    · subst e; rw [upd_same] at h; cases h; exact .inl ⟨hp, nt⟩
    · rw [upd_ne e] at h; exact si.le a u h
  shr := fun i d e => let ⟨v, q, r⟩ := si.shr i d e; ⟨v, q, r.mono fun a u h => by rw [upd_ne (ne_of_none h gp)]; exact h⟩
  own := fun i t d e => by
    obtain ⟨a, q, g, ow, t1, t2⟩ := si.own i t d e
    have ne : a ≠ p := fun e' => no ⟨i, t, d, e, by rw [← e']; exact q⟩
    exact ⟨a, q, by rw [upd_ne ne]; exact g, ow.mono (fun b u h => by rw [upd_ne (ne_of_none h gp)]; exact h) fun _ h => h, t1, t2⟩
  sep := si.sep
  dom := si.dom
  tab := si.tab.ge fun a u h => by rw [upd_ne (ne_of_none h gp)]; exact h
end

/-! ### results -/
inductive R where
  /-- shared data -/
  | v (d : D)
  /-- a new object that nobody knows -/
  | f (d : D)
  /-- what slot i holds -/
  | at (i : Nat)
inductive Res (α : Type) where
  | ok (a : α) (s : SS)
  | ex (c : Nat) (w : D) (s : SS)
  | no
abbrev M (α : Type) := SS → Res α
def Res.bind {α β : Type} (r : Res α) (k : α → SS → Res β) : Res β := match r with
  | .ok a s => k a s
  | .ex c w s => .ex c w s
  | .no => .no
theorem bind_ok {α β : Type} (a : α) (s : SS) (k : α → SS → Res β) : (Res.ok a s).bind k = k a s := rfl
theorem bind_ex {α β : Type} (c : Nat) (w : D) (s : SS) (k : α → SS → Res β) : (Res.ex c w s).bind k = .ex c w s := rfl
theorem bind_no {α β : Type} (k : α → SS → Res β) : (Res.no : Res α).bind k = .no := rfl

def AV.data : AV → Option D
  | .un => none
  | .shr d => some d
  | .own _ d => some d
def slotD (S : SS) (i : Nat) : Option D := match S[i]? with
  | some x => x.data
  | none => none
def look (S : SS) : R → Option D
  | .v d => some d
  | .f d => some d
  | .at i => slotD S i

/-- a result, as it comes (H0: the heap ahead) -/
def Den (z : Dx) (S' : SS) (σ : St) (H0 H' G' : Hp) (v : V) : R → Prop
  | .v d => Rep z G' v d
  | .f d => ∃ p, v = .ref p ∧ H0 p = none ∧ G' p = none ∧ ¬ Owns S' σ p ∧ OwnAt z G' H' p d
  | .at i => σ[i]? = some (some v)
/-- .. once it is shared -/
def DenS (z : Dx) (σ : St) (G : Hp) (v : V) : R → Prop
  | .v d => Rep z G v d
  | .f d => Rep z G v d
  | .at i => σ[i]? = some (some v)
theorem DenS.mono {z : Dx} {σ : St} {G G' : Hp} {v : V} {r : R} (h : DenS z σ G v r) (g : GLe G G') : DenS z σ G' v r := by
  cases r with
  | v d => exact Rep.mono g h
  | f d => exact Rep.mono g h
  | «at» i => exact h
theorem DenS.view {z : Dx} {S : SS} {σ : St} {H G : Hp} {v : V} {r : R} {d : D} (h : DenS z σ G v r) (si : SI z S σ H G) (e : look S r = some d) : View z G H v d := by
  cases r with
  | v d' => cases e; exact .inl h
  | f d' => cases e; exact .inl h
  | «at» i =>
    have h : σ[i]? = some (some v) := h
    have e : slotD S i = some d := e
    unfold slotD at e
    cases q : S[i]? with
    | none => rw [q] at e; cases e
    | some x =>
      rw [q] at e
      cases x with
      | un => cases e
      | shr d' =>
        cases e
        obtain ⟨v', e1, r⟩ := si.shr i _ q
        rw [h] at e1; cases e1
        exact .inl r
      | own t d' =>
        cases e
        obtain ⟨a, e1, _, o, _⟩ := si.own i t _ q
        rw [h] at e1; cases e1
        exact .inr ⟨a, rfl, o⟩

abbrev Wx := Nat → Option Addr → St → Hp → Prop
def WOk (z : Dx) (W : WX) (G' : Hp) (σ : St) (H' : Hp) (c : Nat) (w : D) : Prop :=
  ∀ d v, H' d = some (.xd [(("what" : Str), v)]) → Rep z G' v w → W (.ref (z.cl c)) (some d) σ H'
def Post (z : Dx) (W : WX) (S : SS) (G H : Hp) (σ : St) (Q : VK) : Res R → Prop
  | .ok r S' => ∀ v H' G', SI z S' σ H' G' → Go S S' σ σ H H' G G' → Den z S' σ H H' G' v r → Q v H'
  | .ex c w S' => ∀ H' G', SI z S' σ H' G' → Go S S' σ σ H H' G G' → WOk z W G' σ H' c w
  | .no => False
def tD (z : Dx) (W : WX) (f : M R) : TE := fun σ H Q => ∃ S G, SI z S σ H G ∧ Post z W S G H σ Q (f S)
/-- an expression computes f -/
structure E (X : Cx) (z : Dx) (W : WX) (e : Expr) (f : M R) : Prop where
  pe : PE X e (tD z W f)
  k : z.K = X.K
theorem PE.le {X : Cx} {e : Expr} {t t' : TE} (h : PE X e t) (w : ∀ σ H Q, t' σ H Q → t σ H Q) : PE X e t' := ⟨fun pins s σ H Q I q => h.run pins s σ H Q I (w σ H Q q)⟩
theorem PT.le {X : Cx} {e : Expr} {t t' : TT} (h : PT X e t) (w : ∀ σ H Q, t' σ H Q → t σ H Q) : PT X e t' := ⟨fun pins s σ H Q I q => h.run pins s σ H Q I (w σ H Q q)⟩
theorem PS.le {X : Cx} {e : Stmt} {t t' : TS} (h : PS X e t) (w : ∀ D σ H, t' D σ H → t D σ H) : PS X e t' := ⟨fun pins s σ H D I q => h.run pins s σ H D I (w D σ H q)⟩
theorem PSs.le {X : Cx} {e : List Stmt} {t t' : TS} (h : PSs X e t) (w : ∀ D σ H, t' D σ H → t D σ H) : PSs X e t' := ⟨fun pins s σ H D I q => h.run pins s σ H D I (w D σ H q)⟩
theorem PA.le {X : Cx} {e : List Expr} {t t' : TA} (h : PA X e t) (w : ∀ σ H Q, t' σ H Q → t σ H Q) : PA X e t' := ⟨fun pos pins s σ H Q I q => h.run pos pins s σ H Q I (w σ H Q q)⟩

section
variable {z : Dx} {W : WX} {S S1 : SS} {G G1 H H1 : Hp} {σ : St} {Q : VK}
theorem Post.from {r : Res R} (h : Post z W S G H σ Q r) (g : Go S S1 σ σ H H1 G G1) : Post z W S1 G1 H1 σ Q r := by
  cases r with
  | ok r S' => 
    intro v H' G' si g' dn
    refine h v H' G' si (g.trans g') ?_
    cases r with
    | v d => exact dn
    | f d =>
      obtain ⟨p, e, h1, h2, h3, h4⟩ := dn
      exact ⟨p, e, g.th p h1, h2, h3, h4⟩
    | «at» i => exact dn
  | ex c w S' => exact fun H' G' si g' => h H' G' si (g.trans g')
  | no => exact h
/-- THE STEP: the first part is read, its result shared; then the rest -/
theorem step {fa : M R} {k : R → SS → Res R} (si : SI z S σ H G) (h : Post z W S G H σ Q ((fa S).bind k)) :
    tD z W fa σ H fun x H1 => ∃ ra S1 G1, SI z S1 σ H1 G1 ∧ Go S S1 σ σ H H1 G G1 ∧ DenS z σ G1 x ra ∧ Post z W S1 G1 H1 σ Q (k ra S1) := by
  refine ⟨S, G, si, ?_⟩
  cases e : fa S with
  | ok ra S1 =>
    rw [e] at h
    intro v H1 G1 si1 g1 dn
    cases ra with
    | v d => exact ⟨.v d, S1, G1, si1, g1, dn, Post.from h g1⟩
    | f d =>
      obtain ⟨p, rfl, h1, h2, h3, h4⟩ := dn
      obtain ⟨o, ho⟩ := h4.there
      have gl : GLe G1 (upd G1 p o) := fun a u q => by rw [upd_ne (ne_of_none q h2)]; exact q
      have g2 : Go S S1 σ σ H H1 G (upd G1 p o) := ⟨g1.ge.trans gl, fun a o' q n => (g1.fr a o' q n).ge gl, g1.ow, fun a u q => by
        by_cases e : a = p
        · subst e; exact .inr (.inl h1)
        · rw [upd_ne e] at q; exact g1.nw a u q, g1.th⟩
      exact ⟨.f d, S1, _, si1.add ho h2 h3 (h4.nt ho), g2, h4.rep ho gl upd_same, Post.from h g2⟩
    | «at» i => exact ⟨.at i, S1, G1, si1, g1, dn, Post.from h g1⟩
  | ex c w S1 =>
    rw [e] at h
    exact h
  | no =>
    rw [e] at h
    exact h
end
end L2.Dl
/-! Expressions: names, constants, operators, tests, lists of arguments. -/
namespace L2.Dl
open PySem PySem.Spec PyProof.Rows

section
variable {z : Dx} {W : WX} {S S1 : SS} {G G1 H H1 : Hp} {σ : L2.St} {Q Q' : VK}
theorem Post.mono {r : Res R} (h : Post z W S G H σ Q r) (q : ∀ v H, Q v H → Q' v H) : Post z W S G H σ Q' r := by
  cases r with
  | ok r S' => exact fun v H' G' si g dn => q _ _ (h v H' G' si g dn)
  | ex c w S' => exact h
  | no => exact h
theorem tD.mono {f : M R} (h : tD z W f σ H Q) (q : ∀ v H, Q v H → Q' v H) : tD z W f σ H Q' := by
  obtain ⟨S, G, si, p⟩ := h
  exact ⟨S, G, si, p.mono q⟩

/-! ### values -/
def DenV (z : Dx) (H0 H' G' : Hp) (v : V) : R → Prop
  | .v d => Rep z G' v d
  | .f d => ∃ p, v = .ref p ∧ H0 p = none ∧ G' p = none ∧ OwnAt z G' H' p d
  | .at _ => False
/-- what a rule by values has to reach -/
def VP (z : Dx) (H G : Hp) (Q : VK) (r : R) : Prop := ∀ v H' G', Ext H H' G G' → DenV z H H' G' v r → Q v H'
theorem VP.fin {r : R} (si : SI z S σ H G) (h : Post z W S G H σ Q (.ok r S)) : VP z H G Q r := fun v H' G' x dn => by
  refine h v H' G' (si.ext x) x.go ?_
  cases r with
  | v d => exact dn
  | f d =>
    obtain ⟨p, e, h1, h2, h3⟩ := dn
    refine ⟨p, e, h1, h2, fun o => ?_, h3⟩
    obtain ⟨_, u, hu⟩ := si.ownFree o
    rw [h1] at hu; cases hu
  | «at» i => exact dn.elim
/-- a plain value -/
theorem VP.rep {v : V} {d : D} (h : VP z H G Q (.v d)) (le : LeH G H) (r : Rep z G v d) : Q v H := h v H G (.refl le) r
theorem VP.new {p : Addr} {o : HO} {d : D} (h : VP z H G Q (.f d)) (le : LeH G H) (hp : H p = none) (r : OwnAt z G (upd H p o) p d) : Q (.ref p) (upd H p o) :=
  h _ _ G (.own le hp) ⟨p, rfl, hp, le.none hp, r⟩
theorem VP.newV {p : Addr} {o : HO} {d : D} (h : VP z H G Q (.v d)) (le : LeH G H) (hp : H p = none) (r : Rep z (upd G p o) (.ref p) d) (nt : NT o := by trivial) : Q (.ref p) (upd H p o) :=
  h _ _ _ (.new le hp nt) r
theorem upd_le {p : Addr} {o : HO} (h : G p = none) : GLe G (upd G p o) := fun a u q => by rw [upd_ne (ne_of_none q h)]; exact q

def rD2 (z : Dx) (g : D → D → Option R) : R2 := fun x y H Q => ∃ G da db r, LeH G H ∧ View z G H x da ∧ View z G H y db ∧ g da db = some r ∧ VP z H G Q r
def rD1 (z : Dx) (g : D → Option R) : V → Hp → VK → Prop := fun x H Q => ∃ G da r, LeH G H ∧ View z G H x da ∧ g da = some r ∧ VP z H G Q r
abbrev ViewL (z : Dx) (G H : Hp) : List V → List D → Prop := Paired fun v d => View z G H v d
def rDL (z : Dx) (g : List D → Option R) : List V → Hp → VK → Prop := fun xs H Q => ∃ G ds r, LeH G H ∧ ViewL z G H xs ds ∧ g ds = some r ∧ VP z H G Q r
def rDM (z : Dx) (g : D → List D → Option R) : V → List V → Hp → VK → Prop := fun x xs H Q => ∃ G d ds r, LeH G H ∧ View z G H x d ∧ ViewL z G H xs ds ∧ g d ds = some r ∧ VP z H G Q r

def lift (r : Option R) (S : SS) : Res R := match r with
  | some r => .ok r S
  | none => .no
def sOp (g : D → D → Option R) (fa fb : M R) : M R := fun S => (fa S).bind fun ra S1 => (fb S1).bind fun rb S2 => lift (do let da ← look S2 ra; let db ← look S2 rb; g da db) S2
theorem sOp_run {g : D → D → Option R} {fa fb : M R} (si : SI z S σ H G) (h : Post z W S G H σ Q (sOp g fa fb S)) :
    tD z W fa σ H fun x H1 => tD z W fb σ H1 fun y H2 => rD2 z g x y H2 Q := by
  refine (step si h).mono fun x H1 ⟨ra, S1, G1, si1, _, da, h1⟩ => ?_
  refine (step si1 h1).mono fun y H2 ⟨rb, S2, G2, si2, g2, db, h2⟩ => ?_
  have da2 := da.mono g2.ge
  cases ea : look S2 ra with
  | none => rw [ea] at h2; exact h2.elim
  | some d1 =>
    cases eb : look S2 rb with
    | none => rw [ea, eb] at h2; exact h2.elim
    | some d2 =>
      rw [ea, eb] at h2
      have h2 : Post z W S2 G2 H2 σ Q (lift (g d1 d2) S2) := h2
      cases e : g d1 d2 with
      | none => rw [e] at h2; exact h2.elim
      | some r =>
        rw [e] at h2
        exact ⟨G2, d1, d2, r, si2.le, da2.view si2 ea, db.view si2 eb, e, VP.fin si2 h2⟩
def sUn (g : D → Option R) (fa : M R) : M R := fun S => (fa S).bind fun ra S1 => lift (do let da ← look S1 ra; g da) S1
theorem sUn_run {g : D → Option R} {fa : M R} (si : SI z S σ H G) (h : Post z W S G H σ Q (sUn g fa S)) : tD z W fa σ H fun x H1 => rD1 z g x H1 Q := by
  refine (step si h).mono fun x H1 ⟨ra, S1, G1, si1, _, da, h1⟩ => ?_
  cases ea : look S1 ra with
  | none => rw [ea] at h1; exact h1.elim
  | some d1 =>
    rw [ea] at h1
    have h1 : Post z W S1 G1 H1 σ Q (lift (g d1) S1) := h1
    cases e : g d1 with
    | none => rw [e] at h1; exact h1.elim
    | some r =>
      rw [e] at h1
      exact ⟨G1, d1, r, si1.le, da.view si1 ea, e, VP.fin si1 h1⟩
end

section
variable {X : Cx} {z : Dx} {W : WX} {a b c : Expr} {fa fb fc : M R} {pos : Pos}
/-! ### names, constants -/
def sNm (i : Nat) : M R := fun S => match S[i]? with
  | some (.shr d) => .ok (.at i) S
  | some (.own t d) => .ok (.at i) S
  | _ => .no
theorem E_nm (hk : z.K = X.K) (i : Nat) {x : Str} (hN : X.N[i]? = some x := by rfl) (hv : Vis X.env.scope x := by first | exact Or.inl rfl | exact Or.inr (Or.inl rfl) | exact Or.inr (Or.inr rfl)) (hd : (x == ("__debug__" : Str)) = false := by decide)
    (hcd : (x == ("__classdict__" : Str)) = false := by decide) : E X z W (.Name x pos) (sNm i) := by
  refine ⟨PE.le (pe_var hN hv hd hcd) fun σ H Q ⟨S, G, si, h⟩ => ?_, hk⟩
  unfold sNm at h
  cases e : S[i]? with
  | none => rw [e] at h; exact h.elim
  | some w =>
    rw [e] at h
    cases w with
    | un => exact h.elim
    | shr d =>
      obtain ⟨v, ev, r⟩ := si.shr i d e
      exact ⟨v, ev, h v H G si .refl ev⟩
    | own t d =>
      obtain ⟨p, ev, _⟩ := si.own i t d e
      exact ⟨_, ev, h _ H G si .refl ev⟩
def sV (d : D) : M R := fun S => .ok (.v d) S
theorem tC_run {v : V} {d : D} {σ : L2.St} {H : Hp} {Q : VK} (r : ∀ G, Rep z G v d) (h : tD z W (sV d) σ H Q) : Q v H := by
  obtain ⟨S, G, si, h⟩ := h
  exact h v H G si .refl (r G)
theorem E_int (hk : z.K = X.K) {n : Int} {j : Nat} : E X z W (.Constant (.int n) j pos) (sV (.int n)) := ⟨PE.le pe_int fun _ _ _ h => tC_run (fun G => .int n) h, hk⟩
theorem E_str (hk : z.K = X.K) {n : Str} {j : Nat} : E X z W (.Constant (.str n) j pos) (sV (.str n)) := ⟨PE.le pe_str fun _ _ _ h => tC_run (fun G => .str n) h, hk⟩
theorem E_bl (hk : z.K = X.K) {n : Bool} {j : Nat} : E X z W (.Constant (.bool n) j pos) (sV (.bl n)) := ⟨PE.le pe_bl fun _ _ _ h => tC_run (fun G => .bl n) h, hk⟩
theorem E_non (hk : z.K = X.K) {j : Nat} : E X z W (.Constant .none j pos) (sV .non) := ⟨PE.le pe_non fun _ _ _ h => tC_run (fun G => .non) h, hk⟩
/-- a constant of the module -/
theorem E_gint {x : Str} {n : Int} {t : Tok} (hk : z.K = X.K) (hg : Gl X x) (hm : X.mg x = some (.int n t)) (hd : (x == ("__debug__" : Str)) = false := by decide) : E X z W (.Name x pos) (sV (.int n)) :=
  ⟨PE.le (pe_glob hg hm (v := .int n) ⟨t, rfl⟩ hd) fun _ _ _ h => tC_run (fun G => .int n) h, hk⟩
theorem E_gstr {x : Str} {n : Str} {t : Tok} (hk : z.K = X.K) (hg : Gl X x) (hm : X.mg x = some (.str n t)) (hd : (x == ("__debug__" : Str)) = false := by decide) : E X z W (.Name x pos) (sV (.str n)) :=
  ⟨PE.le (pe_glob hg hm (v := .str n) ⟨t, rfl⟩ hd) fun _ _ _ h => tC_run (fun G => .str n) h, hk⟩

/-! ### operators -/
theorem E_bin {op : Operator} {g : D → D → Option R} (ho : OpR X (binaryOp op) (rD2 z g)) (ha : E X z W a fa) (hb : E X z W b fb) : E X z W (.BinOp a op b pos) (sOp g fa fb) :=
  ⟨PE.le (pe_op ho ha.pe hb.pe) fun _ _ _ ⟨_, _, si, h⟩ => sOp_run si h, ha.k⟩
theorem E_un {op : UnaryOp} {g : D → Option R} (ho : UnR X (unaryOp op) (rD1 z g)) (ha : E X z W a fa) : E X z W (.UnaryOp op a pos) (sUn g fa) :=
  ⟨PE.le (pe_un ho ha.pe) fun _ _ _ ⟨_, _, si, h⟩ => sUn_run si h, ha.k⟩
theorem E_cmp {op : CmpOp} {g : D → D → Option R} (ho : OpR X (compareOp op) (rD2 z g)) (ha : E X z W a fa) (hb : E X z W b fb) (hm : behindInMarks op b = false) : E X z W (.Compare a [op] [b] pos) (sOp g fa fb) :=
  ⟨PE.le (pe_cmpR ho ha.pe hb.pe hm) fun _ _ _ ⟨_, _, si, h⟩ => sOp_run si h, ha.k⟩
theorem E_ix {g : D → D → Option R} (ho : IxR X (rD2 z g)) (ha : E X z W a fa) (hb : E X z W b fb) (hs : PlainIx b) : E X z W (.Subscript a b pos) (sOp g fa fb) :=
  ⟨PE.le (pe_ix ho ha.pe hb.pe hs) fun _ _ _ ⟨_, _, si, h⟩ => sOp_run si h, ha.k⟩

/-! ### tests -/
def PostT (z : Dx) (W : WX) (S : SS) (G H : Hp) (σ : L2.St) (Q : Bool → Hp → Prop) : Res Bool → Prop
  | .ok b S' => ∀ H' G', SI z S' σ H' G' → Go S S' σ σ H H' G G' → Q b H'
  | .ex c w S' => ∀ H' G', SI z S' σ H' G' → Go S S' σ σ H H' G G' → WOk z W G' σ H' c w
  | .no => False
def tDT (z : Dx) (W : WX) (f : M Bool) : TT := fun σ H Q => ∃ S G, SI z S σ H G ∧ PostT z W S G H σ Q (f S)
structure T (X : Cx) (z : Dx) (W : WX) (e : Expr) (f : M Bool) : Prop where
  pt : PT X e (tDT z W f)
  k : z.K = X.K
section
variable {S S1 : SS} {G G1 H H1 : Hp} {σ : L2.St} {QT QT' : Bool → Hp → Prop} {Q : VK}
theorem PostT.mono {r : Res Bool} (h : PostT z W S G H σ QT r) (q : ∀ v H, QT v H → QT' v H) : PostT z W S G H σ QT' r := by
  cases r with
  | ok r S' => exact fun H' G' si g => q _ _ (h H' G' si g)
  | ex c w S' => exact h
  | no => exact h
theorem tDT.mono {f : M Bool} (h : tDT z W f σ H QT) (q : ∀ v H, QT v H → QT' v H) : tDT z W f σ H QT' := by
  obtain ⟨S, G, si, p⟩ := h
  exact ⟨S, G, si, p.mono q⟩
theorem PostT.from {r : Res Bool} (h : PostT z W S G H σ QT r) (g : Go S S1 σ σ H H1 G G1) : PostT z W S1 G1 H1 σ QT r := by
  cases r with
  | ok r S' => exact fun H' G' si g' => h H' G' si (g.trans g')
  | ex c w S' => exact fun H' G' si g' => h H' G' si (g.trans g')
  | no => exact h
/-- an expression ahead of what ends in a truth -/
theorem stepT {fa : M R} {k : R → SS → Res Bool} (si : SI z S σ H G) (h : PostT z W S G H σ QT ((fa S).bind k)) :
    tD z W fa σ H fun x H1 => ∃ ra S1 G1, SI z S1 σ H1 G1 ∧ Go S S1 σ σ H H1 G G1 ∧ DenS z σ G1 x ra ∧ PostT z W S1 G1 H1 σ QT (k ra S1) := by
  cases e : fa S with
  | ok ra S1 =>
    rw [e] at h
    have h' : Post z W S G H σ (fun x H1 => ∃ ra S1 G1, SI z S1 σ H1 G1 ∧ Go S S1 σ σ H H1 G G1 ∧ DenS z σ G1 x ra ∧ PostT z W S1 G1 H1 σ QT (k ra S1)) ((fa S).bind fun ra S1 => .ok ra S1) := by
      rw [e]
      intro v H1 G1 si1 g1 dn
      have q := PostT.from h g1
      cases ra with
      | v d => exact ⟨.v d, S1, G1, si1, g1, dn, q⟩
      | f d =>
        obtain ⟨p, rfl, h1, h2, h3, h4⟩ := dn
        obtain ⟨o, ho⟩ := h4.there
        have g2 : Go S S1 σ σ H H1 G (upd G1 p o) := ⟨g1.ge.trans (upd_le h2), fun a o' q n => (g1.fr a o' q n).ge (upd_le h2), g1.ow, fun a u q => by
          by_cases e : a = p
          · subst e; exact .inr (.inl h1)
          · rw [upd_ne e] at q; exact g1.nw a u q, g1.th⟩
        exact ⟨.f d, S1, _, si1.add ho h2 h3 (h4.nt ho), g2, h4.rep ho (upd_le h2) upd_same, PostT.from h g2⟩
      | «at» i => exact ⟨.at i, S1, G1, si1, g1, dn, q⟩
    refine ⟨S, G, si, ?_⟩
    rw [e] at h'
    rw [e]
    exact h'
  | ex c w S1 =>
    rw [e] at h
    exact ⟨S, G, si, by rw [e]; exact h⟩
  | no =>
    rw [e] at h
    exact h.elim
/-- a truth ahead of what ends in a result -/
theorem stepB {ft : M Bool} {k : Bool → SS → Res R} (si : SI z S σ H G) (h : Post z W S G H σ Q ((ft S).bind k)) :
    tDT z W ft σ H fun b H1 => ∃ S1 G1, SI z S1 σ H1 G1 ∧ Go S S1 σ σ H H1 G G1 ∧ Post z W S1 G1 H1 σ Q (k b S1) := by
  refine ⟨S, G, si, ?_⟩
  cases e : ft S with
  | ok b S1 =>
    rw [e] at h
    exact fun H1 G1 si1 g1 => ⟨S1, G1, si1, g1, Post.from h g1⟩
  | ex c w S1 => rw [e] at h; exact h
  | no => rw [e] at h; exact h
theorem stepBT {ft : M Bool} {k : Bool → SS → Res Bool} (si : SI z S σ H G) (h : PostT z W S G H σ QT ((ft S).bind k)) :
    tDT z W ft σ H fun b H1 => ∃ S1 G1, SI z S1 σ H1 G1 ∧ Go S S1 σ σ H H1 G G1 ∧ PostT z W S1 G1 H1 σ QT (k b S1) := by
  refine ⟨S, G, si, ?_⟩
  cases e : ft S with
  | ok b S1 =>
    rw [e] at h
    exact fun H1 G1 si1 g1 => ⟨S1, G1, si1, g1, PostT.from h g1⟩
  | ex c w S1 => rw [e] at h; exact h
  | no => rw [e] at h; exact h
end

/-- truth by data -/
def D.truth : D → Option Bool
  | .non => some false
  | .bl b => some b
  | .int i => some (i != 0)
  | .str s => if s.length ≤ 1000000 then some ((s.length : Int) != 0) else none
  | .lst l => some (!l.isEmpty)
  | .tup l => some (!l.isEmpty)
  | .dct l => some (!l.isEmpty)
  | _ => none
theorem emptyL {z : Dx} {G : Hp} {xs : List V} {l : List D} (r : RepL z G xs l) : (!xs.isEmpty) = !l.isEmpty := by
  cases r <;> rfl
theorem line1 {n : Nat} (h : n ≤ 1000000) : n ≤ sizeLine := Nat.le_trans h (by rw [sizeLine_eq]; decide)
theorem tru_dl (hk : z.K = X.K) : TruR X (fun x H Q => ∃ G d k, LeH G H ∧ View z G H x d ∧ d.truth = some k ∧ Q k H) := by
  intro pins s σ H x v Q I rx h
  obtain ⟨G, d, k, le, vw, e, q⟩ := h
  cases d with
  | non => cases e; obtain rfl := vw.non; exact tru_ok pins s σ H _ v Q I rx ⟨_, rfl, q⟩
  | bl b => cases e; obtain rfl := vw.bl; exact tru_ok pins s σ H _ v Q I rx ⟨_, rfl, q⟩
  | int i => cases e; obtain rfl := vw.int; exact tru_ok pins s σ H _ v Q I rx ⟨_, rfl, q⟩
  | str y =>
    obtain rfl := vw.str
    have e : (if y.length ≤ 1000000 then some ((y.length : Int) != 0) else none) = some k := e
    by_cases hy : y.length ≤ 1000000
    · rw [if_pos hy] at e; cases e
      exact tru_ok pins s σ H _ v Q I rx ⟨_, ⟨line1 hy, rfl⟩, q⟩
    · rw [if_neg hy] at e; cases e
  | lst l =>
    cases e
    obtain ⟨a, xs, rfl, ha, r⟩ := vw.lst le
    exact tru_ok pins s σ H _ v Q I rx ⟨_, .inl ⟨xs, SqL.of ha, rfl⟩, by rw [emptyL r]; exact q⟩
  | tup l =>
    cases e
    obtain ⟨a, xs, rfl, ha, r⟩ := vw.tup le
    rw [hk] at ha
    exact tru_ok pins s σ H _ v Q I rx ⟨_, .inr (.inl ⟨xs, ha, rfl⟩), by rw [emptyL r]; exact q⟩
  | dct l =>
    cases e
    obtain ⟨a, vs, rfl, ha, kk, r⟩ := vw.dct le
    cases rx
    have e2 : (!vs.isEmpty) = !l.isEmpty := by
      cases vs <;> cases l <;> simp at kk ⊢
    exact d_truth I ha fun s' I' => ⟨H, I', by rw [e2]; exact q⟩
  | _ => cases e
def lookB (S : SS) (r : R) : Option Bool := (look S r).bind D.truth
def liftT (r : Option Bool) (S : SS) : Res Bool := match r with
  | some r => .ok r S
  | none => .no
/-- by truth -/
def sTru (fa : M R) : M Bool := fun S => (fa S).bind fun ra S1 => liftT (lookB S1 ra) S1
theorem T_tru (ha : E X z W a fa) (he : ∀ whole, isTrue a X.env whole = (do let v ← whole; standAt a.pos; holding [v] (truthy v)) := by intro _; rfl) : T X z W a (sTru fa) := by
  refine ⟨⟨fun pins s σ H Q I ⟨S, G, si, h⟩ => ?_⟩, ha.k⟩
  refine isTrue_plain (thn (ha.pe.run pins s σ H _ I (stepT si h)) fun v s1 ⟨x, H1, I1, r1, ra, S1, G1, si1, g1, dn, h1⟩ => ?_) (he _)
  unfold lookB at h1
  cases e : look S1 ra with
  | none => rw [e] at h1; exact h1.elim
  | some d =>
    rw [e] at h1
    have h1 : PostT z W S1 G1 H1 σ Q (liftT d.truth S1) := h1
    cases e2 : d.truth with
    | none => rw [e2] at h1; exact h1.elim
    | some k =>
      rw [e2] at h1
      exact tru_dl ha.k pins s1 σ H1 x v Q I1 r1 ⟨G1, d, k, si1.le, dn.view si1 e, e2, h1 H1 G1 si1 .refl⟩
/-- a comparison -/
def sCmpT (g : D → D → Option Bool) (fa fb : M R) : M Bool := fun S => (fa S).bind fun ra S1 => (fb S1).bind fun rb S2 => liftT (do let da ← look S2 ra; let db ← look S2 rb; g da db) S2
def toB (g : D → D → Option Bool) : D → D → Option R := fun a b => (g a b).map fun k => .v (.bl k)
theorem T_cmp {op : CmpOp} {g : D → D → Option Bool} (ho : OpR X (compareOp op) (rD2 z (toB g))) (ha : E X z W a fa) (hb : E X z W b fb) (hm : behindInMarks op b = false) : T X z W (.Compare a [op] [b] pos) (sCmpT g fa fb) := by
  refine ⟨PT.le (pt_cmpR ho ha.pe hb.pe hm) fun σ H Q ⟨S, G, si, h⟩ => ?_, ha.k⟩
  refine (stepT si h).mono fun x H1 ⟨ra, S1, G1, si1, _, da, h1⟩ => ?_
  refine (stepT si1 h1).mono fun y H2 ⟨rb, S2, G2, si2, g2, db, h2⟩ => ?_
  have da2 := da.mono g2.ge
  cases ea : look S2 ra with
  | none => rw [ea] at h2; exact h2.elim
  | some d1 =>
    cases eb : look S2 rb with
    | none => rw [ea, eb] at h2; exact h2.elim
    | some d2 =>
      rw [ea, eb] at h2
      have h2 : PostT z W S2 G2 H2 σ Q (liftT (g d1 d2) S2) := h2
      cases e : g d1 d2 with
      | none => rw [e] at h2; exact h2.elim
      | some k =>
        rw [e] at h2
        refine ⟨G2, d1, d2, .v (.bl k), si2.le, da2.view si2 ea, db.view si2 eb, by unfold toB; rw [e]; rfl, fun v H' G' x dn => ?_⟩
        cases dn
        exact ⟨k, rfl, h2 H' G' (si2.ext x) x.go⟩
theorem E_cmpT {op : CmpOp} {g : D → D → Option Bool} (ho : OpR X (compareOp op) (rD2 z (toB g))) (ha : E X z W a fa) (hb : E X z W b fb) (hm : behindInMarks op b = false) : E X z W (.Compare a [op] [b] pos) (sOp (toB g) fa fb) := E_cmp ho ha hb hm
def sAnd (ft fu : M Bool) : M Bool := fun S => (ft S).bind fun b S1 => if b = true then fu S1 else .ok false S1
def sOr (ft fu : M Bool) : M Bool := fun S => (ft S).bind fun b S1 => if b = true then .ok true S1 else fu S1
def sNot (ft : M Bool) : M Bool := fun S => (ft S).bind fun b S1 => .ok (!b) S1
/-- and, or within a test -/
structure Tw (X : Cx) (z : Dx) (W : WX) (e : Expr) (f : M Bool) : Prop where
  pw : PW X e (tDT z W f)
  k : z.K = X.K
variable {ft fu : M Bool} {rest : List Expr}
theorem PW.le {e : Expr} {t t' : TT} (h : PW X e t) (w : ∀ σ H Q, t' σ H Q → t σ H Q) : PW X e t' := ⟨fun wh pins s σ H Q I q => h.run wh pins s σ H Q I (w σ H Q q)⟩
theorem Tw.t {e : Expr} (h : Tw X z W e ft) : T X z W e ft := ⟨h.pw.pt, h.k⟩
theorem Tw_and1 (ha : T X z W a ft) : Tw X z W (.BoolOp .And [a] pos) ft := ⟨pw_and1 ha.pt, ha.k⟩
theorem Tw_or1 (ha : T X z W a ft) : Tw X z W (.BoolOp .Or [a] pos) ft := ⟨pw_or1 ha.pt, ha.k⟩
theorem Tw_and (ha : T X z W a ft) (hb : Tw X z W (.BoolOp .And (b :: rest) pos) fu) : Tw X z W (.BoolOp .And (a :: b :: rest) pos) (sAnd ft fu) := by
  refine ⟨PW.le (pw_and ha.pt hb.pw) fun σ H Q ⟨S, G, si, h⟩ => ?_, ha.k⟩
  refine (stepBT si h).mono fun c H1 ⟨S1, G1, si1, _, h1⟩ => ?_
  cases c with
  | true => rw [if_pos rfl] at h1 ⊢; exact ⟨S1, G1, si1, h1⟩
  | false => rw [if_neg Bool.false_ne_true] at h1 ⊢; exact h1 H1 G1 si1 .refl
theorem Tw_or (ha : T X z W a ft) (hb : Tw X z W (.BoolOp .Or (b :: rest) pos) fu) : Tw X z W (.BoolOp .Or (a :: b :: rest) pos) (sOr ft fu) := by
  refine ⟨PW.le (pw_or ha.pt hb.pw) fun σ H Q ⟨S, G, si, h⟩ => ?_, ha.k⟩
  refine (stepBT si h).mono fun c H1 ⟨S1, G1, si1, _, h1⟩ => ?_
  cases c with
  | true => rw [if_pos rfl] at h1 ⊢; exact h1 H1 G1 si1 .refl
  | false => rw [if_neg Bool.false_ne_true] at h1 ⊢; exact ⟨S1, G1, si1, h1⟩
theorem T_not (ha : T X z W a ft) : T X z W (.UnaryOp .Not a pos) (sNot ft) := by
  refine ⟨PT.le (pt_not ha.pt) fun σ H Q ⟨S, G, si, h⟩ => ?_, ha.k⟩
  exact (stepBT si h).mono fun c H1 ⟨S1, G1, si1, _, h1⟩ => h1 H1 G1 si1 .refl
/-- not x as a value -/
theorem E_not (ha : E X z W a fa) : E X z W (.UnaryOp .Not a pos) (sUn (fun d => d.truth.map fun k => .v (.bl (!k))) fa) := by
  refine ⟨⟨fun pins s σ H Q I ⟨S, G, si, h⟩ => ?_⟩, ha.k⟩
  refine UnaryOp_ (thn (ha.pe.run pins s σ H _ I (sUn_run si h)) fun v s1 ⟨x, H1, I1, r1, G1, d, r, le, vw, e, q⟩ => ?_)
  have e : (d.truth.map fun k => R.v (.bl (!k))) = some r := e
  cases e2 : d.truth with
  | none => rw [e2] at e; cases e
  | some k =>
    rw [e2] at e; cases e
    refine PyProof.Rows.not_of (thn (tru_dl ha.k pins s1 σ H1 x v (fun c H2 => Q (.bl (!c)) H2) I1 r1 ⟨G1, d, k, le, vw, e2, q.rep le (.bl _)⟩) fun c s2 ⟨H2, I2, q2⟩ => ?_)
    exact ⟨.bl (!c), H2, I2, rfl, q2⟩
def sIf (ft : M Bool) (fa fb : M R) : M R := fun S => (ft S).bind fun b S1 => if b = true then fa S1 else fb S1
theorem E_if {t : Expr} (ht : T X z W t ft) (ha : E X z W a fa) (hb : E X z W b fb) : E X z W (.IfExp t a b pos) (sIf ft fa fb) := by
  refine ⟨PE.le (pe_ifExp ht.pt ha.pe hb.pe) fun σ H Q ⟨S, G, si, h⟩ => ?_, ha.k⟩
  refine (stepB si h).mono fun c H1 ⟨S1, G1, si1, _, h1⟩ => ?_
  cases c with
  | true => rw [if_pos rfl] at h1 ⊢; exact ⟨S1, G1, si1, h1⟩
  | false => rw [if_neg Bool.false_ne_true] at h1 ⊢; exact ⟨S1, G1, si1, h1⟩
end
end L2.Dl
/-! Lists of arguments, calls of built-ins, displays, sharing. -/
namespace L2.Dl
open PySem PySem.Spec PyProof.Rows

section
variable {z : Dx} {W : WX} {S S1 : SS} {G G1 H H1 : Hp} {σ : L2.St} {Q : VK}
abbrev DenL (z : Dx) (σ : L2.St) (G : Hp) : List V → List R → Prop := Paired fun v r => DenS z σ G v r
theorem DenL.mono {vs : List V} {rs : List R} (h : DenL z σ G vs rs) (g : GLe G G1) : DenL z σ G1 vs rs := Paired.mapP h fun _ _ q => q.mono g
def PostL (z : Dx) (W : WX) (S : SS) (G H : Hp) (σ : L2.St) (Q : List V → Hp → Prop) : Res (List R) → Prop
  | .ok rs S' => ∀ vs H' G', SI z S' σ H' G' → Go S S' σ σ H H' G G' → DenL z σ G' vs rs → Q vs H'
  | .ex c w S' => ∀ H' G', SI z S' σ H' G' → Go S S' σ σ H H' G G' → WOk z W G' σ H' c w
  | .no => False
def tDL (z : Dx) (W : WX) (f : M (List R)) : TA := fun σ H Q => ∃ S G, SI z S σ H G ∧ PostL z W S G H σ Q (f S)
structure L (X : Cx) (z : Dx) (W : WX) (es : List Expr) (f : M (List R)) : Prop where
  pa : PA X es (tDL z W f)
theorem PostL.from {QL : List V → Hp → Prop} {r : Res (List R)} (h : PostL z W S G H σ QL r) (g : Go S S1 σ σ H H1 G G1) : PostL z W S1 G1 H1 σ QL r := by
  cases r with
  | ok r S' => exact fun vs H' G' si g' => h vs H' G' si (g.trans g')
  | ex c w S' => exact fun H' G' si g' => h H' G' si (g.trans g')
  | no => exact h
theorem PostL.mono {QL QL' : List V → Hp → Prop} {r : Res (List R)} (h : PostL z W S G H σ QL r) (q : ∀ v H, QL v H → QL' v H) : PostL z W S G H σ QL' r := by
  cases r with
  | ok r S' => exact fun v H' G' si g dn => q _ _ (h v H' G' si g dn)
  | ex c w S' => exact h
  | no => exact h
theorem tDL.mono {QL QL' : List V → Hp → Prop} {f : M (List R)} (h : tDL z W f σ H QL) (q : ∀ v H, QL v H → QL' v H) : tDL z W f σ H QL' := by
  obtain ⟨S, G, si, p⟩ := h
  exact ⟨S, G, si, p.mono q⟩
/-- settle a result: it is shared from now on -/
theorem settle {S' : SS} {v : V} {r : R} {H' G' : Hp} (si : SI z S' σ H' G') (g : Go S S' σ σ H H' G G') (dn : Den z S' σ H H' G' v r) : ∃ G2, SI z S' σ H' G2 ∧ Go S S' σ σ H H' G G2 ∧ GLe G' G2 ∧ DenS z σ G2 v r := by
  cases r with
  | v d => exact ⟨G', si, g, .refl _, dn⟩
  | f d =>
    obtain ⟨p, rfl, h1, h2, h3, h4⟩ := dn
    obtain ⟨o, ho⟩ := h4.there
    exact ⟨upd G' p o, si.add ho h2 h3 (h4.nt ho), ⟨g.ge.trans (upd_le h2), fun a o' q n => (g.fr a o' q n).ge (upd_le h2), g.ow, fun a u q => by
      by_cases e : a = p
      · subst e; exact .inr (.inl h1)
      · rw [upd_ne e] at q; exact g.nw a u q, g.th⟩, upd_le h2, h4.rep ho (upd_le h2) upd_same⟩
  | «at» i => exact ⟨G', si, g, .refl _, dn⟩
/-- an expression, then anything told by K -/
theorem stepG {α : Type} {P : SS → Hp → Hp → Res α → Prop} (from_ : ∀ {S1 : SS} {H1 G1 : Hp} {r : Res α}, P S G H r → Go S S1 σ σ H H1 G G1 → P S1 G1 H1 r)
    (exc : ∀ {c w S1}, P S G H (.ex c w S1) → ∀ H' G', SI z S1 σ H' G' → Go S S1 σ σ H H' G G' → WOk z W G' σ H' c w) (no : ¬ P S G H .no)
    {fa : M R} {k : R → SS → Res α} (si : SI z S σ H G) (h : P S G H ((fa S).bind k)) :
    tD z W fa σ H fun x H1 => ∃ ra S1 G1, SI z S1 σ H1 G1 ∧ Go S S1 σ σ H H1 G G1 ∧ DenS z σ G1 x ra ∧ P S1 G1 H1 (k ra S1) := by
  refine ⟨S, G, si, ?_⟩
  cases e : fa S with
  | ok ra S1 =>
    rw [e] at h
    intro v H1 G1 si1 g1 dn
    obtain ⟨G2, si2, g2, _, dn2⟩ := settle si1 g1 dn
    exact ⟨ra, S1, G2, si2, g2, dn2, from_ h g2⟩
  | ex c w S1 =>
    rw [e] at h
    exact exc h
  | no =>
    rw [e] at h
    exact (no h).elim
def sNil : M (List R) := fun S => .ok [] S
def sCons (fa : M R) (fr : M (List R)) : M (List R) := fun S => (fa S).bind fun ra S1 => (fr S1).bind fun rs S2 => .ok (ra :: rs) S2
variable {X : Cx}
theorem PA_le {e : List Expr} {t t' : TA} (h : PA X e t) (w : ∀ σ H Q, t' σ H Q → t σ H Q) : PA X e t' := ⟨fun pos pins s σ H Q I q => h.run pos pins s σ H Q I (w σ H Q q)⟩
theorem L_nil : L X z W [] sNil := ⟨PA_le pa_nil fun σ H Q ⟨S, G, si, h⟩ => h [] H G si .refl .nil⟩
theorem L_cons {e : Expr} {es : List Expr} {fa : M R} {fr : M (List R)} (ha : E X z W e fa) (hr : L X z W es fr) (hs : starEach (e :: es) X.env = (false, eval e X.env) :: starEach es X.env := by rfl) : L X z W (e :: es) (sCons fa fr) := by
  refine ⟨PA_le (pa_cons ha.pe hr.pa hs) fun σ H Q ⟨S, G, si, h⟩ => ?_⟩
  refine (stepG (P := fun S G H r => PostL z W S G H σ Q r) (fun h g => h.from g) (fun h => h) (fun h => h) si h).mono fun x H1 ⟨ra, S1, G1, si1, _, da, h1⟩ => ?_
  refine ⟨S1, G1, si1, ?_⟩
  cases e : fr S1 with
  | ok rs S2 =>
    rw [e] at h1
    intro vs H2 G2 si2 g2 dl
    exact h1 (x :: vs) H2 G2 si2 g2 (.cons (da.mono g2.ge) dl)
  | ex c w S2 =>
    rw [e] at h1
    exact h1
  | no =>
    rw [e] at h1
    exact h1.elim
/-- arguments ahead of a result -/
theorem stepL {fl : M (List R)} {k : List R → SS → Res R} (si : SI z S σ H G) (h : Post z W S G H σ Q ((fl S).bind k)) :
    tDL z W fl σ H fun vs H1 => ∃ rs S1 G1, SI z S1 σ H1 G1 ∧ Go S S1 σ σ H H1 G G1 ∧ DenL z σ G1 vs rs ∧ Post z W S1 G1 H1 σ Q (k rs S1) := by
  refine ⟨S, G, si, ?_⟩
  cases e : fl S with
  | ok rs S1 =>
    rw [e] at h
    exact fun vs H1 G1 si1 g1 dl => ⟨rs, S1, G1, si1, g1, dl, Post.from h g1⟩
  | ex c w S1 => rw [e] at h; exact h
  | no => rw [e] at h; exact h

def lookL (S : SS) : List R → Option (List D)
  | [] => some []
  | r :: rs => match look S r with
    | none => none
    | some d => match lookL S rs with
      | none => none
      | some ds => some (d :: ds)
theorem DenL.view {vs : List V} {rs : List R} (h : DenL z σ G vs rs) (si : SI z S σ H G) : ∀ {ds : List D}, lookL S rs = some ds → ViewL z G H vs ds := by
  induction h with
  | nil => intro ds e; cases e; exact .nil
  | cons a b ih =>
    intro ds e
    unfold lookL at e
    split at e
    · cases e
    · rename_i d e1
      split at e
      · cases e
      · rename_i ds' e2
        cases e
        exact .cons (a.view si e1) (ih e2)
def sCall (g : List D → Option R) (fl : M (List R)) : M R := fun S => (fl S).bind fun rs S1 => lift (do let ds ← lookL S1 rs; g ds) S1
theorem sCall_run {g : List D → Option R} {fl : M (List R)} (si : SI z S σ H G) (h : Post z W S G H σ Q (sCall g fl S)) : tDL z W fl σ H fun vs H1 => rDL z g vs H1 Q := by
  refine (stepL si h).mono fun vs H1 ⟨rs, S1, G1, si1, _, dl, h1⟩ => ?_
  cases ea : lookL S1 rs with
  | none => rw [ea] at h1; exact h1.elim
  | some ds =>
    rw [ea] at h1
    have h1 : Post z W S1 G1 H1 σ Q (lift (g ds) S1) := h1
    cases e : g ds with
    | none => rw [e] at h1; exact h1.elim
    | some r =>
      rw [e] at h1
      exact ⟨G1, ds, r, si1.le, dl.view si1 ea, e, VP.fin si1 h1⟩
theorem E_callB {id : String} {g : List D → Option R} {x : Str} {e : Expr} {es : List Expr} {p pos : Pos} {fl : M (List R)} (hk : z.K = X.K) (hc : CallR X (.builtin id) (rDL z g)) (hg : Gl X x) (hm : X.mg x = none) (hv : bootBuiltins x = some (.builtin id))
    (hl : L X z W (e :: es) fl) (hn : x ≠ "__name__" := by decide) (hdb : (x == ("__debug__" : Str)) = false := by decide) (hs : starEach (e :: es) X.env = (false, eval e X.env) :: starEach es X.env := by rfl)
    (hpl : (backTo pos (starEach es X.env)).any (·.1) = false := by rfl) : E X z W (.Call (.Name x p) (e :: es) [] pos) (sCall g fl) :=
  ⟨PE.le (by first | exact pe_callB hc hg hm hv hl.pa hn hdb hs hpl | exact pe_callB hc hg hm hv hl.pa hn hdb) fun σ H Q ⟨S, G, si, h⟩ => sCall_run si h, hk⟩
theorem E_callT {T : String} {g : List D → Option R} {x : Str} {e : Expr} {es : List Expr} {p pos : Pos} {fl : M (List R)} (hk : z.K = X.K) (hc : CallR X (.type T) (rDL z g)) (hg : Gl X x) (hm : X.mg x = none) (hv : bootBuiltins x = some (.type T))
    (hl : L X z W (e :: es) fl) (hn : x ≠ "__name__" := by decide) (hdb : (x == ("__debug__" : Str)) = false := by decide) (hs : starEach (e :: es) X.env = (false, eval e X.env) :: starEach es X.env := by rfl)
    (hpl : (backTo pos (starEach es X.env)).any (·.1) = false := by rfl) : E X z W (.Call (.Name x p) (e :: es) [] pos) (sCall g fl) :=
  ⟨PE.le (by first | exact pe_callTy hc hg hm hv hl.pa hn hdb hs hpl | exact pe_callTy hc hg hm hv hl.pa hn hdb) fun σ H Q ⟨S, G, si, h⟩ => sCall_run si h, hk⟩

/-! ### sharing -/
/-- the slot's object is shared from now on -/
def freeze (S : SS) (i : Nat) : SS := match S[i]? with
  | some (.own t d) => S.set i (.shr d)
  | _ => S
theorem SI.freeze1 {i : Nat} {t : Option Nat} {d : D} {a : Addr} (si : SI z S σ H G) (e : S[i]? = some (.own t d)) (ea : σ[i]? = some (some (.ref a))) :
    ∃ G1, SI z (S.set i (.shr d)) σ H G1 ∧ Go S (S.set i (.shr d)) σ σ H H G G1 ∧ Rep z G1 (.ref a) d := by
  obtain ⟨a', ea', ga, ow, _⟩ := si.own i t d e
  rw [ea] at ea'; cases ea'
  obtain ⟨o, ho⟩ := ow.there
  have hi : i < S.length := (List.getElem?_eq_some_iff.mp e).1
  have rp : Rep z (upd G a o) (.ref a) d := ow.rep ho (upd_le ga) upd_same
  have get : ∀ j w, (S.set i (.shr d))[j]? = some w → (j = i ∧ w = .shr d) ∨ (j ≠ i ∧ S[j]? = some w) := fun j w h => by
    by_cases hj : j = i
    · subst hj
      rw [List.getElem?_set_self hi] at h
      exact .inl ⟨rfl, (Option.some.inj h).symm⟩
    · rw [List.getElem?_set_ne (Ne.symm hj)] at h
      exact .inr ⟨hj, h⟩
  refine ⟨upd G a o, ⟨by rw [List.length_set]; exact si.len, ?_, fun j d' h => ?_, fun j t' d' h => ?_, fun j k tj dj tk dk b h1 h2 h3 h4 => ?_, si.dom, si.tab.ge (upd_le ga)⟩, ⟨upd_le ga, fun _ _ h _ => .inl h, fun b ⟨j, t', d', h1, h2⟩ => ?_, fun b u h => ?_, fun _ h => h⟩, rp⟩
  · intro b u h
    by_cases hb : b = a
    · subst hb; rw [upd_same] at h; cases h; exact .inl ⟨ho, ow.nt ho⟩
    · rw [upd_ne hb] at h; exact si.le b u h
  · rcases get j _ h with ⟨rfl, e1⟩ | ⟨_, e1⟩
    · cases e1; exact ⟨_, ea, rp⟩
    · obtain ⟨v, q, r⟩ := si.shr j d' e1
      exact ⟨v, q, r.mono (upd_le ga)⟩
  · rcases get j _ h with ⟨_, e1⟩ | ⟨hj, e1⟩
    · cases e1
    · obtain ⟨b, q, g, o', t1, t2⟩ := si.own j t' d' e1
      have hb : b ≠ a := fun z' => hj (si.sep j i _ _ _ _ a e1 e (by rw [← z']; exact q) ea)
      exact ⟨b, q, by rw [upd_ne hb]; exact g, o'.mono (upd_le ga) fun _ h => h, t1, t2⟩
  · rcases get j _ h1 with ⟨_, e1⟩ | ⟨_, e1⟩
    · cases e1
    · rcases get k _ h2 with ⟨_, e2⟩ | ⟨_, e2⟩
      · cases e2
      · exact si.sep j k _ _ _ _ b e1 e2 h3 h4
  · rcases get j _ h1 with ⟨_, e1⟩ | ⟨_, e1⟩
    · cases e1
    · exact .inl ⟨j, t', d', e1, h2⟩
  · by_cases hb : b = a
    · subst hb; exact .inr (.inr ⟨i, t, d, e, ea⟩)
    · rw [upd_ne hb] at h; exact .inl h
/-- a result's data, shared -/
def valR (S : SS) : R → Option (D × SS)
  | .v d => some (d, S)
  | .f d => some (d, S)
  | .at i => match S[i]? with
    | some (.shr d) => some (d, S)
    | some (.own t d) => some (d, S.set i (.shr d))
    | _ => none
theorem valR_run {v : V} {r : R} {d : D} {S1 : SS} (si : SI z S σ H G) (dn : DenS z σ G v r) (e : valR S r = some (d, S1)) : ∃ G1, SI z S1 σ H G1 ∧ Go S S1 σ σ H H G G1 ∧ Rep z G1 v d := by
  cases r with
  | v d' => cases e; exact ⟨G, si, .refl, dn⟩
  | f d' => cases e; exact ⟨G, si, .refl, dn⟩
  | «at» i =>
    have dn : σ[i]? = some (some v) := dn
    unfold valR at e
    simp only at e
    split at e
    · rename_i d' e1
      cases e
      obtain ⟨v', e2, r⟩ := si.shr i _ e1
      rw [dn] at e2; cases e2
      exact ⟨G, si, .refl, r⟩
    · rename_i t d' e1
      cases e
      obtain ⟨a, e2, _⟩ := si.own i _ _ e1
      rw [dn] at e2; cases e2
      exact si.freeze1 e1 dn
    · cases e
def valsR (S : SS) : List R → Option (List D × SS)
  | [] => some ([], S)
  | r :: rs => match valR S r with
    | none => none
    | some (d, S1) => match valsR S1 rs with
      | none => none
      | some (ds, S2) => some (d :: ds, S2)
theorem valsR_run {vs : List V} {rs : List R} (dl : DenL z σ G vs rs) : ∀ {S : SS} {ds : List D} {S1 : SS}, SI z S σ H G → valsR S rs = some (ds, S1) → ∃ G1, SI z S1 σ H G1 ∧ Go S S1 σ σ H H G G1 ∧ RepL z G1 vs ds := by
  induction rs generalizing vs G with
  | nil => intro S ds S1 si e; cases dl; cases e; exact ⟨G, si, .refl, .nil⟩
  | cons r rs ih =>
    intro S ds S1 si e
    cases dl with
    | cons a b =>
      unfold valsR at e
      split at e
      · cases e
      · rename_i d S2 e1
        split at e
        · cases e
        · rename_i ds' S3 e2
          cases e
          obtain ⟨G2, si2, g2, r2⟩ := valR_run si a e1
          obtain ⟨G3, si3, g3, r3⟩ := ih (DenL.mono b g2.ge) si2 e2
          exact ⟨G3, si3, g2.trans g3, .cons (r2.mono g3.ge) r3⟩

/-! ### displays -/
/-- all arguments shared, then a new object -/
def sMake (g : List D → Option R) (fl : M (List R)) : M R := fun S => (fl S).bind fun rs S1 => match valsR S1 rs with
  | none => .no
  | some (ds, S2) => lift (g ds) S2
theorem sMake_run {g : List D → Option R} {fl : M (List R)} (si : SI z S σ H G) (h : Post z W S G H σ Q (sMake g fl S)) :
    tDL z W fl σ H fun vs H1 => ∃ G1 ds r, LeH G1 H1 ∧ RepL z G1 vs ds ∧ g ds = some r ∧ VP z H1 G1 Q r := by
  refine (stepL si h).mono fun vs H1 ⟨rs, S1, G1, si1, _, dl, h1⟩ => ?_
  cases ea : valsR S1 rs with
  | none => rw [ea] at h1; exact h1.elim
  | some p =>
    obtain ⟨ds, S2⟩ := p
    rw [ea] at h1
    have h1 : Post z W S1 G1 H1 σ Q (lift (g ds) S2) := h1
    obtain ⟨G2, si2, g2, r2⟩ := valsR_run dl si1 ea
    cases e : g ds with
    | none => rw [e] at h1; exact h1.elim
    | some r =>
      rw [e] at h1
      exact ⟨G2, ds, r, si2.le, r2, e, VP.fin si2 (Post.from h1 g2)⟩
def gLst (ds : List D) : Option R := if ds.length ≤ 1000 then some (.f (.lst ds)) else none
def gTup (ds : List D) : Option R := if ds.length ≤ 1000 then some (.v (.tup ds)) else none
theorem line1000 {n : Nat} (h : n ≤ 1000) : n ≤ sizeLine := Nat.le_of_lt (small1000 h)
theorem E_lst {es : List Expr} {pos : Pos} {fl : M (List R)} (hk : z.K = X.K) (hl : L X z W es fl) : E X z W (.List es pos) (sMake gLst fl) := by
  refine ⟨PE.le (pe_lst hl.pa) fun σ H Q ⟨S, G, si, h⟩ => ?_, hk⟩
  refine (sMake_run si h).mono fun vs H1 ⟨G1, ds, r, le, rl, e, q⟩ => ?_
  unfold gLst at e
  split at e
  · rename_i hz
    cases e
    exact ⟨by rw [rl.length]; exact line1000 hz, fun p hp => q.new le hp ⟨vs, upd_same, rl⟩⟩
  · cases e
theorem E_tup {es : List Expr} {x1} {pos : Pos} {fl : M (List R)} (hk : z.K = X.K) (hl : L X z W es fl) : E X z W (.Tuple es x1 pos) (sMake gTup fl) := by
  refine ⟨PE.le (pe_tup hl.pa) fun σ H Q ⟨S, G, si, h⟩ => ?_, hk⟩
  refine (sMake_run si h).mono fun vs H1 ⟨G1, ds, r, le, rl, e, q⟩ => ?_
  unfold gTup at e
  split at e
  · rename_i hz
    cases e
    exact ⟨by rw [rl.length]; exact line1000 hz, fun p hp => q.newV le hp (.tup (SqT.of upd_same) (rl.mono (upd_le (le.none hp))))⟩
  · cases e
def sNewK : M R := fun S => .ok (.f (.dct [])) S
def sNewT : M R := fun S => .ok (.f (.dtt [])) S
theorem E_newK {pos : Pos} (hk : z.K = X.K) : E X z W (.Dict [] [] pos) sNewK :=
  ⟨PE.le pe_dnewK fun σ H Q ⟨S, G, si, h⟩ p hp => (VP.fin si h).new si.le hp ⟨[], upd_same, rfl, .nil⟩, hk⟩
theorem E_newT {pos : Pos} (hk : z.K = X.K) : E X z W (.Dict [] [] pos) sNewT :=
  ⟨PE.le pe_dnewT fun σ H Q ⟨S, G, si, h⟩ p hp => (VP.fin si h).new si.le hp ⟨[], upd_same, rfl, .nil⟩, hk⟩
end
end L2.Dl
/-! Statements: stores, tests, loops. -/
namespace L2.Dl
open PySem PySem.Spec PyProof.Rows

/-- what a body stands in -/
structure Ct (X : Cx) (z : Dx) (W : WX) : Prop where
  hk : z.K = X.K
  calm : X.calm = true
  hp : PassesOwn (model X.prog X.w) X.A X.env X.xe
  tk : Takes X W
  nd : X.N.Nodup
inductive Fl where
  | nx
  | bk
  | ct
  | rt (d : D) (fr : Bool)

section
variable {z : Dx} {W : WX} {S S1 : SS} {G G1 H H1 : Hp} {σ σ1 : L2.St} {Q : VK} {E1 E2 : Ends} {X : Cx}
def DenF (z : Dx) (S' : SS) (σ' : L2.St) (H' G' : Hp) (v : V) (d : D) : Bool → Prop
  | false => Rep z G' v d
  | true => ∃ p, v = .ref p ∧ z.B p = none ∧ G' p = none ∧ ¬ Owns S' σ' p ∧ OwnAt z G' H' p d
def PostS (z : Dx) (W : WX) (S : SS) (G H : Hp) (σ : L2.St) (D : Ends) : Res Fl → Prop
  | .ok .nx S' => ∀ σ' H' G', SI z S' σ' H' G' → Go S S' σ σ' H H' G G' → D.nx σ' H'
  | .ok .bk S' => ∀ σ' H' G', SI z S' σ' H' G' → Go S S' σ σ' H H' G G' → D.bk σ' H'
  | .ok .ct S' => ∀ σ' H' G', SI z S' σ' H' G' → Go S S' σ σ' H H' G G' → D.ct σ' H'
  | .ok (.rt d fr) S' => ∀ v σ' H' G', SI z S' σ' H' G' → Go S S' σ σ' H H' G G' → DenF z S' σ' H' G' v d fr → D.rt v H'
  | .ex c w S' => ∀ σ' H' G', SI z S' σ' H' G' → Go S S' σ σ' H H' G G' → WOk z W G' σ' H' c w
  | .no => False
def tDS (z : Dx) (W : WX) (f : M Fl) : TS := fun D σ H => ∃ S G, SI z S σ H G ∧ PostS z W S G H σ D (f S)
structure Sm (X : Cx) (z : Dx) (W : WX) (st : Stmt) (f : M Fl) : Prop where
  ps : PS X st (tDS z W f)
structure Sms (X : Cx) (z : Dx) (W : WX) (st : List Stmt) (f : M Fl) : Prop where
  ps : PSs X st (tDS z W f)
theorem PostS.from {r : Res Fl} (h : PostS z W S G H σ E1 r) (g : Go S S1 σ σ1 H H1 G G1) : PostS z W S1 G1 H1 σ1 E1 r := by
  cases r with
  | ok r S' =>
    cases r with
    | nx => exact fun σ' H' G' si g' => h σ' H' G' si (g.trans g')
    | bk => exact fun σ' H' G' si g' => h σ' H' G' si (g.trans g')
    | ct => exact fun σ' H' G' si g' => h σ' H' G' si (g.trans g')
    | rt d fr => exact fun v σ' H' G' si g' dn => h v σ' H' G' si (g.trans g') dn
  | ex c w S' => exact fun σ' H' G' si g' => h σ' H' G' si (g.trans g')
  | no => exact h
/-- an expression ahead of a statement's rest -/
theorem stepS {fa : M R} {k : R → SS → Res Fl} (si : SI z S σ H G) (h : PostS z W S G H σ E1 ((fa S).bind k)) :
    tD z W fa σ H fun x H1 => ∃ ra S1 G1, SI z S1 σ H1 G1 ∧ Go S S1 σ σ H H1 G G1 ∧ DenS z σ G1 x ra ∧ PostS z W S1 G1 H1 σ E1 (k ra S1) :=
  stepG (P := fun S G H r => PostS z W S G H σ E1 r) (fun h g => h.from g) (fun h H' G' si g => h σ H' G' si g) (fun h => h) si h
theorem stepTS {ft : M Bool} {k : Bool → SS → Res Fl} (si : SI z S σ H G) (h : PostS z W S G H σ E1 ((ft S).bind k)) :
    tDT z W ft σ H fun b H1 => ∃ S1 G1, SI z S1 σ H1 G1 ∧ Go S S1 σ σ H H1 G G1 ∧ PostS z W S1 G1 H1 σ E1 (k b S1) := by
  refine ⟨S, G, si, ?_⟩
  cases e : ft S with
  | ok b S1 =>
    rw [e] at h
    exact fun H1 G1 si1 g1 => ⟨S1, G1, si1, g1, PostS.from h g1⟩
  | ex c w S1 => rw [e] at h; exact fun H' G' si g => h σ H' G' si g
  | no => rw [e] at h; exact h

/-! ### blocks -/
def sSeq (f g : M Fl) : M Fl := fun S => (f S).bind fun fl S1 => match fl with
  | .nx => g S1
  | fl => .ok fl S1
def sNext : M Fl := fun S => .ok .nx S
theorem Ss_nil : Sms X z W [] sNext := ⟨PSs.le pss_nil fun D σ H ⟨S, G, si, h⟩ => h σ H G si .refl⟩
theorem Ss_one {st : Stmt} {f : M Fl} (h : Sm X z W st f) : Sms X z W [st] f := ⟨pss_one h.ps⟩
theorem Ss_cons {st : Stmt} {rest : List Stmt} {f g : M Fl} (h1 : Sm X z W st f) (h2 : Sms X z W rest g) : Sms X z W (st :: rest) (sSeq f g) := by
  refine ⟨PSs.le (pss_cons h1.ps h2.ps) fun D σ H ⟨S, G, si, h⟩ => ⟨S, G, si, ?_⟩⟩
  unfold sSeq at h
  cases e : f S with
  | ok fl S1 =>
    rw [e] at h
    cases fl with
    | nx => exact fun σ' H' G' si' g' => ⟨S1, G', si', PostS.from h g'⟩
    | bk => exact h
    | ct => exact h
    | rt d fr => exact h
  | ex c w S1 => rw [e] at h; exact h
  | no => rw [e] at h; exact h
theorem S_pass {pos : Pos} : Sm X z W (.Pass pos) sNext := ⟨PS.le ps_pass fun D σ H ⟨S, G, si, h⟩ => h σ H G si .refl⟩
def sBk : M Fl := fun S => .ok .bk S
def sCt : M Fl := fun S => .ok .ct S
theorem S_break {pos : Pos} : Sm X z W (.Break pos) sBk := ⟨PS.le ps_break fun D σ H ⟨S, G, si, h⟩ => h σ H G si .refl⟩
theorem S_continue {pos : Pos} : Sm X z W (.Continue pos) sCt := ⟨PS.le ps_continue fun D σ H ⟨S, G, si, h⟩ => h σ H G si .refl⟩
def sIfS (ft : M Bool) (f g : M Fl) : M Fl := fun S => (ft S).bind fun b S1 => if b = true then f S1 else g S1
theorem S_if {t : Expr} {a b : List Stmt} {pos : Pos} {ft : M Bool} {f g : M Fl} (ht : T X z W t ft) (ha : Sms X z W a f) (hb : Sms X z W b g) : Sm X z W (.If t a b pos) (sIfS ft f g) := by
  refine ⟨PS.le (ps_if ht.pt ha.ps hb.ps) fun D σ H ⟨S, G, si, h⟩ => ?_⟩
  refine (stepTS si h).mono fun c H1 ⟨S1, G1, si1, _, h1⟩ => ?_
  cases c with
  | true => rw [if_pos rfl] at h1 ⊢; exact ⟨S1, G1, si1, h1⟩
  | false => rw [if_neg Bool.false_ne_true] at h1 ⊢; exact ⟨S1, G1, si1, h1⟩
/-- code that is never reached -/
def sNever : M Fl := fun _ => .no
theorem S_never {st : Stmt} : Sm X z W st sNever := ⟨PS.le ps_never fun D σ H ⟨S, G, si, h⟩ => h⟩
theorem Ss_never {sts : List Stmt} : Sms X z W sts sNever := ⟨PSs.le pss_never fun D σ H ⟨S, G, si, h⟩ => h⟩
def sExpr (fa : M R) : M Fl := fun S => (fa S).bind fun _ S1 => .ok .nx S1
theorem S_expr {e : Expr} {pos : Pos} {fa : M R} (h : E X z W e fa) (hs : swapsWith e none pos.line X.env = pure false := by rfl) : Sm X z W (.Expr e pos) (sExpr fa) :=
  ⟨PS.le (ps_expr h.pe hs) fun D σ H ⟨S, G, si, h⟩ => (stepS si h).mono fun x H1 ⟨ra, S1, G1, si1, _, _, h1⟩ => h1 σ H1 G1 si1 .refl⟩

/-! ### slots -/
theorem SI.get_set {A : Type} {l : List A} {i j : Nat} {x w : A} (h : (l.set i x)[j]? = some w) : (j = i ∧ w = x) ∨ (j ≠ i ∧ l[j]? = some w) := by
  by_cases hj : j = i
  · subst hj
    by_cases hi : j < l.length
    · rw [List.getElem?_set_self hi] at h
      exact .inl ⟨rfl, (Option.some.inj h).symm⟩
    · rw [List.getElem?_eq_none (by simpa using hi)] at h; cases h
  · rw [List.getElem?_set_ne (Ne.symm hj)] at h
    exact .inr ⟨hj, h⟩
theorem set_get {A : Type} {l : List A} {i : Nat} {x w : A} (h : l[i]? = some w) : (l.set i x)[i]? = some x := List.getElem?_set_self (List.getElem?_eq_some_iff.mp h).1
/-- a slot is stored: the general form -/
theorem SI.store {i : Nat} {w : AV} {ov : Option V} (si : SI z S σ H G)
    (hw : match w with
      | .un => True
      | .shr d => ∃ v, ov = some v ∧ Rep z G v d
      | .own t d => ∃ a, ov = some (.ref a) ∧ G a = none ∧ OwnAt z G H a d ∧ (∀ j, t = some j → z.A[j]? = some a) ∧ (t = none → z.B a = none) ∧ ∀ (j : Nat) t' d', j ≠ i → S[j]? = some (.own t' d') → σ[j]? ≠ some (some (.ref a))) :
    SI z (S.set i w) (σ.set i ov) H G where
  len := by rw [List.length_set, List.length_set]; exact si.len
  le := si.le
  shr := fun j d h => by
    rcases SI.get_set h with ⟨rfl, e⟩ | ⟨hj, e⟩
    · subst e
      obtain ⟨v, rfl, r⟩ := hw
      have hi : j < S.length := by have := (List.getElem?_eq_some_iff.mp h).1; simpa using this
      exact ⟨v, List.getElem?_set_self (by rw [← si.len]; exact hi), r⟩
    · obtain ⟨v, q, r⟩ := si.shr j d e
      exact ⟨v, by rw [List.getElem?_set_ne (Ne.symm hj)]; exact q, r⟩
  own := fun j t d h => by
    rcases SI.get_set h with ⟨rfl, e⟩ | ⟨hj, e⟩
    · subst e
      obtain ⟨a, rfl, g, o, t1, t2, _⟩ := hw
      have hi : j < S.length := by have := (List.getElem?_eq_some_iff.mp h).1; simpa using this
      exact ⟨a, List.getElem?_set_self (by rw [← si.len]; exact hi), g, o, t1, t2⟩
    · obtain ⟨a, q, r⟩ := si.own j t d e
      exact ⟨a, by rw [List.getElem?_set_ne (Ne.symm hj)]; exact q, r⟩
  sep := fun j k tj dj tk dk a h1 h2 h3 h4 => by
    rcases SI.get_set h1 with ⟨e1, f1⟩ | ⟨hj, f1⟩
    · rcases SI.get_set h2 with ⟨e2, f2⟩ | ⟨hk, f2⟩
      · exact e1.trans e2.symm
      · subst e1; subst f1
        obtain ⟨b, eb, g, o, t1, t2, no⟩ := hw
        have hi : j < S.length := by have := (List.getElem?_eq_some_iff.mp h1).1; simpa using this
        rw [List.getElem?_set_self (by rw [← si.len]; exact hi)] at h3
        rw [List.getElem?_set_ne (Ne.symm hk)] at h4
        rw [eb] at h3; cases h3
        exact absurd h4 (no k _ _ hk f2)
    · rcases SI.get_set h2 with ⟨e2, f2⟩ | ⟨hk, f2⟩
      · subst e2; subst f2
        obtain ⟨b, eb, g, o, t1, t2, no⟩ := hw
        have hi : k < S.length := by have := (List.getElem?_eq_some_iff.mp h2).1; simpa using this
        rw [List.getElem?_set_self (by rw [← si.len]; exact hi)] at h4
        rw [List.getElem?_set_ne (Ne.symm hj)] at h3
        rw [eb] at h4; cases h4
        exact absurd h3 (no j _ _ hj f1)
      · rw [List.getElem?_set_ne (Ne.symm hj)] at h3
        rw [List.getElem?_set_ne (Ne.symm hk)] at h4
        exact si.sep j k _ _ _ _ a f1 f2 h3 h4
  dom := si.dom
  tab := si.tab
theorem SI.setV {i : Nat} {v : V} {d : D} (si : SI z S σ H G) (r : Rep z G v d) : SI z (S.set i (.shr d)) (σ.set i (some v)) H G ∧ Go S (S.set i (.shr d)) σ (σ.set i (some v)) H H G G := by
  refine ⟨si.store ⟨v, rfl, r⟩, .refl _, fun _ _ h _ => .inl h, fun a ⟨j, t, d', h1, h2⟩ => ?_, fun _ _ h => .inl h, fun _ h => h⟩
  rcases SI.get_set h1 with ⟨_, e⟩ | ⟨hj, e⟩
  · cases e
  · rw [List.getElem?_set_ne (Ne.symm hj)] at h2
    exact .inl ⟨j, t, d', e, h2⟩
theorem SI.setU {i : Nat} (si : SI z S σ H G) : SI z (S.set i .un) σ H G ∧ Go S (S.set i .un) σ σ H H G G := by
  refine ⟨⟨by rw [List.length_set]; exact si.len, si.le, fun j d h => ?_, fun j t d h => ?_, fun j k tj dj tk dk a h1 h2 h3 h4 => ?_, si.dom, si.tab⟩, .refl _, fun _ _ h _ => .inl h, fun a ⟨j, t, d', h1, h2⟩ => ?_, fun _ _ h => .inl h, fun _ h => h⟩
  · rcases SI.get_set h with ⟨_, e⟩ | ⟨_, e⟩
    · cases e
    · exact si.shr j d e
  · rcases SI.get_set h with ⟨_, e⟩ | ⟨_, e⟩
    · cases e
    · exact si.own j t d e
  · rcases SI.get_set h1 with ⟨_, e⟩ | ⟨_, e⟩
    · cases e
    · rcases SI.get_set h2 with ⟨_, e2⟩ | ⟨_, e2⟩
      · cases e2
      · exact si.sep j k _ _ _ _ a e e2 h3 h4
  · rcases SI.get_set h1 with ⟨_, e⟩ | ⟨_, e⟩
    · cases e
    · exact .inl ⟨j, t, d', e, h2⟩
/-- name = value -/
def setR (S : SS) (i : Nat) : R → Option SS
  | .v d => some (S.set i (.shr d))
  | .f d => some (S.set i (.own none d))
  | .at j => match S[j]? with
    | some (.shr d) => some (S.set i (.shr d))
    | some (.own t d) => some ((S.set j (.shr d)).set i (.shr d))
    | _ => none
theorem setR_run {i : Nat} {v : V} {r : R} {S' S2 : SS} {H' G' : Hp} (si : SI z S' σ H' G') (g : Go S S' σ σ H H' G G') (dn : Den z S' σ H H' G' v r) (sB : ∀ a, H a = none → z.B a = none) (e : setR S' i r = some S2) :
    ∃ G2, SI z S2 (σ.set i (some v)) H' G2 ∧ Go S S2 σ (σ.set i (some v)) H H' G G2 := by
  cases r with
  | v d =>
    cases e
    obtain ⟨s1, g1⟩ := si.setV (i := i) (v := v) (d := d) dn
    exact ⟨G', s1, g.trans g1⟩
  | f d =>
    cases e
    obtain ⟨p, rfl, h1, h2, h3, h4⟩ := dn
    refine ⟨G', si.store ⟨p, rfl, h2, h4, (fun j q => nomatch q), fun _ => sB p h1, fun j t d' hj e e2 => h3 ⟨j, t, d', e, e2⟩⟩, g.ge, g.fr, fun a ⟨j, t, d', q1, q2⟩ => ?_, g.nw, g.th⟩
    rcases SI.get_set q1 with ⟨rfl, e⟩ | ⟨hj, e⟩
    · cases e
      have hi : j < S'.length := by have := (List.getElem?_eq_some_iff.mp q1).1; simpa using this
      rw [List.getElem?_set_self (by rw [← si.len]; exact hi)] at q2
      cases q2
      exact .inr h1
    · rw [List.getElem?_set_ne (Ne.symm hj)] at q2
      exact g.ow a ⟨j, t, d', e, q2⟩
  | «at» j =>
    have dn : σ[j]? = some (some v) := dn
    unfold setR at e
    simp only at e
    split at e
    · rename_i d e1
      cases e
      obtain ⟨v', e2, r⟩ := si.shr j _ e1
      rw [dn] at e2; cases e2
      obtain ⟨s1, g1⟩ := si.setV (i := i) r
      exact ⟨G', s1, g.trans g1⟩
    · rename_i t d e1
      cases e
      obtain ⟨a, e2, _⟩ := si.own j _ _ e1
      rw [dn] at e2; cases e2
      obtain ⟨G2, s2, g2, r2⟩ := si.freeze1 e1 dn
      obtain ⟨s3, g3⟩ := s2.setV (i := i) r2
      exact ⟨G2, s3, (g.trans g2).trans g3⟩
    · cases e
def nxt (r : Option SS) : Res Fl := match r with
  | some S => .ok .nx S
  | none => .no
def sAsg (i : Nat) (fa : M R) : M Fl := fun S => (fa S).bind fun ra S1 => nxt (setR S1 i ra)
/-- an expression, its result as it comes -/
theorem raw {α : Type} {P : Res α → Prop} {fa : M R} {k : R → SS → Res α} (si : SI z S σ H G) (h : P ((fa S).bind k)) (no : ¬ P .no) (exc : ∀ {c w S1}, P (.ex c w S1) → ∀ H' G', SI z S1 σ H' G' → Go S S1 σ σ H H' G G' → WOk z W G' σ H' c w) :
    tD z W fa σ H fun x H1 => ∃ ra S1 G1, SI z S1 σ H1 G1 ∧ Go S S1 σ σ H H1 G G1 ∧ Den z S1 σ H H1 G1 x ra ∧ P (k ra S1) := by
  refine ⟨S, G, si, ?_⟩
  cases e : fa S with
  | ok ra S1 =>
    rw [e] at h
    exact fun v H1 G1 si1 g1 dn => ⟨ra, S1, G1, si1, g1, dn, h⟩
  | ex c w S1 => rw [e] at h; exact exc h
  | no => rw [e] at h; exact (no h).elim
theorem sAsg_run {i : Nat} {fa : M R} {D : Ends} (si : SI z S σ H G) (h : PostS z W S G H σ D (sAsg i fa S)) : tD z W fa σ H fun x H1 => D.nx (σ.set i (some x)) H1 := by
  refine (raw (P := PostS z W S G H σ D) si h (fun h => h) (fun h H' G' si g => h σ H' G' si g)).mono fun x H1 ⟨ra, S1, G1, si1, g1, dn, h1⟩ => ?_
  cases e : setR S1 i ra with
  | none => rw [e] at h1; exact h1.elim
  | some S2 =>
    rw [e] at h1
    obtain ⟨G2, s2, g2⟩ := setR_run si1 g1 dn si.dom e
    exact h1 _ H1 G2 s2 g2
theorem S_set {i : Nat} {x : Str} {e : Expr} {fa : M R} {pos pos' : Pos} (c : Ct X z W) (hi : X.N[i]? = some x) (hx : Loc X.env.scope x) (he : E X z W e fa) (hs : swapsWith e (some (.Name x pos')) pos.line X.env = pure false := by rfl)
    (hf : X.fn x = true ∨ X.env.scope.names.lookup x = some .local := by first | exact .inl rfl | exact .inr rfl | assumption) : Sm X z W (.Assign [.Name x pos'] e pos) (sAsg i fa) :=
  ⟨PS.le (ps_set c.nd hi hx he.pe hs hf) fun D σ H ⟨S, G, si, h⟩ => sAsg_run si h⟩
/-- return -/
def retR (S : SS) : R → Option (D × Bool × SS)
  | .v d => some (d, false, S)
  | .f d => some (d, true, S)
  | .at i => match S[i]? with
    | some (.shr d) => some (d, false, S)
    | some (.own none d) => some (d, true, S.set i .un)
    | _ => none
def sRet (fa : M R) : M Fl := fun S => (fa S).bind fun ra S1 => match retR S1 ra with
  | some (d, fr, S2) => .ok (.rt d fr) S2
  | none => .no
theorem S_ret {e : Expr} {fa : M R} {pos : Pos} (he : E X z W e fa) : Sm X z W (.Return (some e) pos) (sRet fa) := by
  refine ⟨PS.le (ps_ret he.pe) fun D σ H ⟨S, G, si, h⟩ => ?_⟩
  refine (raw (P := PostS z W S G H σ D) si h (fun h => h) (fun h H' G' si g => h σ H' G' si g)).mono fun x H1 ⟨ra, S1, G1, si1, g1, dn, h1⟩ => ?_
  cases e : retR S1 ra with
  | none => rw [e] at h1; exact h1.elim
  | some p =>
    obtain ⟨d, fr, S2⟩ := p
    rw [e] at h1
    have h1 : PostS z W S G H σ D (.ok (.rt d fr) S2) := h1
    cases ra with
    | v d' => cases e; exact h1 x σ H1 G1 si1 g1 dn
    | f d' =>
      cases e
      obtain ⟨p, ep, q1, q2, q3, q4⟩ := dn
      exact h1 x σ H1 G1 si1 g1 ⟨p, ep, si.dom p q1, q2, q3, q4⟩
    | «at» i =>
      have dn : σ[i]? = some (some x) := dn
      unfold retR at e
      simp only at e
      split at e
      · rename_i d' e1
        cases e
        obtain ⟨v', e2, r⟩ := si1.shr i _ e1
        rw [dn] at e2; cases e2
        exact h1 x σ H1 G1 si1 g1 r
      · rename_i d' e1
        cases e
        obtain ⟨a, e2, ga, ow, _, t2⟩ := si1.own i _ _ e1
        rw [dn] at e2; cases e2
        obtain ⟨s2, g2⟩ := si1.setU (i := i)
        refine h1 _ σ H1 G1 s2 (g1.trans g2) ⟨a, rfl, t2 rfl, ga, fun ⟨j, t, d', q1, q2⟩ => ?_, ow⟩
        rcases SI.get_set q1 with ⟨_, e3⟩ | ⟨hj, e3⟩
        · cases e3
        · exact hj (si1.sep j i _ _ _ _ a e3 e1 q2 dn)
      · cases e
def sRetN : M Fl := fun S => .ok (.rt .non false) S
theorem S_retN {pos : Pos} : Sm X z W (.Return none pos) sRetN := ⟨PS.le ps_retN fun D σ H ⟨S, G, si, h⟩ => h .non σ H G si .refl .non⟩

/-! ### targets -/
def gD (z : Dx) (ix : List Nat) (g : D → SS → Option SS) : TG := fun v σ H Q => ∃ S G d S', SI z S σ H G ∧ Rep z G v d ∧ g d S = some S' ∧ ∀ σ' H' G', SI z S' σ' H' G' → Go S S' σ σ' H H' G G' → ((∀ j : Nat, j ∉ ix → σ'[j]? = σ[j]?) ∧ σ'.length = σ.length) → Q σ' H'
structure Tg (X : Cx) (z : Dx) (tg : Expr) (ix : List Nat) (g : D → SS → Option SS) : Prop where
  pg : PG X tg (gD z ix g)
theorem PG.le {tg : Expr} {t t' : TG} (h : PG X tg t) (w : ∀ v σ H Q, t' v σ H Q → t v σ H Q) : PG X tg t' := ⟨fun pins s σ H v u Q I r q => h.run pins s σ H v u Q I r (w v σ H Q q)⟩
def tNm (i : Nat) : D → SS → Option SS := fun d S => some (S.set i (.shr d))
theorem Tg_nm {i : Nat} {x : Str} {pos : Pos} (nd : X.N.Nodup) (hi : X.N[i]? = some x) (hx : Loc X.env.scope x) (hf : X.fn x = true ∨ X.env.scope.names.lookup x = some .local := by first | exact .inl rfl | exact .inr rfl | assumption) :
    Tg X z (.Name x pos) [i] (tNm i) := by
  refine ⟨PG.le (pg_name nd hi hx hf) fun v σ H Q ⟨S, G, d, S', si, r, e, q⟩ => ?_⟩
  cases e
  obtain ⟨s1, g1⟩ := si.setV (i := i) r
  exact q _ H G s1 g1 ⟨fun j hj => List.getElem?_set_ne (fun e => hj (by rw [e]; exact List.mem_cons_self)), List.length_set⟩
def gDs (z : Dx) (ix : List Nat) (g : List D → SS → Option SS) : TGs := fun vs σ H Q => ∃ S G ds S', SI z S σ H G ∧ RepL z G vs ds ∧ g ds S = some S' ∧ ∀ σ' H' G', SI z S' σ' H' G' → Go S S' σ σ' H H' G G' → ((∀ j : Nat, j ∉ ix → σ'[j]? = σ[j]?) ∧ σ'.length = σ.length) → Q σ' H'
structure Tgs (X : Cx) (z : Dx) (tg : List Expr) (ix : List Nat) (g : List D → SS → Option SS) : Prop where
  pg : PGs X tg (gDs z ix g)
theorem PGs.le {tg : List Expr} {t t' : TGs} (h : PGs X tg t) (w : ∀ v σ H Q, t' v σ H Q → t v σ H Q) : PGs X tg t' := ⟨fun pins s σ H v u Q I r q => h.run pins s σ H v u Q I r (w v σ H Q q)⟩
def tNil : List D → SS → Option SS
  | [], S => some S
  | _ :: _, _ => none
def tCons (g : D → SS → Option SS) (gs : List D → SS → Option SS) : List D → SS → Option SS
  | [], _ => none
  | d :: ds, S => match g d S with
    | none => none
    | some S1 => gs ds S1
theorem Tgs_nil : Tgs X z [] [] tNil := by
  refine ⟨PGs.le pgs_nil fun vs σ H Q ⟨S, G, ds, S', si, r, e, q⟩ => ?_⟩
  cases ds with
  | nil =>
    cases r
    cases e
    exact ⟨rfl, q σ H G si .refl ⟨fun _ _ => rfl, rfl⟩⟩
  | cons _ _ => cases e
theorem Tgs_cons {e : Expr} {es : List Expr} {ix iy : List Nat} {g : D → SS → Option SS} {gs : List D → SS → Option SS} (h1 : Tg X z e ix g) (h2 : Tgs X z es iy gs)
    (hs : (assignEach (e :: es) X.env).map (·.2) = assign e X.env :: (assignEach es X.env).map (·.2) := by rfl) : Tgs X z (e :: es) (ix ++ iy) (tCons g gs) := by
  refine ⟨PGs.le (pgs_cons h1.pg h2.pg hs) fun vs σ H Q ⟨S, G, ds, S', si, r, e, q⟩ => ?_⟩
  cases ds with
  | nil => cases e
  | cons d ds =>
    cases r with
    | cons r1 r2 =>
      have e : (match g d S with | none => none | some S1 => gs ds S1) = some S' := e
      cases e1 : g d S with
      | none => rw [e1] at e; cases e
      | some S1 =>
        rw [e1] at e
        exact ⟨_, _, rfl, S, G, d, S1, si, r1, e1, fun σ' H' G' si' g' k' => ⟨S1, G', ds, S', si', r2.mono g'.ge, e, fun σ2 H2 G2 si2 g2 k2 => q σ2 H2 G2 si2 (g'.trans g2) ⟨fun j hj => (k2.1 j fun h => hj (List.mem_append_right _ h)).trans (k'.1 j fun h => hj (List.mem_append_left _ h)), k2.2.trans k'.2⟩⟩⟩
def tTupT (n : Nat) (gs : List D → SS → Option SS) : D → SS → Option SS
  | .tup ds, S => if ds.length = n then gs ds S else none
  | _, _ => none
theorem Tg_tup {es : List Expr} {k : Nat} {n : Nat} {pos : Pos} {ix : List Nat} {gs : List D → SS → Option SS} (hk : z.K = X.K) (calm : X.calm = true) (h : Tgs X z es ix gs) (hn : (assignEach es X.env).length = n := by rfl) (hst : (assignEach es X.env).findIdx? (·.1) = none := by rfl) :
    Tg X z (.Tuple es k pos) ix (tTupT n gs) := by
  refine ⟨PG.le (pg_tup calm h.pg hn hst) fun v σ H Q ⟨S, G, d, S', si, r, e, q⟩ => ?_⟩
  cases d with
  | tup ds =>
    have e : (if ds.length = n then gs ds S else none) = some S' := e
    by_cases hl : ds.length = n
    · rw [if_pos hl] at e
      cases r with
      | tup e1 rl =>
        rw [hk] at e1
        exact ⟨_, _, rfl, si.le.sqT e1, by rw [rl.length]; exact hl, S, G, ds, S', si, rl, e, q⟩
    · rw [if_neg hl] at e; cases e
  | _ => cases e
/-- target = value, shared -/
def sAsgT (g : D → SS → Option SS) (fa : M R) : M Fl := fun S => (fa S).bind fun ra S1 => match valR S1 ra with
  | none => .no
  | some (d, S2) => nxt (g d S2)
theorem S_asgT {tg e : Expr} {ix : List Nat} {g : D → SS → Option SS} {fa : M R} {pos : Pos} (he : E X z W e fa) (hg : Tg X z tg ix g) (hs : swapsWithSole [tg] e pos.line X.env = pure false := by rfl) (hw : swappedStores [tg] e X.env = pure none := by rfl)
    (h1 : (assignEach [tg] X.env).map (·.2) = [assign tg X.env] := by rfl) : Sm X z W (.Assign [tg] e pos) (sAsgT g fa) := by
  refine ⟨PS.le (ps_asg he.pe hg.pg hs hw h1) fun D σ H ⟨S, G, si, h⟩ => ?_⟩
  refine (stepS si h).mono fun x H1 ⟨ra, S1, G1, si1, _, dn, h1⟩ => ?_
  cases e : valR S1 ra with
  | none => rw [e] at h1; exact h1.elim
  | some p =>
    obtain ⟨d, S2⟩ := p
    rw [e] at h1
    have h1 : PostS z W S1 G1 H1 σ D (nxt (g d S2)) := h1
    obtain ⟨G2, si2, g2, r2⟩ := valR_run si1 dn e
    cases e2 : g d S2 with
    | none => rw [e2] at h1; exact h1.elim
    | some S3 =>
      rw [e2] at h1
      exact ⟨S2, G2, d, S3, si2, r2, e2, fun σ' H' G' si' g' _ => h1 σ' H' G' si' (g2.trans g')⟩

/-! ### what is walked -/
structure WalkD (z : Dx) (J : It) (ds : List D) (S : SS) (σ : L2.St) (H G : Hp) : Prop where
  ex : ∃ (Gd : Hp → Prop) (Y : Nat → Hp → V → Hp → Prop), Walk J ds.length Gd Y ∧ (∀ H', (∀ a o, H a = some o → ¬ Wk o → ¬ Owns S σ a → H' a = some o) → Gd H') ∧
    ∀ i d Hc x H' Gc, ds[i]? = some d → GLe G Gc → LeH Gc Hc → Y i Hc x H' → ∃ G', Ext Hc H' Gc G' ∧ Rep z G' x d
def PostI (z : Dx) (W : WX) (S : SS) (G H : Hp) (σ : L2.St) (Q : It → Hp → Prop) : Res (List D) → Prop
  | .ok ds S' => ∀ J H' G', SI z S' σ H' G' → Go S S' σ σ H H' G G' → WalkD z J ds S' σ H' G' → Q J H'
  | .ex c w S' => ∀ H' G', SI z S' σ H' G' → Go S S' σ σ H H' G G' → WOk z W G' σ H' c w
  | .no => False
def tDI (z : Dx) (W : WX) (f : M (List D)) : TI := fun σ H Q => ∃ S G, SI z S σ H G ∧ PostI z W S G H σ Q (f S)
structure IT (X : Cx) (z : Dx) (W : WX) (tg e : Expr) (f : M (List D)) : Prop where
  pi : PI X tg e (tDI z W f)
theorem PostI.from {QI : It → Hp → Prop} {r : Res (List D)} (h : PostI z W S G H σ QI r) (g : Go S S1 σ σ H H1 G G1) : PostI z W S1 G1 H1 σ QI r := by
  cases r with
  | ok r S' => exact fun J H' G' si g' => h J H' G' si (g.trans g')
  | ex c w S' => exact fun H' G' si g' => h H' G' si (g.trans g')
  | no => exact h
theorem PI.le {tg e : Expr} {t t' : TI} (h : PI X tg e t) (w : ∀ σ H Q, t' σ H Q → t σ H Q) : PI X tg e t' := ⟨fun pins s σ H Q I q => h.run pins s σ H Q I (w σ H Q q)⟩
theorem PI.or {tg e : Expr} {t t' : TI} (h : PI X tg e t) (h' : PI X tg e t') : PI X tg e (fun σ H Q => t σ H Q ∨ t' σ H Q) := ⟨fun pins s σ H Q I q => q.elim (h.run pins s σ H Q I) (h'.run pins s σ H Q I)⟩
theorem stepI {fa : M R} {k : R → SS → Res (List D)} {QI : It → Hp → Prop} (si : SI z S σ H G) (h : PostI z W S G H σ QI ((fa S).bind k)) :
    tD z W fa σ H fun x H1 => ∃ ra S1 G1, SI z S1 σ H1 G1 ∧ Go S S1 σ σ H H1 G G1 ∧ DenS z σ G1 x ra ∧ PostI z W S1 G1 H1 σ QI (k ra S1) :=
  stepG (P := fun S G H r => PostI z W S G H σ QI r) (fun h g => h.from g) (fun h => h) (fun h => h) si h

/-! ### for -/
def forL (g : D → SS → Option SS) (body : M Fl) : List D → M Fl
  | [], S => .ok .nx S
  | d :: ds, S => match g d S with
    | none => .no
    | some S1 => (body S1).bind fun fl S2 => match fl with
      | .nx => forL g body ds S2
      | .ct => forL g body ds S2
      | .bk => .ok .nx S2
      | .rt d fr => .ok (.rt d fr) S2
def sFor (fi : M (List D)) (g : D → SS → Option SS) (body : M Fl) : M Fl := fun S => (fi S).bind fun ds S1 => forL g body ds S1
theorem drop_get {A : Type} {l : List A} {i : Nat} {d : A} (h : l[i]? = some d) : l.drop i = d :: l.drop (i + 1) := by
  obtain ⟨hi, e⟩ := List.getElem?_eq_some_iff.mp h
  rw [List.drop_eq_getElem_cons hi, e]
theorem for_run {J : It} {ds : List D} {ix : List Nat} {g : D → SS → Option SS} {body : M Fl} {D : Ends} (si : SI z S σ H G) (w : WalkD z J ds S σ H G) (h : PostS z W S G H σ D (forL g body ds S)) :
    ∃ W' : Nat → Nat → L2.St → Hp → Prop, (∃ m, W' 0 m σ H) ∧ ∀ i m σ H, W' i m σ H →
      (J.stop i H ∧ D.nx σ H) ∨ (J.go i H ∧ ∃ N : L2.St → Hp → Prop, (∀ σ' H', N σ' H' → ∃ m', m' < m ∧ W' (i + 1) m' σ' H') ∧ ∀ x H', J.yld i H x H' → gD z ix g x σ H' fun σ2 H2 => tDS z W body { D with nx := N, ct := N, bk := D.nx } σ2 H2) := by
  obtain ⟨Gd, Y, wk, stay, yl⟩ := w.ex
  refine for_it wk (g := gD z ix g) (tb := tDS z W body) (fun i σ' H' => ∃ S' G', SI z S' σ' H' G' ∧ Go S S' σ σ' H H' G G' ∧ PostS z W S' G' H' σ' D (forL g body (ds.drop i) S')) ⟨S, G, si, .refl, h⟩
    (fun i σ' H' _ ⟨S', G', si', g', _⟩ => stay H' fun a o h k n => (g'.fr a o h n).eq k) ?_ ?_
  · rintro i x σ' H1 H2 hi ⟨S', G', si', g', p⟩ y
    have hd : ds[i]? = some ds[i] := by simp [hi]
    obtain ⟨G2, ex, r⟩ := yl i _ H1 x H2 G' hd g'.ge si'.le y
    rw [drop_get hd] at p
    have p : PostS z W S' G' H1 σ' D (match g ds[i] S' with | none => .no | some S1 => (body S1).bind fun fl S2 => match fl with
      | .nx => forL g body (ds.drop (i + 1)) S2
      | .ct => forL g body (ds.drop (i + 1)) S2
      | .bk => .ok .nx S2
      | .rt d fr => .ok (.rt d fr) S2) := p
    cases e : g ds[i] S' with
    | none => rw [e] at p; exact p.elim
    | some S2 =>
      rw [e] at p
      have p := PostS.from p (ex.go (S := S') (σ := σ'))
      have g2 := g'.trans (ex.go (S := S') (σ := σ'))
      refine ⟨S', G2, _, S2, si'.ext ex, r, e, fun σ3 H3 G3 si3 g3 _ => ⟨S2, G3, si3, ?_⟩⟩
      have p := PostS.from p g3
      have g3' := g2.trans g3
      have p : PostS z W S2 G3 H3 σ3 D ((body S2).bind fun fl S2 => match fl with
        | .nx => forL g body (ds.drop (i + 1)) S2
        | .ct => forL g body (ds.drop (i + 1)) S2
        | .bk => .ok .nx S2
        | .rt d fr => .ok (.rt d fr) S2) := p
      cases eb : body S2 with
      | ok fl S4 =>
        rw [eb] at p
        cases fl with
        | nx => exact fun σ4 H4 G4 si4 g4 => ⟨S4, G4, si4, g3'.trans g4, PostS.from p g4⟩
        | ct => exact fun σ4 H4 G4 si4 g4 => ⟨S4, G4, si4, g3'.trans g4, PostS.from p g4⟩
        | bk => exact fun σ4 H4 G4 si4 g4 => p σ4 H4 G4 si4 g4
        | rt d fr => exact p
      | ex c w S4 => rw [eb] at p; exact p
      | no => rw [eb] at p; exact p
  · rintro σ' H' ⟨S', G', si', g', p⟩
    rw [List.drop_length] at p
    exact p σ' H' G' si' .refl
theorem tFor_run {fi : M (List D)} {ix : List Nat} {g : D → SS → Option SS} {body : M Fl} {D : Ends} (h : tDS z W (sFor fi g body) D σ H) : tFor (tDI z W fi) (gD z ix g) (tDS z W body) D σ H := by
  obtain ⟨S, G, si, h⟩ := h
  refine ⟨S, G, si, ?_⟩
  unfold sFor at h
  cases e : fi S with
  | ok ds S1 =>
    rw [e] at h
    exact fun J H1 G1 si1 g1 w => for_run si1 w (PostS.from h g1)
  | ex c w S1 => rw [e] at h; exact fun H' G' si g => h σ H' G' si g
  | no => rw [e] at h; exact h
theorem S_for {tg iter : Expr} {body : List Stmt} {pos : Pos} {fi : M (List D)} {ix : List Nat} {g : D → SS → Option SS} {fb : M Fl} (c : Ct X z W) (hi : IT X z W tg iter fi) (hg : Tg X z tg ix g) (hb : Sms X z W body fb)
    (hs : ∀ x, foldedSetIterable iter X.env x = pure x := by intro _; rfl) : Sm X z W (.For tg iter body [] pos) (sFor fi g fb) :=
  ⟨PS.le (ps_for c.hp c.calm hi.pi hg.pg hb.ps hs) fun D σ H h => tFor_run h⟩

/-! ### while -/
def whileN (ft : M Bool) (body : M Fl) : Nat → M Fl
  | 0, _ => .no
  | n + 1, S => (ft S).bind fun b S1 => if b = true then (body S1).bind fun fl S2 => match fl with
      | .nx => whileN ft body n S2
      | .ct => whileN ft body n S2
      | .bk => .ok .nx S2
      | .rt d fr => .ok (.rt d fr) S2
    else .ok .nx S1
theorem S_while (n : Nat) {t : Expr} {body : List Stmt} {pos : Pos} {ft : M Bool} {fb : M Fl} (c : Ct X z W) (ht : T X z W t ft) (hb : Sms X z W body fb) : Sm X z W (.While t body [] pos) (whileN ft fb n) := by
  refine ⟨PS.le (ps_while c.hp ht.pt hb.ps) fun D σ H ⟨S, G, si, h⟩ => ?_⟩
  refine ⟨fun m σ' H' => ∃ S' G', SI z S' σ' H' G' ∧ PostS z W S' G' H' σ' D (whileN ft fb m S'), ⟨n, S, G, si, h⟩, ?_⟩
  rintro m σ1 H1 ⟨S1, G1, si1, p⟩
  cases m with
  | zero => exact p.elim
  | succ m =>
    refine (stepTS (k := fun b S1 => if b = true then (fb S1).bind fun fl S2 => match fl with
      | .nx => whileN ft fb m S2
      | .ct => whileN ft fb m S2
      | .bk => .ok .nx S2
      | .rt d fr => .ok (.rt d fr) S2
    else .ok .nx S1) si1 p).mono fun b H2 ⟨S2, G2, si2, _, p2⟩ => ?_
    cases b with
    | false =>
      rw [if_neg Bool.false_ne_true] at p2 ⊢
      exact p2 σ1 H2 G2 si2 .refl
    | true =>
      rw [if_pos rfl] at p2 ⊢
      refine ⟨fun σ' H' => ∃ S' G', SI z S' σ' H' G' ∧ PostS z W S' G' H' σ' D (whileN ft fb m S'), fun σ' H' q => ⟨m, Nat.lt_succ_self _, q⟩, S2, G2, si2, ?_⟩
      cases eb : fb S2 with
      | ok fl S4 =>
        rw [eb] at p2
        cases fl with
        | nx => exact fun σ4 H4 G4 si4 g4 => ⟨S4, G4, si4, PostS.from p2 g4⟩
        | ct => exact fun σ4 H4 G4 si4 g4 => ⟨S4, G4, si4, PostS.from p2 g4⟩
        | bk => exact fun σ4 H4 G4 si4 g4 => p2 σ4 H4 G4 si4 g4
        | rt d fr => exact p2
      | ex c w S4 => rw [eb] at p2; exact p2
      | no => rw [eb] at p2; exact p2
end
end L2.Dl
/-! Defs: what they promise of data, and their calls. -/
namespace L2.Dl
open PySem PySem.Spec PyProof.Rows

mutual
theorem Rep.to {z z' : Dx} {G : Hp} (hK : z.K = z'.K) (hc : z.cl = z'.cl) : ∀ {v : V} {d : D}, Rep z G v d → Rep z' G v d
  | _, _, .non => .non
  | _, _, .bl b => .bl b
  | _, _, .int i => .int i
  | _, _, .str s => .str s
  | _, _, .lst e r => .lst e (RepL.to hK hc r)
  | _, _, .tup e r => .tup (by rw [← hK]; exact e) (RepL.to hK hc r)
  | _, _, .dct e k r => .dct e k (RepL.to hK hc r)
  | _, _, .dtt e k r => .dtt e k (RepL.to hK hc r)
  | _, _, .scr e => .scr (by rw [← hK]; exact e)
  | _, _, .ins e k r => .ins (by rw [← hc]; exact e) k (RepL.to hK hc r)
theorem RepL.to {z z' : Dx} {G : Hp} (hK : z.K = z'.K) (hc : z.cl = z'.cl) : ∀ {vs : List V} {ds : List D}, RepL z G vs ds → RepL z' G vs ds
  | _, _, .nil => .nil
  | _, _, .cons r t => .cons (Rep.to hK hc r) (RepL.to hK hc t)
end
theorem OwnAt.to {z z' : Dx} {G H : Hp} {a : Addr} {d : D} (hK : z.K = z'.K) (hc : z.cl = z'.cl) (h : OwnAt z G H a d) : OwnAt z' G H a d := by
  cases d with
  | lst l => obtain ⟨xs, e, r⟩ := h; exact ⟨xs, e, r.to hK hc⟩
  | dct l => obtain ⟨vs, e, k, r⟩ := h; exact ⟨vs, e, k, r.to hK hc⟩
  | dtt l => obtain ⟨vs, e, k, r⟩ := h; exact ⟨vs, e, k, r.to hK hc⟩
  | ins c l => obtain ⟨dx, vs, e, k, r⟩ := h; exact ⟨dx, vs, by rw [← hc]; exact e, k, r.to hK hc⟩
  | _ => exact h.elim

theorem Rep.ab {K : PySem.W.Frag} {cl : Brings} {A A' : List Addr} {B B' : Hp} {G : Hp} {v : V} {d : D} (h : Rep ⟨K, cl, A, B⟩ G v d) : Rep ⟨K, cl, A', B'⟩ G v d := Rep.to (z := ⟨K, cl, A, B⟩) (z' := ⟨K, cl, A', B'⟩) rfl rfl h
theorem OwnAt.ab {K : PySem.W.Frag} {cl : Brings} {A A' : List Addr} {B B' : Hp} {G H : Hp} {a : Addr} {d : D} (h : OwnAt ⟨K, cl, A, B⟩ G H a d) : OwnAt ⟨K, cl, A', B'⟩ G H a d := OwnAt.to (z := ⟨K, cl, A, B⟩) (z' := ⟨K, cl, A', B'⟩) rfl rfl h

/-- the end of a def: a value (new or shared) with the data of the objects that came to be changed; an own exception -/
inductive FR where
  | ret (d : D) (fr : Bool) (io : List D)
  | ex (c : Nat) (w : D) (io : List D)
  | no
/-- the arguments: shared, or (true) an object to be changed -/
inductive Args (z : Dx) (G H : Hp) : List Bool → List V → List D → Prop
  | nil : Args z G H [] [] []
  | shr {ms v vs d ds} : Rep z G v d → Args z G H ms vs ds → Args z G H (false :: ms) (v :: vs) (d :: ds)
  | own {ms a vs d ds} : G a = none → OwnAt z G H a d → Args z G H ms vs ds → Args z G H (true :: ms) (.ref a :: vs) (d :: ds)
def ios : List Bool → List V → List Addr
  | true :: ms, .ref a :: vs => a :: ios ms vs
  | _ :: ms, _ :: vs => ios ms vs
  | _, _ => []
abbrev OwnsL (z : Dx) (G H : Hp) : List Addr → List D → Prop := Paired fun a d => OwnAt z G H a d
/-- around a call: As are changed, new objects are laid, nothing else -/
structure Around' (As : List Addr) (H H' G G' : Hp) : Prop where
  ge : GLe G G'
  le : LeH G' H'
  fr : ∀ a o, H a = some o → a ∉ As → Lk G' a o H'
  th : ∀ a, H' a = none → H a = none
  nw : ∀ a u, G' a = some u → G a = some u ∨ H a = none
def DenR (z : Dx) (H H' G' : Hp) (v : V) (d : D) : Bool → Prop
  | false => Rep z G' v d
  | true => ∃ p, v = .ref p ∧ H p = none ∧ G' p = none ∧ OwnAt z G' H' p d
def PostF (z : Dx) (G H : Hp) (As : List Addr) (Q : VK) (E : XK) : FR → Prop
  | .ret d fr io => ∀ v H' G', Around' As H H' G G' → OwnsL z G' H' As io → DenR z H H' G' v d fr → Q v H'
  | .ex c w io => ∀ dd v H' G', Around' As H H' G G' → OwnsL z G' H' As io → H' dd = some (.xd [(("what" : Str), v)]) → Rep z G' v w → E (.ref (z.cl c)) (some dd) H'
  | .no => False
/-- THE PROMISE of a def: it computes F -/
def spD (cl : Brings) (K : PySem.W.Frag) (md : List Bool) (F : List D → FR) : Sp := fun vs H Q E =>
  ∃ G ds, LeH G H ∧ Tabd cl.T G ∧ Args ⟨K, cl, [], fun _ => none⟩ G H md vs ds ∧ (ios md vs).Nodup ∧ PostF ⟨K, cl, [], fun _ => none⟩ G H (ios md vs) Q E (F ds)
theorem Args.lens {z : Dx} {G H : Hp} : ∀ {md : List Bool} {vs : List V} {ds : List D}, Args z G H md vs ds → vs.length = md.length ∧ ds.length = md.length := by
  intro md vs ds h
  induction h with
  | nil => exact ⟨rfl, rfl⟩
  | shr _ _ ih => exact ⟨by simp [ih.1], by simp [ih.2]⟩
  | own _ _ _ ih => exact ⟨by simp [ih.1], by simp [ih.2]⟩

/-! ### a def's body -/
def startS : List Bool → List D → Nat → SS
  | false :: ms, d :: ds, j => .shr d :: startS ms ds j
  | true :: ms, d :: ds, j => .own (some j) d :: startS ms ds (j + 1)
  | _, _, _ => []
def outS : List Bool → SS → Nat → Option (List D)
  | [], _, _ => some []
  | false :: ms, _ :: S, j => outS ms S j
  | true :: ms, .own (some i) d :: S, j => if i = j then (outS ms S (j + 1)).map (d :: ·) else none
  | _, _, _ => none
def runF (n : Nat) (md : List Bool) (f : M Fl) (ds : List D) : FR := match f (startS md ds 0 ++ List.replicate (n - ds.length) .un) with
  | .ok (.rt d fr) S => match outS md S 0 with
    | some io => .ret d fr io
    | none => .no
  | .ok .nx S => match outS md S 0 with
    | some io => .ret .non false io
    | none => .no
  | .ex c w S => match outS md S 0 with
    | some io => .ex c w io
    | none => .no
  | _ => .no

section
variable {z : Dx} {G H : Hp}
/-- the parameters' slots, by their data -/
theorem start_get : ∀ {md : List Bool} {vs : List V} {ds : List D}, Args z G H md vs ds → ∀ (j i : Nat) (w : AV), (startS md ds j)[i]? = some w →
    match w with
    | .un => False
    | .shr d => ∃ v, vs[i]? = some v ∧ Rep z G v d
    | .own t d => ∃ a k, vs[i]? = some (.ref a) ∧ t = some (j + k) ∧ (ios md vs)[k]? = some a ∧ G a = none ∧ OwnAt z G H a d := by
  intro md vs ds h
  induction h with
  | nil => intro j i w e; simp [startS] at e
  | shr r _ ih =>
    intro j i w e
    cases i with
    | zero =>
      simp [startS] at e
      subst e
      exact ⟨_, rfl, r⟩
    | succ i =>
      simp [startS] at e
      have q := ih j i w e
      cases w with
      | un => exact q
      | shr d => simpa using q
      | own t d => simpa [ios] using q
  | own g o _ ih =>
    intro j i w e
    cases i with
    | zero =>
      simp [startS] at e
      subst e
      exact ⟨_, 0, rfl, rfl, rfl, g, o⟩
    | succ i =>
      simp [startS] at e
      have q := ih (j + 1) i w e
      cases w with
      | un => exact q
      | shr d => simpa using q
      | own t d =>
        obtain ⟨a, k, h1, h2, h3, h4⟩ := q
        exact ⟨a, k + 1, by simpa using h1, by rw [h2]; congr 1; omega, by simpa [ios] using h3, h4⟩
theorem startS_length : ∀ {md : List Bool} {ds : List D} (j : Nat), ds.length = md.length → (startS md ds j).length = md.length
  | [], [], _, _ => rfl
  | [], _ :: _, _, h => by simp at h
  | false :: ms, d :: ds, j, h => by simp [startS, startS_length (md := ms) (ds := ds) j (by simpa using h)]
  | true :: ms, d :: ds, j, h => by simp [startS, startS_length (md := ms) (ds := ds) (j + 1) (by simpa using h)]
  | _ :: _, [], _, h => by simp at h
theorem ios_own {md : List Bool} {vs : List V} {ds : List D} (h : Args z G H md vs ds) : ∀ a ∈ ios md vs, G a = none ∧ ∃ o, H a = some o := by
  induction h with
  | nil => intro a ha; simp [ios] at ha
  | shr r _ ih => intro a ha; exact ih a (by simpa [ios] using ha)
  | own g o _ ih =>
    intro a ha
    rcases List.mem_cons.mp (show a ∈ _ :: _ from ha) with rfl | ha
    · exact ⟨g, o.there⟩
    · exact ih a ha
/-- at the end: the objects that came to be changed -/
theorem out_run {S : SS} {σ : L2.St} {H' G' : Hp} (si : SI z S σ H' G') : ∀ {md : List Bool} {T : SS} {τ : L2.St} {j : Nat} {io : List D}, (∀ (i : Nat) w, T[i]? = some w → ∃ (k : Nat), S[k]? = some w ∧ σ[k]? = τ[i]?) → outS md T j = some io → j + (md.filter id).length = z.A.length → OwnsL z G' H' (z.A.drop j) io := by
  intro md
  induction md with
  | nil =>
    intro T τ j io _ e hl
    cases e
    have : z.A.drop j = [] := List.drop_eq_nil_of_le (by simp at hl; omega)
    rw [this]
    exact .nil
  | cons m ms ih =>
    intro T τ j io hT e hl
    cases T with
    | nil => cases m <;> simp [outS] at e
    | cons w T =>
      have hT' : ∀ (i : Nat) w', T[i]? = some w' → ∃ (k : Nat), S[k]? = some w' ∧ σ[k]? = τ.tail[i]? := fun i w' q => by
        obtain ⟨k, h1, h2⟩ := hT (i + 1) w' (by simpa using q)
        exact ⟨k, h1, by rw [h2]; cases τ <;> simp⟩
      cases m with
      | false => exact ih hT' (by simpa [outS] using e) (by simpa using hl)
      | true =>
        cases w with
        | un => simp [outS] at e
        | shr d => simp [outS] at e
        | own t d =>
          cases t with
          | none => simp [outS] at e
          | some i =>
            have e : (if i = j then (outS ms T (j + 1)).map (d :: ·) else none) = some io := e
            by_cases hij : i = j
            · rw [if_pos hij] at e
              subst hij
              cases e2 : outS ms T (i + 1) with
              | none => rw [e2] at e; cases e
              | some io' =>
                rw [e2] at e
                cases e
                obtain ⟨k, h1, _⟩ := hT 0 _ rfl
                obtain ⟨a, _, _, o, t1, _⟩ := si.own k _ _ h1
                have ha := t1 i rfl
                have hd := drop_get ha
                rw [hd]
                exact .cons o (ih hT' e2 (by simp at hl; omega))
            · rw [if_neg hij] at e; cases e
theorem ios_length {md : List Bool} {vs : List V} {ds : List D} (h : Args z G H md vs ds) : (ios md vs).length = (md.filter id).length := by
  induction h with
  | nil => rfl
  | shr r _ ih => simpa [ios] using ih
  | own g o _ ih => simpa [ios] using ih
end
section
variable {P : Program} {w : World} {K : PySem.W.Frag} {mg : Str → Option Value} {base : Heap} {cl : Brings}
theorem start_si {N : List Str} {md : List Bool} {vs : List V} {ds : List D} {G H : Hp} (le : LeH G H) (tb : Tabd cl.T G) (ar : Args ⟨K, cl, [], fun _ => none⟩ G H md vs ds) (nd : (ios md vs).Nodup) :
    SI ⟨K, cl, ios md vs, H⟩ (startS md ds 0 ++ List.replicate (N.length - ds.length) .un) (start N vs) H G := by
  obtain ⟨l1, l2⟩ := ar.lens
  have ls := startS_length (md := md) (ds := ds) 0 l2
  have at_ : ∀ (i : Nat) w, (startS md ds 0 ++ List.replicate (N.length - ds.length) AV.un)[i]? = some w → w ≠ .un → (startS md ds 0)[i]? = some w ∧ ∀ v, vs[i]? = some v → (start N vs)[i]? = some (some v) := by
    intro i w e hw
    have hi : i < (startS md ds 0).length := by
      by_cases hi : i < (startS md ds 0).length
      · exact hi
      · rw [List.getElem?_append_right (by omega), List.getElem?_replicate] at e
        split at e
        · cases e; exact absurd rfl hw
        · cases e
    rw [List.getElem?_append_left hi] at e
    refine ⟨e, fun v hv => ?_⟩
    unfold start
    rw [List.getElem?_append_left (by simp; omega), List.getElem?_map, hv]
    rfl
  refine ⟨by unfold start; simp [ls, l1, l2], le, fun i d e => ?_, fun i t d e => ?_, fun i j ti di tj dj a h1 h2 h3 h4 => ?_, fun a h => h, tb⟩
  · obtain ⟨e1, e2⟩ := at_ i _ e (by intro z; cases z)
    obtain ⟨v, hv, r⟩ := start_get ar 0 i _ e1
    exact ⟨v, e2 v hv, r.ab⟩
  · obtain ⟨e1, e2⟩ := at_ i _ e (by intro z; cases z)
    obtain ⟨a, k, hv, ht, hk, g, o⟩ := start_get ar 0 i _ e1
    refine ⟨a, e2 _ hv, g, o.ab, fun j hj => ?_, fun hn => ?_⟩
    · rw [ht] at hj; cases hj; simpa using hk
    · rw [ht] at hn; cases hn
  · obtain ⟨e1, f1⟩ := at_ i _ h1 (by intro z; cases z)
    obtain ⟨e2, f2⟩ := at_ j _ h2 (by intro z; cases z)
    obtain ⟨a1, k1, hv1, ht1, hk1, _⟩ := start_get ar 0 i _ e1
    obtain ⟨a2, k2, hv2, ht2, hk2, _⟩ := start_get ar 0 j _ e2
    rw [f1 _ hv1] at h3; cases h3
    rw [f2 _ hv2] at h4; cases h4
    have hk : k1 = k2 := nodup_ixA nd hk1 hk2
    subst hk
    exact start_inj l2 0 e1 e2 (by rw [ht1]) (by rw [ht2])
where
  nodup_ixA {l : List Addr} (nd : l.Nodup) {i j : Nat} {x : Addr} (a : l[i]? = some x) (b : l[j]? = some x) : i = j := by
    obtain ⟨h1, e1⟩ := List.getElem?_eq_some_iff.mp a
    obtain ⟨h2, e2⟩ := List.getElem?_eq_some_iff.mp b
    exact (List.getElem_inj nd).mp (e1.trans e2.symm)
  start_inj : ∀ {md : List Bool} {ds : List D}, ds.length = md.length → ∀ (j : Nat) {i1 i2 : Nat} {t1 t2 : Option Nat} {d1 d2 : D} {k : Nat}, (startS md ds j)[i1]? = some (.own t1 d1) → (startS md ds j)[i2]? = some (.own t2 d2) → t1 = some k → t2 = some k → i1 = i2
    | [], [], _, j, i1, i2, _, _, _, _, k, h1, _, _, _ => by simp [startS] at h1
    | [], _ :: _, h, _, _, _, _, _, _, _, _, _, _, _, _ => by simp at h
    | _ :: _, [], h, _, _, _, _, _, _, _, _, _, _, _, _ => by simp at h
    | false :: ms, d :: ds, h, j, i1, i2, t1, t2, d1, d2, k, h1, h2, e1, e2 => by
      cases i1 with
      | zero => simp [startS] at h1
      | succ i1 =>
        cases i2 with
        | zero => simp [startS] at h2
        | succ i2 => exact congrArg (· + 1) (start_inj (md := ms) (ds := ds) (by simpa using h) j (by simpa [startS] using h1) (by simpa [startS] using h2) e1 e2)
    | true :: ms, d :: ds, h, j, i1, i2, t1, t2, d1, d2, k, h1, h2, e1, e2 => by
      have low : ∀ {i : Nat} {t : Option Nat} {d' : D} {k : Nat}, (startS ms ds (j + 1))[i]? = some (.own t d') → t = some k → j < k := fun {i t d' k} q e => start_low (by simpa using h) q e
      cases i1 with
      | zero =>
        cases i2 with
        | zero => rfl
        | succ i2 =>
          simp [startS] at h1
          obtain ⟨h1, _⟩ := h1
          have := low (by simpa [startS] using h2) e2
          rw [← h1] at e1; cases e1; omega
      | succ i1 =>
        cases i2 with
        | zero =>
          simp [startS] at h2
          obtain ⟨h2, _⟩ := h2
          have := low (by simpa [startS] using h1) e1
          rw [← h2] at e2; cases e2; omega
        | succ i2 => exact congrArg (· + 1) (start_inj (md := ms) (ds := ds) (by simpa using h) (j + 1) (by simpa [startS] using h1) (by simpa [startS] using h2) e1 e2)
  start_low : ∀ {md : List Bool} {ds : List D} {j i : Nat} {t : Option Nat} {d : D} {k : Nat}, ds.length = md.length → (startS md ds j)[i]? = some (.own t d) → t = some k → j ≤ k
    | [], [], _, _, _, _, _, _, h, _ => by simp [startS] at h
    | [], _ :: _, _, _, _, _, _, h, _, _ => by simp at h
    | _ :: _, [], _, _, _, _, _, h, _, _ => by simp at h
    | false :: ms, d :: ds, j, i, t, d', k, hl, h, e => by
      cases i with
      | zero => simp [startS] at h
      | succ i => exact start_low (md := ms) (ds := ds) (i := i) (by simpa using hl) (by simpa [startS] using h) e
    | true :: ms, d :: ds, j, i, t, d', k, hl, h, e => by
      cases i with
      | zero => simp [startS] at h; obtain ⟨h, _⟩ := h; rw [← h] at e; cases e; exact Nat.le_refl _
      | succ i => exact Nat.le_of_succ_le (start_low (md := ms) (ds := ds) (i := i) (by simpa using hl) (by simpa [startS] using h) e)
/-- THE RULE for a def -/
theorem FnD {x qual : Str} {params : Arguments} {body : List Stmt} {scope : Scope} {f : Addr} {fd : FuncData} {N ps : List Str} {k : Nat} {md : List Bool} {sem : M Fl} (F : FunD K x qual params body scope [] [] f fd) (S : FnScope N ps scope) (hm : md.length = ps.length)
    (hb : ∀ (cdv : Value) (A : Around) (outer : List Env) (s : Shared) (H : Hp) (E : XK) (z : Dx) (W : WX), fd.code = cdv → z.cl = cl → Room k (A.deeper (envOfC qual scope s.heap.objs.size f cdv)) →
      Ct (cxOf (L2.CX P w) P w K mg base N qual scope f cdv A outer s H E) z W → Sms (cxOf (L2.CX P w) P w K mg base N qual scope f cdv A outer s H E) z W body sem) :
    FnOk P w K mg base (L2.CX P w) (k + 1) f fd ps (spD cl K md (runF N.length md sem)) := by
  obtain ⟨oc, od, dV, kV, doc, pm, an, cdv, ct, osl, rfl, lk, hcd, _, _⟩ := F.ex
  refine fn_of lk hcd S (fun vs H Q E ⟨G, ds, _, _, ar, _⟩ => ar.lens.1.trans hm) fun A outer s H vs Q E hr ⟨G, ds, le, tb, ar, nd, post⟩ => ?_
  have zz : Dx := ⟨K, cl, ios md vs, H⟩
  refine ⟨tDS ⟨K, cl, ios md vs, H⟩ (fun cls d _ H' => E cls d H') sem, (hb cdv A outer s H E ⟨K, cl, ios md vs, H⟩ _ rfl rfl hr ⟨rfl, rfl, passes_of rfl, takes_of rfl rfl rfl rfl, S.nd⟩).ps, ?_⟩
  have si := start_si (N := N) le tb ar nd
  refine ⟨_, G, si, ?_⟩
  have tok : ∀ {S' : SS} {σ' : L2.St} {H' G' : Hp} {io : List D}, SI ⟨K, cl, ios md vs, H⟩ S' σ' H' G' → outS md S' 0 = some io → OwnsL ⟨K, cl, [], fun _ => none⟩ G' H' (ios md vs) io := fun {S' σ' H' G' io} si' e => by
    have q := out_run si' (md := md) (T := S') (τ := σ') (j := 0) (io := io) (fun i w h => ⟨i, h, rfl⟩) e (by show 0 + _ = (ios md vs).length; rw [ios_length ar]; omega)
    exact Paired.mapP q fun _ _ o => o.ab
  have no_ : ∀ {a : Addr}, Owns (startS md ds 0 ++ List.replicate (N.length - ds.length) .un) (start N vs) a → a ∈ ios md vs := fun {a} ⟨i, t, d, e1, e2⟩ => by
    obtain ⟨b, e3, _, _, t1, t2⟩ := si.own i t d e1
    rw [e2] at e3; cases e3
    cases t with
    | some j => exact List.mem_of_getElem? (t1 j rfl)
    | none =>
      have h0 := t2 rfl
      obtain ⟨_, o, ho⟩ := si.ownFree ⟨i, none, d, e1, e2⟩
      have h0 : H a = none := h0
      rw [h0] at ho; cases ho
  have ard : ∀ {S' : SS} {σ' : L2.St} {H' G' : Hp} {io : List D}, SI ⟨K, cl, ios md vs, H⟩ S' σ' H' G' → Go (startS md ds 0 ++ List.replicate (N.length - ds.length) .un) S' (start N vs) σ' H H' G G' → outS md S' 0 = some io → Around' (ios md vs) H H' G G' := fun {S' σ' H' G' io} si' g e => by
    refine ⟨g.ge, si'.le, fun a o h n => g.fr a o h fun q => n (no_ q), g.th, fun a u h => ?_⟩
    rcases g.nw a u h with q | q | q
    · exact .inl q
    · exact .inr q
    · -- an object that came to be changed is not shared at the end
      exfalso
      have ha := no_ q
      obtain ⟨j, hj⟩ := List.mem_iff_getElem?.mp ha
      have own := out_at si' (md := md) (T := S') (τ := σ') (j := 0) (io := io) (fun i w h => ⟨i, h, rfl⟩) e (by show 0 + _ = (ios md vs).length; rw [ios_length ar]; omega) j a (Nat.zero_le _) hj
      rw [own] at h; cases h
  unfold runF at post
  cases e : sem (startS md ds 0 ++ List.replicate (N.length - ds.length) .un) with
  | no => rw [e] at post; exact post.elim
  | ex c wd S' =>
    rw [e] at post
    intro σ' H' G' si' g d v hd r
    cases e2 : outS md S' 0 with
    | none => simp only [e2] at post; exact post.elim
    | some io =>
      simp only [e2] at post
      exact post d v H' G' (ard si' g e2) (tok si' e2) hd r.ab
  | ok fl S' =>
    rw [e] at post
    cases fl with
    | bk => exact post.elim
    | ct => exact post.elim
    | nx =>
      intro σ' H' G' si' g
      cases e2 : outS md S' 0 with
      | none => simp only [e2] at post; exact post.elim
      | some io =>
        simp only [e2] at post
        exact post .non H' G' (ard si' g e2) (tok si' e2) .non
    | rt d fr =>
      intro v σ' H' G' si' g dn
      cases e2 : outS md S' 0 with
      | none => simp only [e2] at post; exact post.elim
      | some io =>
        simp only [e2] at post
        refine post v H' G' (ard si' g e2) (tok si' e2) ?_
        cases fr with
        | false => exact Rep.ab dn
        | true =>
          obtain ⟨p, h1, h2, h3, _, h4⟩ := dn
          exact ⟨p, h1, h2, h3, h4.ab⟩
where
  out_at {z : Dx} {S : SS} {σ : L2.St} {H' G' : Hp} (si : SI z S σ H' G') : ∀ {md : List Bool} {T : SS} {τ : L2.St} {j : Nat} {io : List D}, (∀ (i : Nat) w, T[i]? = some w → ∃ (k : Nat), S[k]? = some w ∧ σ[k]? = τ[i]?) → outS md T j = some io → j + (md.filter id).length = z.A.length → ∀ (k : Nat) (a : Addr), j ≤ k → z.A[k]? = some a → G' a = none := by
    intro md
    induction md with
    | nil =>
      intro T τ j io _ e hl k a hjk ha
      have := (List.getElem?_eq_some_iff.mp ha).1
      simp at hl
      omega
    | cons m ms ih =>
      intro T τ j io hT e hl k a hjk ha
      cases T with
      | nil => cases m <;> simp [outS] at e
      | cons w T =>
        have hT' : ∀ (i : Nat) w', T[i]? = some w' → ∃ (k : Nat), S[k]? = some w' ∧ σ[k]? = τ.tail[i]? := fun i w' q => by
          obtain ⟨k, h1, h2⟩ := hT (i + 1) w' (by simpa using q)
          exact ⟨k, h1, by rw [h2]; cases τ <;> simp⟩
        cases m with
        | false => exact ih hT' (by simpa [outS] using e) (by simpa using hl) k a hjk ha
        | true =>
          cases w with
          | un => simp [outS] at e
          | shr d => simp [outS] at e
          | own t d =>
            cases t with
            | none => simp [outS] at e
            | some i =>
              have e : (if i = j then (outS ms T (j + 1)).map (d :: ·) else none) = some io := e
              by_cases hij : i = j
              · rw [if_pos hij] at e
                subst hij
                cases e2 : outS ms T (i + 1) with
                | none => rw [e2] at e; cases e
                | some io' =>
                  by_cases hk : k = i
                  · subst hk
                    obtain ⟨q, h1, _⟩ := hT 0 _ rfl
                    obtain ⟨b, _, g, o, t1, _⟩ := si.own q _ _ h1
                    have hb := t1 k rfl
                    rw [ha] at hb; cases hb
                    exact g
                  · exact ih hT' e2 (by simp at hl; omega) k a (by omega) ha
              · rw [if_neg hij] at e; cases e
end
end L2.Dl
/-! Calls of defs by their promises. -/
namespace L2.Dl
open PySem PySem.Spec PyProof.Rows

def D.sc : D → Bool
  | .non => true
  | .bl _ => true
  | .int _ => true
  | .str _ => true
  | _ => false
/-- a container of plain values -/
def D.flat : D → Bool
  | .lst l => l.all D.sc
  | .dct l => l.all fun p => p.2.sc
  | .dtt l => l.all fun p => p.2.sc
  | _ => false
def argD (S : SS) : List Bool → List R → Option (List D × List Nat × List Nat)
  | [], [] => some ([], [], [])
  | false :: ms, r :: rs => match look S r, argD S ms rs with
    | some d, some (ds, io, bo) => some (d :: ds, io, match r with
      | .at i => (match S[i]? with
        | some (.own _ _) => i :: bo
        | _ => bo)
      | _ => bo)
    | _, _ => none
  | true :: ms, .at i :: rs => match S[i]?, argD S ms rs with
    | some (.own _ d), some (ds, io, bo) => some (d :: ds, i :: io, bo)
    | _, _ => none
  | _, _ => none
def setIO : SS → List Nat → List D → SS
  | S, i :: io, d :: ds => setIO (match S[i]? with
    | some (.own t _) => S.set i (.own t d)
    | _ => S) io ds
  | S, _, _ => S
def freezeL (S : SS) : List Nat → SS
  | [] => S
  | i :: bo => freezeL (freeze S i) bo
def flatR (fr : Bool) (d : D) : Bool := if fr then d.flat else d.sc
def callK (S1 : SS) (io bo : List Nat) (fl : Bool) (iod : List D) : SS := setIO (if bo.isEmpty || (fl && iod.all D.flat) then S1 else freezeL S1 bo) io iod
def callM (md : List Bool) (Fn : List D → FR) (fl : M (List R)) : M R := fun S => (fl S).bind fun rs S1 => match argD S1 md rs with
  | none => .no
  | some (ds, io, bo) => if io.Nodup ∧ (∀ i ∈ io, i ∉ bo) then (match Fn ds with
    | .no => .no
    | .ret d fr iod => .ok (if fr then .f d else .v d) (callK S1 io bo (flatR fr d) iod)
    | .ex c w iod => .ex c w (callK S1 io bo false iod)) else .no

section
variable {z : Dx} {W : WX} {S S1 : SS} {G G1 H H1 H' G' Gc : Hp} {σ : L2.St} {Q : VK}
theorem Rep.sc {v : V} {d : D} (h : d.sc = true) (r : Rep z G v d) : Rep z G' v d := by
  cases d with
  | non => cases r; exact .non
  | bl b => cases r; exact .bl b
  | int b => cases r; exact .int b
  | str b => cases r; exact .str b
  | _ => cases h
theorem RepL.sc {vs : List V} {ds : List D} (h : ds.all D.sc = true) (r : RepL z G vs ds) : RepL z G' vs ds := by
  induction ds generalizing vs with
  | nil => cases r; exact .nil
  | cons d ds ih =>
    cases r with
    | cons a b =>
      simp only [List.all_cons, Bool.and_eq_true] at h
      exact .cons (a.sc h.1) (ih h.2 b)
theorem OwnAt.flat {a : Addr} {d : D} (h : d.flat = true) (r : OwnAt z G H a d) : OwnAt z G' H a d := by
  cases d with
  | lst l => obtain ⟨xs, e, r⟩ := r; exact ⟨xs, e, r.sc h⟩
  | dct l => obtain ⟨xs, e, k, r⟩ := r; exact ⟨xs, e, k, r.sc (by rw [List.all_map]; exact h)⟩
  | dtt l => obtain ⟨xs, e, k, r⟩ := r; exact ⟨xs, e, k, r.sc (by rw [List.all_map]; exact h)⟩
  | _ => cases h
theorem OwnsL.flat {As : List Addr} {io : List D} (h : io.all D.flat = true) (r : OwnsL z G H As io) : OwnsL z G' H As io := by
  induction r with
  | nil => exact .nil
  | cons a b ih =>
    simp only [List.all_cons, Bool.and_eq_true] at h
    exact .cons (a.flat h.1) (ih h.2)

/-! ### sharing some slots -/
def AV.frz : AV → AV
  | .own _ d => .shr d
  | w => w
theorem freeze_get {i j : Nat} {w : AV} (e : S[j]? = some w) : (freeze S i)[j]? = some (if j = i then w.frz else w) := by
  unfold freeze
  by_cases hj : j = i
  · subst hj
    rw [if_pos rfl, e]
    cases w with
    | own t d => exact set_get e
    | un => exact e
    | shr d => exact e
  · rw [if_neg hj]
    split
    · rw [List.getElem?_set_ne (Ne.symm hj)]; exact e
    · exact e
theorem freezeL_run : ∀ {bo : List Nat} {S : SS} {G : Hp}, SI z S σ H G → ∃ Gc, SI z (freezeL S bo) σ H Gc ∧ Go S (freezeL S bo) σ σ H H G Gc
  | [], S, G, si => ⟨G, si, .refl⟩
  | i :: bo, S, G, si => by
    have one : ∃ G1, SI z (freeze S i) σ H G1 ∧ Go S (freeze S i) σ σ H H G G1 := by
      unfold freeze
      split
      · rename_i t d e
        obtain ⟨a, ea, _⟩ := si.own i t d e
        obtain ⟨G1, h1, h2, _⟩ := si.freeze1 e ea
        exact ⟨G1, h1, h2⟩
      · exact ⟨G, si, .refl⟩
    obtain ⟨G1, s1, g1⟩ := one
    obtain ⟨G2, s2, g2⟩ := freezeL_run (bo := bo) s1
    exact ⟨G2, s2, g1.trans g2⟩
theorem freezeL_shr : ∀ {bo : List Nat} {S : SS} {j : Nat} {d : D}, S[j]? = some (.shr d) → (freezeL S bo)[j]? = some (.shr d)
  | [], S, j, d, e => e
  | i :: bo, S, j, d, e => freezeL_shr (bo := bo) (by rw [freeze_get e]; split <;> rfl)
theorem freezeL_in : ∀ {bo : List Nat} {S : SS} {j : Nat} {t : Option Nat} {d : D}, S[j]? = some (.own t d) → j ∈ bo → (freezeL S bo)[j]? = some (.shr d)
  | [], S, j, t, d, e, h => by simp at h
  | i :: bo, S, j, t, d, e, h => by
    by_cases hj : j = i
    · exact freezeL_shr (bo := bo) (by rw [freeze_get e, if_pos hj]; rfl)
    · exact freezeL_in (bo := bo) (t := t) (by rw [freeze_get e, if_neg hj]) ((List.mem_cons.mp h).resolve_left hj)
theorem freezeL_out : ∀ {bo : List Nat} {S : SS} {j : Nat} {w : AV}, S[j]? = some w → j ∉ bo → (freezeL S bo)[j]? = some w
  | [], S, j, w, e, h => e
  | i :: bo, S, j, w, e, h => freezeL_out (bo := bo) (by rw [freeze_get e, if_neg (fun q => h (by rw [q]; exact List.mem_cons_self))]) (fun q => h (List.mem_cons_of_mem _ q))

theorem setIO_get : ∀ {io : List Nat} {iod : List D} {S : SS} {j : Nat} {w : AV}, io.Nodup → io.length = iod.length → (setIO S io iod)[j]? = some w →
    (j ∉ io ∧ S[j]? = some w) ∨ (∃ k : Nat, ∃ d, io[k]? = some j ∧ iod[k]? = some d ∧ ((∃ t d0, S[j]? = some (.own t d0) ∧ w = .own t d) ∨ (S[j]? = some w ∧ ∀ t d0, w ≠ .own t d0)))
  | [], iod, S, j, w, _, _, e => .inl ⟨by simp, e⟩
  | i :: io, [], S, j, w, _, hl, _ => by simp at hl
  | i :: io, d :: ds, S, j, w, nd, hl, e => by
    obtain ⟨ni, nd⟩ := List.nodup_cons.mp nd
    unfold setIO at e
    have sj : ∀ {w'}, (match S[i]? with | some (.own t _) => S.set i (.own t d) | _ => S)[j]? = some w' → (j ≠ i ∧ S[j]? = some w') ∨ (j = i ∧ ((∃ t d0, S[j]? = some (.own t d0) ∧ w' = .own t d) ∨ (S[j]? = some w' ∧ ∀ t d0, w' ≠ .own t d0))) := fun {w'} q => by
      split at q
      · rename_i t d0 e1
        rcases SI.get_set q with ⟨rfl, e2⟩ | ⟨hj, e2⟩
        · exact .inr ⟨rfl, .inl ⟨t, d0, e1, e2⟩⟩
        · exact .inl ⟨hj, e2⟩
      · rename_i h1
        by_cases hj : j = i
        · subst hj
          exact .inr ⟨rfl, .inr ⟨q, fun t d0 z => h1 t d0 (by rw [← z]; exact q)⟩⟩
        · exact .inl ⟨hj, q⟩
    rcases setIO_get (io := io) (iod := ds) nd (by simpa using hl) e with ⟨h1, h2⟩ | ⟨k, d', h1, h2, h3⟩
    · rcases sj h2 with ⟨hj, h4⟩ | ⟨hj, h4⟩
      · exact .inl ⟨by simp [hj, h1], h4⟩
      · exact .inr ⟨0, d, by simp [hj], rfl, h4⟩
    · have hj : j ≠ i := fun z => ni (by rw [← z]; exact List.mem_of_getElem? h1)
      refine .inr ⟨k + 1, d', by simpa using h1, by simpa using h2, ?_⟩
      rcases h3 with ⟨t, d0, q1, q2⟩ | ⟨q1, q2⟩
      · rcases sj q1 with ⟨_, q⟩ | ⟨z, _⟩
        · exact .inl ⟨t, d0, q, q2⟩
        · exact absurd z hj
      · rcases sj q1 with ⟨_, q⟩ | ⟨z, _⟩
        · exact .inr ⟨q, q2⟩
        · exact absurd z hj
theorem setIO_length : ∀ {io : List Nat} {iod : List D} {S : SS}, (setIO S io iod).length = S.length
  | [], iod, S => by unfold setIO; rfl
  | i :: io, [], S => by unfold setIO; rfl
  | i :: io, d :: ds, S => by
    unfold setIO
    rw [setIO_length (io := io)]
    split
    · rw [List.length_set]
    · rfl
/-- which slots came to be changed, and their objects -/
abbrev IOs (S : SS) (σ : L2.St) : List Nat → List Addr → Prop := Paired fun i a => (∃ t d, S[i]? = some (.own t d)) ∧ σ[i]? = some (some (.ref a))
theorem Paired.gets {α β : Type} {F : α → β → Prop} {xs : List α} {ys : List β} (h : Paired F xs ys) : ∀ {k : Nat} {x : α}, xs[k]? = some x → ∃ y, ys[k]? = some y ∧ F x y := by
  induction h with
  | nil => intro k x e; simp at e
  | cons a b ih =>
    intro k x e
    cases k with
    | zero => simp at e; subst e; exact ⟨_, rfl, a⟩
    | succ k => simpa using ih (by simpa using e)
theorem Paired.memR {α β : Type} {F : α → β → Prop} {xs : List α} {ys : List β} (h : Paired F xs ys) : ∀ {y : β}, y ∈ ys → ∃ x, x ∈ xs ∧ F x y := by
  induction h with
  | nil => intro y e; simp at e
  | cons a b ih =>
    intro y e
    rcases List.mem_cons.mp e with rfl | e
    · exact ⟨_, List.mem_cons_self, a⟩
    · obtain ⟨x, h1, h2⟩ := ih e
      exact ⟨x, List.mem_cons_of_mem _ h1, h2⟩
theorem around_si {io : List Nat} {As : List Addr} {iod : List D} (si : SI z S σ H G) (ar : Around' As H H' G G') (hio : IOs S σ io As) (nd : io.Nodup) (ow : OwnsL z G' H' As iod) :
    SI z (setIO S io iod) σ H' G' ∧ Go S (setIO S io iod) σ σ H H' G G' := by
  have hl : io.length = iod.length := (Paired.length hio).trans (Paired.length ow)
  have gfree : ∀ {a o}, G a = none → H a = some o → G' a = none := fun {a o} g h => by
    cases e : G' a with
    | none => rfl
    | some u =>
      rcases ar.nw a u e with q | q
      · rw [g] at q; cases q
      · rw [h] at q; cases q
  have notA : ∀ {j : Nat} {t d a}, S[j]? = some (.own t d) → σ[j]? = some (some (.ref a)) → j ∉ io → a ∉ As := fun {j t d a} e1 e2 hj ha => by
    obtain ⟨i, hi, ⟨t', d', e3⟩, e4⟩ := Paired.memR hio ha
    exact hj (by rw [si.sep j i _ _ _ _ a e1 e3 e2 e4]; exact hi)
  refine ⟨⟨by rw [setIO_length]; exact si.len, ar.le, fun j d e => ?_, fun j t d e => ?_, fun i j ti di tj dj a h1 h2 h3 h4 => ?_, fun a e => si.dom a (ar.th a e), si.tab.ge ar.ge⟩, ar.ge, fun a o h n => ar.fr a o h fun q => ?_, fun a ⟨j, t, d, e1, e2⟩ => ?_, fun a u h => (ar.nw a u h).elim .inl fun q => .inr (.inl q), ar.th⟩
  · rcases setIO_get nd hl e with ⟨_, h⟩ | ⟨k, d', _, _, ⟨t, d0, _, q⟩ | ⟨h, _⟩⟩
    · obtain ⟨v, q, r⟩ := si.shr j d h; exact ⟨v, q, r.mono ar.ge⟩
    · cases q
    · obtain ⟨v, q, r⟩ := si.shr j d h; exact ⟨v, q, r.mono ar.ge⟩
  · rcases setIO_get nd hl e with ⟨hj, h⟩ | ⟨k, d', hk, hd, ⟨t', d0, h, q⟩ | ⟨_, h⟩⟩
    · obtain ⟨a, q, g, o, t1, t2⟩ := si.own j t d h
      obtain ⟨ob, ho⟩ := o.there
      exact ⟨a, q, gfree g ho, o.mono ar.ge fun o' e' => (ar.fr a o' e' (notA h q hj)).own (gfree g ho), t1, t2⟩
    · cases q
      obtain ⟨a, q, g, o, t1, t2⟩ := si.own j t d0 h
      obtain ⟨ob, ho⟩ := o.there
      obtain ⟨a', ha', _, q'⟩ := Paired.gets hio hk
      rw [q] at q'; cases q'
      obtain ⟨d'', hd'', o'⟩ := Paired.gets ow ha'
      rw [hd] at hd''; cases hd''
      exact ⟨a, q, gfree g ho, o', t1, t2⟩
    · exact absurd rfl (h t d)
  · have back : ∀ {j : Nat} {t d}, (setIO S io iod)[j]? = some (.own t d) → ∃ t' d', S[j]? = some (.own t' d') := fun {j t d} e => by
      rcases setIO_get nd hl e with ⟨_, h⟩ | ⟨k, d', _, _, ⟨t', d0, h, q⟩ | ⟨_, h⟩⟩
      · exact ⟨_, _, h⟩
      · exact ⟨_, _, h⟩
      · exact absurd rfl (h t d)
    obtain ⟨_, _, e1⟩ := back h1
    obtain ⟨_, _, e2⟩ := back h2
    exact si.sep i j _ _ _ _ a e1 e2 h3 h4
  · obtain ⟨i, _, ⟨t, d, e1⟩, e2⟩ := Paired.memR hio q
    exact n ⟨i, t, d, e1, e2⟩
  · rcases setIO_get nd hl e1 with ⟨_, h⟩ | ⟨k, d', _, _, ⟨t', d0, h, q⟩ | ⟨_, h⟩⟩
    · exact .inl ⟨j, t, d, h, e2⟩
    · exact .inl ⟨j, t', d0, h, e2⟩
    · exact absurd rfl (h t d)
theorem Rep.zz {v : V} {d : D} (r : Rep z G v d) : Rep ⟨z.K, z.cl, [], fun _ => none⟩ G v d := Rep.to (z := z) (z' := ⟨z.K, z.cl, [], fun _ => none⟩) rfl rfl r
theorem Rep.uz {v : V} {d : D} (r : Rep ⟨z.K, z.cl, [], fun _ => none⟩ G v d) : Rep z G v d := Rep.to (z := ⟨z.K, z.cl, [], fun _ => none⟩) (z' := z) rfl rfl r
theorem OwnAt.zz {a : Addr} {d : D} (r : OwnAt z G H a d) : OwnAt ⟨z.K, z.cl, [], fun _ => none⟩ G H a d := OwnAt.to (z := z) (z' := ⟨z.K, z.cl, [], fun _ => none⟩) rfl rfl r
theorem OwnAt.uz {a : Addr} {d : D} (r : OwnAt ⟨z.K, z.cl, [], fun _ => none⟩ G H a d) : OwnAt z G H a d := OwnAt.to (z := ⟨z.K, z.cl, [], fun _ => none⟩) (z' := z) rfl rfl r
/-- the arguments, where what is lent is shared -/
theorem argD_run {T : SS} : ∀ {md : List Bool} {vs : List V} {rs : List R} {ds : List D} {io bo : List Nat}, DenL z σ G vs rs → argD S md rs = some (ds, io, bo) → SI z T σ H Gc → GLe G Gc →
    (∀ (j : Nat) d, S[j]? = some (.shr d) → T[j]? = some (.shr d)) → (∀ (j : Nat) t d, S[j]? = some (.own t d) → j ∈ bo → T[j]? = some (.shr d)) → (∀ (j : Nat) t d, S[j]? = some (.own t d) → j ∈ io → T[j]? = some (.own t d)) →
    Args ⟨z.K, z.cl, [], fun _ => none⟩ Gc H md vs ds ∧ IOs S σ io (ios md vs)
  | [], _, [], ds, io, bo, dl, e, si, ge, h1, h2, h3 => by cases dl; cases e; exact ⟨.nil, .nil⟩
  | false :: ms, _, r :: rs, ds, io, bo, .cons (a := v) a b, e, si, ge, h1, h2, h3 => by
    unfold argD at e
    cases el : look S r with
    | none => rw [el] at e; cases e
    | some d =>
      cases ea : argD S ms rs with
      | none => rw [el, ea] at e; cases e
      | some q =>
        obtain ⟨ds', io', bo'⟩ := q
        rw [el, ea] at e
        cases e
        have sub : ∀ j, j ∈ bo' → j ∈ (match r with | .at i => (match S[i]? with | some (.own _ _) => i :: bo' | _ => bo') | _ => bo') := fun j hj => by
          cases r with
          | v _ => exact hj
          | f _ => exact hj
          | «at» i =>
            simp only
            split
            · exact List.mem_cons_of_mem _ hj
            · exact hj
        obtain ⟨q1, q2⟩ := argD_run (md := ms) b ea si ge h1 (fun j t d e hj => h2 j t d e (sub j hj)) h3
        refine ⟨.shr (Rep.zz ?_) q1, q2⟩
        cases r with
        | v d' => cases el; exact Rep.mono ge a
        | f d' => cases el; exact Rep.mono ge a
        | «at» i =>
          have a : σ[i]? = some (some v) := a
          have el : slotD S i = some d := el
          unfold slotD at el
          cases es : S[i]? with
          | none => rw [es] at el; cases el
          | some w =>
            rw [es] at el
            have sh : T[i]? = some (.shr d) := by
              cases w with
              | un => cases el
              | shr d' => cases el; exact h1 i d es
              | own t d' => cases el; exact h2 i t d es (by simp only [es]; exact List.mem_cons_self)
            obtain ⟨v', e1, r⟩ := si.shr i d sh
            rw [a] at e1; cases e1
            exact r
  | true :: ms, _, .at i :: rs, ds, io, bo, .cons (a := v) a b, e, si, ge, h1, h2, h3 => by
    unfold argD at e
    cases es : S[i]? with
    | none => rw [es] at e; cases e
    | some w =>
      cases ea : argD S ms rs with
      | none => rw [es, ea] at e; cases w <;> cases e
      | some q =>
        obtain ⟨ds', io', bo'⟩ := q
        rw [es, ea] at e
        cases w with
        | un => cases e
        | shr d => cases e
        | own t d =>
          cases e
          have a : σ[i]? = some (some v) := a
          obtain ⟨q1, q2⟩ := argD_run (md := ms) b ea si ge h1 h2 (fun j t d e hj => h3 j t d e (List.mem_cons_of_mem _ hj))
          obtain ⟨p, e1, g, o, _⟩ := si.own i t d (h3 i t d es List.mem_cons_self)
          rw [a] at e1; cases e1
          exact ⟨.own g o.zz q1, .cons ⟨⟨t, d, es⟩, a⟩ q2⟩
  | [], _, _ :: _, _, _, _, _, e, _, _, _, _, _ => by cases e
  | true :: _, _, .v _ :: _, _, _, _, _, e, _, _, _, _, _ => by cases e
  | true :: _, _, .f _ :: _, _, _, _, _, e, _, _, _, _, _ => by cases e
  | false :: _, _, [], _, _, _, _, e, _, _, _, _, _ => by cases e
  | true :: _, _, [], _, _, _, _, e, _, _, _, _, _ => by cases e
/-- what a call has locked is free again -/
def UnlTo (H1 : Hp) : List Addr → Hp → Hp → Prop
  | [], H', H'' => H'' = H'
  | d :: L, H', H'' => ∃ Hm, (Hm = H' ∨ ∃ u od, H1 d = some u ∧ Mut (some u) ∧ H' d = some (.frz od u) ∧ Hm = upd H' d u) ∧ UnlTo H1 L Hm H''
theorem UnlTo.refl {H1 H' : Hp} : ∀ {L : List Addr}, UnlTo H1 L H' H'
  | [] => rfl
  | _ :: L => ⟨H', .inl rfl, UnlTo.refl (L := L)⟩
theorem unl_run {X : Cx} {pins : List (Addr × Obj)} {σ1 : L2.St} {H1 : Hp} {s1 s' : Shared} (I1 : Inv X pins σ1 H1 s1) : ∀ {L : List Addr} {H' H'' : Hp}, Inv X pins σ H' s' → UnlTo H1 L H' H'' → Inv X pins σ H'' s'
  | [], H', H'', I, u => by cases u; exact I
  | d :: L, H', H'', I, ⟨Hm, h, u⟩ => by
    rcases h with rfl | ⟨v, od, h1, mu, h2, rfl⟩
    · exact unl_run I1 (L := L) I u
    · exact unl_run I1 (L := L) (I.unlock h2 (I1.nofrz h1 mu)) u
theorem dk_mut {u : HO} (h : Dk u) : Mut (some u) := by cases u <;> first | exact trivial | exact h.elim
theorem unl_ex {H1 : Hp} : ∀ {L : List Addr} {H' : Hp}, (∀ d ∈ L, ∃ u, H1 d = some u ∧ (H' d = some u ∨ (Dk u ∧ ∃ ob, H' d = some (.frz ob u)))) → ∃ H'', UnlTo H1 L H' H'' ∧ (∀ d ∈ L, H'' d = H1 d) ∧ ∀ a, a ∉ L → H'' a = H' a
  | [], H', _ => ⟨H', rfl, fun _ h => by simp at h, fun _ _ => rfl⟩
  | d :: L, H', h => by
    have one : ∃ Hm, (Hm = H' ∨ ∃ u od, H1 d = some u ∧ Mut (some u) ∧ H' d = some (.frz od u) ∧ Hm = upd H' d u) ∧ Hm d = H1 d ∧ ∀ a, a ≠ d → Hm a = H' a := by
      obtain ⟨u, h1, q | ⟨k, ob, q⟩⟩ := h d List.mem_cons_self
      · exact ⟨H', .inl rfl, q.trans h1.symm, fun _ _ => rfl⟩
      · exact ⟨_, .inr ⟨u, ob, h1, dk_mut k, q, rfl⟩, upd_same.trans h1.symm, fun a ha => upd_ne ha⟩
    obtain ⟨Hm, hm, e1, e2⟩ := one
    obtain ⟨H'', u, q1, q2⟩ := unl_ex (L := L) (H' := Hm) (fun d' hd' => by
      obtain ⟨u, h1, q⟩ := h d' (List.mem_cons_of_mem _ hd')
      by_cases e : d' = d
      · subst e; exact ⟨u, h1, .inl (e1.trans h1)⟩
      · exact ⟨u, h1, by rw [e2 d' e]; exact q⟩)
    refine ⟨H'', ⟨Hm, hm, u⟩, fun d' hd' => ?_, fun a ha => ?_⟩
    · by_cases e : d' ∈ L
      · exact q1 d' e
      · rcases List.mem_cons.mp hd' with rfl | hd'
        · exact (q2 _ e).trans e1
        · exact absurd hd' e
    · rw [q2 a fun e => ha (List.mem_cons_of_mem _ e), e2 a fun e => ha (by rw [e]; exact List.mem_cons_self)]
/-- the addresses of some slots -/
def refOf (o : Option (Option V)) : Option Addr := match o with
  | some (some (.ref a)) => some a
  | _ => none
def adrs (σ : L2.St) (bo : List Nat) : List Addr := bo.filterMap fun i => refOf (σ[i]?)
theorem mem_adrs {bo : List Nat} {a : Addr} : a ∈ adrs σ bo ↔ ∃ i ∈ bo, σ[i]? = some (some (.ref a)) := by
  unfold adrs
  rw [List.mem_filterMap]
  constructor
  · rintro ⟨i, hi, e⟩
    refine ⟨i, hi, ?_⟩
    unfold refOf at e
    split at e
    · rename_i b q
      cases e; exact q
    · cases e
  · rintro ⟨i, hi, e⟩
    exact ⟨i, hi, by rw [e]; rfl⟩
theorem argD_bo : ∀ {md : List Bool} {rs : List R} {ds : List D} {io bo : List Nat}, argD S md rs = some (ds, io, bo) → ∀ i ∈ bo, ∃ t d, S[i]? = some (.own t d)
  | [], [], ds, io, bo, e => by cases e; intro i hi; simp at hi
  | false :: ms, r :: rs, ds, io, bo, e => by
    unfold argD at e
    cases el : look S r with
    | none => rw [el] at e; cases e
    | some d =>
      cases ea : argD S ms rs with
      | none => rw [el, ea] at e; cases e
      | some q =>
        obtain ⟨ds', io', bo'⟩ := q
        rw [el, ea] at e
        cases e
        have ih := argD_bo (md := ms) ea
        intro i hi
        cases r with
        | v _ => exact ih i hi
        | f _ => exact ih i hi
        | «at» j =>
          simp only at hi
          split at hi
          · rename_i t d e1
            rcases List.mem_cons.mp hi with rfl | hi
            · exact ⟨t, d, e1⟩
            · exact ih i hi
          · exact ih i hi
  | true :: ms, .at j :: rs, ds, io, bo, e => by
    unfold argD at e
    cases es : S[j]? with
    | none => rw [es] at e; cases e
    | some w =>
      cases ea : argD S ms rs with
      | none => rw [es, ea] at e; cases w <;> cases e
      | some q =>
        obtain ⟨ds', io', bo'⟩ := q
        rw [es, ea] at e
        cases w with
        | un => cases e
        | shr d => cases e
        | own t d => cases e; exact argD_bo (md := ms) ea
  | [], _ :: _, _, _, _, e => by cases e
  | true :: _, .v _ :: _, _, _, _, e => by cases e
  | true :: _, .f _ :: _, _, _, _, e => by cases e
  | false :: _, [], _, _, _, e => by cases e
  | true :: _, [], _, _, _, e => by cases e
theorem own_pl {a : Addr} {d : D} {o : HO} (h : OwnAt z G H a d) (e : H a = some o) : Pl o := by
  cases d with
  | lst l => obtain ⟨xs, e', r⟩ := h; rw [e] at e'; cases e'; trivial
  | dct l => obtain ⟨vs, e', k, r⟩ := h; rw [e] at e'; cases e'; trivial
  | dtt l => obtain ⟨vs, e', k, r⟩ := h; rw [e] at e'; cases e'; trivial
  | ins c l => obtain ⟨dx, vs, e', k, r⟩ := h; rw [e] at e'; cases e'; trivial
  | _ => exact h.elim
theorem own_not_tbl {a : Addr} {d : D} {ps : Array Value} (h : OwnAt z G H a d) (e : H a = some (.tbl ps)) : False := own_pl h e
/-- a call, what it locked being freed behind it -/
def tCallU (sp : Sp) (E : L2.St → XK) (t : TA) : TE := fun σ H Q => t σ H fun vs H1 => ∃ L : List Addr, sp vs H1 (fun v H' => ∃ H'', UnlTo H1 L H' H'' ∧ Q v H'') (E σ)
theorem call_run {cl : Brings} {md : List Bool} {Fn : List D → FR} {fl : M (List R)} (hcl : z.cl = cl) (si : SI z S σ H G) (h : Post z W S G H σ Q (callM md Fn fl S)) :
    tDL z W fl σ H fun vs H1 => ∃ L : List Addr, spD cl z.K md Fn vs H1 (fun v H' => ∃ H'', UnlTo H1 L H' H'' ∧ Q v H'') (WE W σ) := by
  subst hcl
  refine (stepL si h).mono fun vs H1 ⟨rs, S1, G1, si1, _, dl, h1⟩ => ?_
  cases ea : argD S1 md rs with
  | none => rw [ea] at h1; exact h1.elim
  | some q =>
    obtain ⟨ds, io, bo⟩ := q
    rw [ea] at h1
    by_cases hok : io.Nodup ∧ ∀ i ∈ io, i ∉ bo
    · have h1 : Post z W S1 G1 H1 σ Q (if io.Nodup ∧ (∀ i ∈ io, i ∉ bo) then (match Fn ds with
        | .no => .no
        | .ret d fr iod => .ok (if fr then .f d else .v d) (callK S1 io bo (flatR fr d) iod)
        | .ex c w iod => .ex c w (callK S1 io bo false iod)) else .no) := h1
      rw [if_pos hok] at h1
      obtain ⟨nd, dis⟩ := hok
      obtain ⟨Gc, sic, gc⟩ := freezeL_run (bo := bo) si1
      have ioT : ∀ (j : Nat) t d, S1[j]? = some (.own t d) → j ∈ io → (freezeL S1 bo)[j]? = some (.own t d) := fun j t d e hj => freezeL_out e (dis j hj)
      obtain ⟨args, hio⟩ := argD_run (T := freezeL S1 bo) dl ea sic gc.ge (fun j d e => freezeL_shr e) (fun j t d e hj => freezeL_in e hj) ioT
      have hio' : IOs (freezeL S1 bo) σ io (ios md vs) := by
        have aux : ∀ {io' : List Nat} {As : List Addr}, (∀ i ∈ io', i ∈ io) → IOs S1 σ io' As → IOs (freezeL S1 bo) σ io' As := by
          intro io' As hs hp
          induction hp with
          | nil => exact .nil
          | cons a b ih =>
            obtain ⟨⟨t, d, e⟩, e2⟩ := a
            exact .cons ⟨⟨t, d, ioT _ t d e (hs _ List.mem_cons_self)⟩, e2⟩ (ih fun i hi => hs i (List.mem_cons_of_mem _ hi))
        exact aux (fun _ h => h) hio
      have ndA : (ios md vs).Nodup := by
        have aux : ∀ {io' : List Nat} {As : List Addr}, IOs S1 σ io' As → io'.Nodup → As.Nodup := by
          intro io' As hp
          induction hp with
          | nil => intro _; exact List.nodup_nil
          | cons a b ih =>
            intro nd
            obtain ⟨n1, n2⟩ := List.nodup_cons.mp nd
            refine List.nodup_cons.mpr ⟨fun hm => ?_, ih n2⟩
            obtain ⟨i, hi, ⟨t', d', e3⟩, e4⟩ := Paired.memR b hm
            obtain ⟨⟨t, d, e⟩, e2⟩ := a
            exact n1 (by rw [si1.sep _ i _ _ _ _ _ e e3 e2 e4]; exact hi)
        exact aux hio nd
      have hlen : ∀ {iod : List D} {H' G' : Hp}, OwnsL ⟨z.K, z.cl, [], fun _ => none⟩ G' H' (ios md vs) iod → io.length = iod.length := fun ow => (Paired.length hio).trans (Paired.length ow)
      -- behind the call: nothing was lent, or it stays shared
      have plain : ∀ {iod : List D} {H' G' : Hp}, Around' (ios md vs) H1 H' Gc G' → OwnsL ⟨z.K, z.cl, [], fun _ => none⟩ G' H' (ios md vs) iod →
          SI z (setIO (freezeL S1 bo) io iod) σ H' G' ∧ Go S1 (setIO (freezeL S1 bo) io iod) σ σ H1 H' G1 G' := fun {iod H' G'} ar ow => by
        obtain ⟨s2, g2⟩ := around_si sic ar hio' nd (Paired.mapP ow fun _ _ o => o.uz)
        exact ⟨s2, gc.trans g2⟩
      have boA : ∀ a ∈ adrs σ bo, ∃ (i : Nat) (t : Option Nat) (d : D), i ∈ bo ∧ S1[i]? = some (.own t d) ∧ σ[i]? = some (some (.ref a)) := fun a ha => by
        obtain ⟨i, hi, e⟩ := mem_adrs.mp ha
        obtain ⟨t, d, e1⟩ := argD_bo ea i hi
        exact ⟨i, t, d, hi, e1, e⟩
      have boNot : ∀ a ∈ adrs σ bo, a ∉ ios md vs := fun a ha hm => by
        obtain ⟨i, t, d, hi, e1, e2⟩ := boA a ha
        obtain ⟨j, hj, ⟨t', d', e3⟩, e4⟩ := Paired.memR hio hm
        exact dis j hj (by rw [si1.sep j i _ _ _ _ a e3 e1 e4 e2]; exact hi)
      -- .. or what was lent comes back
      have lent : ∀ {iod : List D} {H' G' : Hp}, iod.all D.flat = true → Around' (ios md vs) H1 H' Gc G' → OwnsL ⟨z.K, z.cl, [], fun _ => none⟩ G' H' (ios md vs) iod →
          ∃ H'', UnlTo H1 (adrs σ bo) H' H'' ∧ SI z (setIO S1 io iod) σ H'' G1 ∧ Go S1 (setIO S1 io iod) σ σ H1 H'' G1 G1 ∧ (∀ a, H1 a = none → H'' a = H' a) := fun {iod H' G'} hf ar ow => by
        obtain ⟨H'', u, k1, k2⟩ := unl_ex (H1 := H1) (L := adrs σ bo) (H' := H') (fun a ha => by
          obtain ⟨i, t, d, _, e1, e2⟩ := boA a ha
          obtain ⟨_, o, ho⟩ := si1.ownFree ⟨i, t, d, e1, e2⟩
          refine ⟨o, ho, ?_⟩
          rcases ar.fr a o ho (boNot a ha) with q | ⟨_, q⟩ | ⟨_, ps, _, q, _⟩
          · exact .inl q
          · exact .inr q
          · subst q
            obtain ⟨b, e3, _, ow', _⟩ := si1.own i t d e1
            rw [e2] at e3; cases e3
            exact (own_not_tbl ow' ho).elim)
        have fresh : ∀ a, H1 a = none → H'' a = H' a := fun a h => k2 a fun ha => by
          obtain ⟨i, t, d, _, e1, e2⟩ := boA a ha
          obtain ⟨_, o, ho⟩ := si1.ownFree ⟨i, t, d, e1, e2⟩
          rw [h] at ho; cases ho
        have gcG : ∀ a u, Gc a = some u → a ∉ adrs σ bo → G1 a = some u ∨ H1 a = none := fun a u h na => by
          rcases gc.nw a u h with q | q | ⟨i, t, d, e1, e2⟩
          · exact .inl q
          · exact .inr q
          · exfalso
            by_cases hi : i ∈ bo
            · exact na (mem_adrs.mpr ⟨i, hi, e2⟩)
            · obtain ⟨b, e3, g3, _⟩ := sic.own i t d (freezeL_out e1 hi)
              rw [e2] at e3; cases e3
              rw [g3] at h; cases h
        have frame : ∀ a o, H1 a = some o → a ∉ ios md vs → Lk G1 a o H'' := fun a o h n => by
          by_cases ha : a ∈ adrs σ bo
          · exact .inl ((k1 a ha).trans h)
          · rcases ar.fr a o h n with q | ⟨q, k, ob, q2⟩ | ⟨⟨u, q⟩, ps, ps', k, q2⟩
            · exact .inl ((k2 a ha).trans q)
            · rcases ar.nw a o q with q | q
              · rcases gcG a o q ha with q | q
                · exact .inr (.inl ⟨q, k, ob, (k2 a ha).trans q2⟩)
                · rw [h] at q; cases q
              · rw [h] at q; cases q
            · rcases ar.nw a u q with q | q
              · rcases gcG a u q ha with q | q
                · exact .inr (.inr ⟨⟨u, q⟩, ps, ps', k, (k2 a ha).trans q2⟩)
                · rw [h] at q; cases q
              · rw [h] at q; cases q
        have ar1 : Around' (ios md vs) H1 H'' G1 G1 := by
          refine ⟨.refl _, fun a u e => ?_, frame, fun a h => ?_, fun a u e => .inl e⟩
          · have na : a ∉ adrs σ bo := fun ha => by
              obtain ⟨i, t, d, _, e1, e2⟩ := boA a ha
              obtain ⟨g, _⟩ := si1.ownFree ⟨i, t, d, e1, e2⟩
              rw [g] at e; cases e
            rcases ar.le a u (ar.ge _ _ (gc.ge _ _ e)) with q | ⟨k, o, q⟩ | q
            · exact .inl ⟨(k2 a na).trans q.1, q.2⟩
            · exact .inr (.inl ⟨k, o, (k2 a na).trans q⟩)
            · refine .inr (.inr (q.keep fun b o eb nb => ?_))
              by_cases hb : b ∈ adrs σ bo
              · exfalso
                obtain ⟨i, t, d, _, e1, e2⟩ := boA b hb
                obtain ⟨p, e3, _, ow', _⟩ := si1.own i t d e1
                rw [e2] at e3; cases e3
                obtain ⟨ob, hob⟩ := ow'.there
                rcases ar.fr b ob hob (boNot b hb) with q1 | ⟨_, _, _, q1⟩ | ⟨_, _, _, q1, _⟩
                · rw [q1] at eb; cases eb; exact nb (own_pl ow' hob)
                · rw [q1] at eb; cases eb; exact nb trivial
                · subst q1; exact own_not_tbl ow' hob
              · exact (k2 b hb).trans eb
          · by_cases ha : a ∈ adrs σ bo
            · rw [k1 a ha] at h; exact h
            · rw [k2 a ha] at h; exact ar.th a h
        have ow1 : OwnsL z G1 H'' (ios md vs) iod := by
          have aux : ∀ {As : List Addr} {iod : List D}, (∀ a ∈ As, a ∉ adrs σ bo) → iod.all D.flat = true → OwnsL ⟨z.K, z.cl, [], fun _ => none⟩ G' H' As iod → OwnsL z G1 H'' As iod := by
            intro As iod hA hf hp
            induction hp with
            | nil => exact .nil
            | cons a b ih =>
              simp only [List.all_cons, Bool.and_eq_true] at hf
              refine .cons ?_ (ih (fun x hx => hA x (List.mem_cons_of_mem _ hx)) hf.2)
              exact (OwnAt.flat hf.1 a.uz).mono (GLe.refl _) fun o e => (k2 _ (hA _ List.mem_cons_self)).trans e
          exact aux (fun a ha hb => boNot a hb ha) hf ow
        obtain ⟨s2, g2⟩ := around_si si1 ar1 hio nd ow1
        exact ⟨H'', u, s2, g2, fresh⟩
      refine ⟨adrs σ bo, Gc, ds, sic.le, sic.tab, args, ndA, ?_⟩
      cases er : Fn ds with
      | no => rw [er] at h1; exact h1.elim
      | ret d fr iod =>
        rw [er] at h1
        intro v H' G' ar ow dn
        have h1 : Post z W S1 G1 H1 σ Q (.ok (if fr then .f d else .v d) (callK S1 io bo (flatR fr d) iod)) := h1
        have notOwn : ∀ {T : SS} {p : Addr} {H2 G2 : Hp}, SI z T σ H2 G2 → (∀ (i : Nat) t d, T[i]? = some (.own t d) → ∃ t' d', S1[i]? = some (.own t' d')) → H1 p = none → ¬ Owns T σ p := fun {T p H2 G2} si2 back hp ⟨i, t, d', q1, q2⟩ => by
          obtain ⟨t', d'', q3⟩ := back i t d' q1
          obtain ⟨_, ob, hob⟩ := si1.ownFree ⟨i, t', d'', q3, q2⟩
          rw [hp] at hob; cases hob
        have backIO : ∀ {T : SS}, (∀ (i : Nat) t d, T[i]? = some (.own t d) → ∃ t' d', S1[i]? = some (.own t' d')) → ∀ (i : Nat) t d, (setIO T io iod)[i]? = some (.own t d) → ∃ t' d', S1[i]? = some (.own t' d') := fun {T} back i t d q => by
          rcases setIO_get nd (hlen ow) q with ⟨_, h⟩ | ⟨k, d0, _, _, ⟨t', d0', h, _⟩ | ⟨_, h⟩⟩
          · exact back i _ _ h
          · exact back i _ _ h
          · exact absurd rfl (h t d)
        have backF : ∀ (i : Nat) t d, (freezeL S1 bo)[i]? = some (.own t d) → ∃ t' d', S1[i]? = some (.own t' d') := fun i t d q => by
          cases es : S1[i]? with
          | none =>
            have hl : (freezeL S1 bo).length = S1.length := by rw [sic.len, si1.len]
            have := (List.getElem?_eq_some_iff.mp q).1
            have := List.getElem?_eq_none_iff.mp es
            omega
          | some w =>
            cases w with
            | own t0 d0 => exact ⟨t0, d0, rfl⟩
            | shr d0 => rw [freezeL_shr es] at q; cases q
            | un =>
              exfalso
              have : ∀ {bo : List Nat} {S : SS}, S[i]? = some .un → (freezeL S bo)[i]? = some .un := by
                intro bo
                induction bo with
                | nil => intro S h; exact h
                | cons b bo ih => intro S h; exact ih (by rw [freeze_get h]; split <;> rfl)
              rw [this es] at q; cases q
        by_cases hb : (bo.isEmpty || (flatR fr d && iod.all D.flat)) = true
        · unfold callK at h1
          rw [if_pos hb] at h1
          by_cases hbo : bo.isEmpty = true
          · have : bo = [] := List.isEmpty_iff.mp hbo
            subst this
            obtain ⟨s2, g2⟩ := plain ar ow
            refine ⟨H', .refl, h1 v H' G' s2 g2 ?_⟩
            cases fr with
            | false => exact Rep.uz dn
            | true =>
              obtain ⟨p, e1, e2, e3, e4⟩ := dn
              exact ⟨p, e1, e2, e3, notOwn s2 (backIO fun i t d q => ⟨t, d, q⟩) e2, e4.uz⟩
          · have hf : flatR fr d = true ∧ iod.all D.flat = true := by
              simp only [Bool.or_eq_true, Bool.and_eq_true] at hb
              exact hb.resolve_left hbo
            obtain ⟨H'', u, s2, g2, fresh⟩ := lent hf.2 ar ow
            refine ⟨H'', u, h1 v H'' G1 s2 g2 ?_⟩
            cases fr with
            | false => exact Rep.sc hf.1 (Rep.uz dn)
            | true =>
              obtain ⟨p, e1, e2, e3, e4⟩ := dn
              exact ⟨p, e1, e2, si1.le.none e2, notOwn s2 (backIO fun i t d q => ⟨t, d, q⟩) e2, (OwnAt.flat hf.1 e4.uz).mono (GLe.refl _) fun o e => (fresh p e2).trans e⟩
        · unfold callK at h1
          rw [if_neg hb] at h1
          obtain ⟨s2, g2⟩ := plain ar ow
          refine ⟨H', .refl, h1 v H' G' s2 g2 ?_⟩
          cases fr with
          | false => exact Rep.uz dn
          | true =>
            obtain ⟨p, e1, e2, e3, e4⟩ := dn
            exact ⟨p, e1, e2, e3, notOwn s2 (backIO backF) e2, e4.uz⟩
      | ex c w iod =>
        rw [er] at h1
        intro dd v H' G' ar ow hd r
        obtain ⟨s2, g2⟩ := plain ar ow
        have h1 : Post z W S1 G1 H1 σ Q (.ex c w (callK S1 io bo false iod)) := h1
        unfold callK at h1
        by_cases hbo : bo.isEmpty = true
        · have : bo = [] := List.isEmpty_iff.mp hbo
          subst this
          exact h1 H' G' s2 g2 dd v hd r.uz
        · rw [if_neg (by simp [hbo])] at h1
          exact h1 H' G' s2 g2 dd v hd r.uz
    · have h1 : Post z W S1 G1 H1 σ Q (if io.Nodup ∧ (∀ i ∈ io, i ∉ bo) then (match Fn ds with
        | .no => .no
        | .ret d fr iod => .ok (if fr then .f d else .v d) (callK S1 io bo (flatR fr d) iod)
        | .ex c w iod => .ex c w (callK S1 io bo false iod)) else .no) := h1
      rw [if_neg hok] at h1
      exact h1.elim
end
section
variable {X : Cx} {z : Dx} {W : WX} {k : Nat} {f : Addr} {fd : FuncData} {ps : List Str} {x : Str} {p pos : Pos} {e : Expr} {es : List Expr} {fl : M (List R)} {md : List Bool} {Fn : List D → FR} {cl : Brings}
theorem run_fnU {sp : Sp} {E : L2.St → XK} {pins : List (Addr × Obj)} {σ : L2.St} {H : Hp} {s : Shared} {Q : VK} {us : List Value} {vs : List V} {L : List Addr} (F : FnOk X.prog X.w X.K X.mg X.base (L2.CX X.prog X.w) k f fd ps sp) (hr : Room k X.A) (hb : Binds X.K fd ps []) (hx : PassesAt (L2.CX X.prog X.w) X σ (E σ))
    (I : Inv X pins σ H s) (r : Vals vs us) (h : sp vs H (fun v H' => ∃ H'', UnlTo H L H' H'' ∧ Q v H'') (E σ)) : wpAny (model X.prog X.w) X.A (call (.ref f) us) (EP X pins σ Q) X.xe s := by
  refine thn (run_fnSD F hr hb (dvs := []) .nil hx I r (by rw [List.append_nil]; exact h)) fun u s' hh => ?_
  obtain ⟨v, H', I', rv, H'', un, q⟩ := hh
  exact ⟨v, H'', unl_run I I' un, rv, q⟩
theorem E_call (c : Ct X z W) (F : FnOk X.prog X.w X.K X.mg X.base (L2.CX X.prog X.w) k f fd ps (spD cl X.K md Fn)) (hcl : z.cl = cl) (hr : Room k X.A) (hg : Gl X x) (hm : X.mg x = some (.ref f)) (hk : PySem.W.keepIn X.K (.ref f) = true) (hb : Binds X.K fd ps [])
    (hl : L X z W (e :: es) fl) (hdb : (x == ("__debug__" : Str)) = false := by decide) (he : starEach (e :: es) X.env = (false, eval e X.env) :: starEach es X.env := by rfl) (hpl : (backTo pos (starEach es X.env)).any (·.1) = false := by rfl) :
    E X z W (.Call (.Name x p) (e :: es) [] pos) (callM md Fn fl) := by
  refine ⟨⟨fun pins s σ H Q I ⟨S, G, si, h⟩ => ?_⟩, c.hk⟩
  refine wpAny_Call_Name_kw (ld_glob I hg hm ?_ hdb)
  refine PySem.W.callWith_K (h₀ := X.base) I.ok.mod.kin hk (thn (hl.pa.run pos pins s σ H _ I (call_run hcl si h)) fun us s1 ⟨vs, H1, I1, r, L, q⟩ => ⟨I1.kIn, ?_⟩) he hpl
  exact run_fnU F hr hb (passAt c.tk σ) I1 r (by rw [← c.hk]; exact q)
theorem E_call0 (c : Ct X z W) (F : FnOk X.prog X.w X.K X.mg X.base (L2.CX X.prog X.w) k f fd ps (spD cl X.K md Fn)) (hcl : z.cl = cl) (hr : Room k X.A) (hg : Gl X x) (hm : X.mg x = some (.ref f)) (hk : PySem.W.keepIn X.K (.ref f) = true) (hb : Binds X.K fd ps [])
    (hdb : (x == ("__debug__" : Str)) = false := by decide) : E X z W (.Call (.Name x p) [] [] pos) (callM md Fn sNil) := by
  refine ⟨⟨fun pins s σ H Q I ⟨S, G, si, h⟩ => ?_⟩, c.hk⟩
  refine wpAny_Call_Name_kw (ld_glob I hg hm ?_ hdb)
  obtain ⟨S', G', si', q⟩ := call_run (z := z) hcl si h
  obtain ⟨L, q⟩ := q [] H G' si' .refl .nil
  exact PySem.W.callWith_K0 I.kIn hk (run_fnU (us := []) (vs := []) (E := WE W) F hr hb (passAt c.tk σ) I .nil (by rw [← c.hk]; exact q))
end
end L2.Dl
/-! What is walked: lists, tuples, dicts, texts, ranges. Comprehensions. -/
namespace L2.Dl
open PySem PySem.Spec PyProof.Rows

/-- an expression, its dict locked -/
def lkE (td : TE) : TE := fun σ H Q => td σ H fun x H1 => Q x H1 ∨ ∃ d u, x = .ref d ∧ H1 d = some u ∧ Mut (some u) ∧ ∀ od, Q x (upd H1 d (.frz od u))
theorem PE.lk {X : Cx} {e : Expr} {td : TE} (h : PE X e td) : PE X e (lkE td) := by
  refine ⟨fun pins s σ H Q I q => ?_⟩
  refine thn (h.run pins s σ H _ I q) fun v s1 hh => ?_
  obtain ⟨x, H1, I1, r1, q1⟩ := hh
  rcases q1 with q1 | ⟨d, u, rfl, hd, mu, q1⟩
  · exact ⟨x, H1, I1, r1, q1⟩
  · obtain ⟨od, I2⟩ := I1.lock hd mu
    exact ⟨_, _, I2, r1, q1 od⟩
def keyD : Key → D
  | .inl i => .int i
  | .inr s => .str s
theorem rep_key {z : Dx} {G : Hp} : ∀ k : Key, Rep z G (kV k) (keyD k)
  | .inl i => .int i
  | .inr s => .str s
theorem Pl.of {u : HO} (k : Dk u) : Pl u := by cases u <;> first | trivial | exact k.elim
section
variable {z : Dx} {W : WX} {S S1 : SS} {G G1 H H1 : Hp} {σ : L2.St} {X : Cx}
theorem SI.lock {d : Addr} {u : HO} {ob : Obj} (si : SI z S σ H G) (g : G d = some u) (k : Dk u) (h : H d = some u) : SI z S σ (upd H d (.frz ob u)) G ∧ Go S S σ σ H (upd H d (.frz ob u)) G G := by
  refine ⟨⟨si.len, fun a v e => ?_, si.shr, fun i t d' e => ?_, si.sep, fun a e => si.dom a ?_, si.tab⟩, .refl _, fun a o e n => ?_, fun _ h => .inl h, fun _ _ h => .inl h, fun a e => ?_⟩
  · by_cases ha : a = d
    · subst ha; rw [g] at e; cases e; exact .inr (.inl ⟨k, ob, upd_same⟩)
    · exact (si.le a v e).imp (fun q => ⟨by rw [upd_ne ha]; exact q.1, q.2⟩) (Or.imp (fun q => by rw [upd_ne ha]; exact q) fun q => q.keep fun b o e n => by
        have nb : b ≠ d := fun z => by subst z; rw [h] at e; cases e; exact n (Pl.of k)
        rw [upd_ne nb]; exact e)
  · obtain ⟨a, q, ga, o, t1, t2⟩ := si.own i t d' e
    have ha : a ≠ d := fun q => by subst q; rw [ga] at g; cases g
    exact ⟨a, q, ga, o.mono (.refl _) fun o' e' => by rw [upd_ne ha]; exact e', t1, t2⟩
  · by_cases ha : a = d
    · subst ha; rw [upd_same] at e; cases e
    · rw [upd_ne ha] at e; exact e
  · by_cases ha : a = d
    · subst ha; rw [h] at e; cases e; exact .inr (.inl ⟨g, k, ob, upd_same⟩)
    · exact .inl (by rw [upd_ne ha]; exact e)
  · by_cases ha : a = d
    · subst ha; rw [upd_same] at e; cases e
    · rw [upd_ne ha] at e; exact e
/-- what an iteration by data goes through -/
def seqOf : D → Option (List D)
  | .lst l => some l
  | .tup l => some l
  | .dct l => some (l.map fun p => keyD p.1)
  | .str s => some (s.cps.toList.map fun c => .str ⟨#[c]⟩)
  | .scr l => some (l.map .int)
  | _ => none
def iSeq (fa : M R) : M (List D) := fun S => (fa S).bind fun ra S1 => match valR S1 ra with
  | none => .no
  | some (d, S2) => match seqOf d with
    | none => .no
    | some l => .ok l S2
theorem walkL_rep {xs : List V} {l : List D} (r : RepL z G xs l) : ∀ i d Hc x (H' : Hp) Gc, l[i]? = some d → GLe G Gc → LeH Gc Hc → YAt xs i Hc x H' → ∃ G', Ext Hc H' Gc G' ∧ Rep z G' x d := fun i d Hc x H' Gc e ge le y => by
  obtain ⟨rfl, hx⟩ := y
  obtain ⟨v, hv, rv⟩ := r.get e
  rw [hx] at hv; cases hv
  exact ⟨Gc, .refl le, rv.mono ge⟩
theorem ints_rep {z : Dx} {G : Hp} : ∀ l : List Int, RepL z G (l.map V.int) (l.map D.int)
  | [] => .nil
  | i :: l => .cons (.int i) (ints_rep l)
theorem IT_seq {tg e : Expr} {fa : M R} (he : E X z W e fa) : IT X z W tg e (iSeq fa) := by
  have hk := he.k
  refine ⟨PI.le (PI.or (pi_list he.pe) (PI.or (pi_tup he.pe) (PI.or (pi_keys (PE.lk he.pe)) (pi_str he.pe)))) fun σ H Q ⟨S, G, si, h⟩ => ?_⟩
  -- which of them, by data
  cases ef : fa S with
  | no => rw [iSeq, ef] at h; exact h.elim
  | ex c w S1 =>
    refine .inl ⟨S, G, si, ?_⟩
    rw [iSeq, ef] at h
    rw [ef]
    exact h
  | ok ra S1 =>
    cases ev : valR S1 ra with
    | none => rw [iSeq, ef, bind_ok, ev] at h; exact h.elim
    | some p =>
      obtain ⟨d, S2⟩ := p
      cases es : seqOf d with
      | none => rw [iSeq, ef, bind_ok, ev] at h; simp only [es] at h; exact h.elim
      | some l =>
        have h1 : PostI z W S G H σ Q (.ok l S2) := by
          rw [iSeq, ef, bind_ok, ev] at h
          simp only [es] at h
          exact h
        have main : ∀ {K : V → Hp → Prop}, (∀ x H1 G2, SI z S2 σ H1 G2 → Rep z G2 x d → (∀ J H' G', SI z S2 σ H' G' → Go S2 S2 σ σ H1 H' G2 G' → WalkD z J l S2 σ H' G' → Q J H') → K x H1) → tD z W fa σ H K := fun {K} kk => by
          refine ⟨S, G, si, ?_⟩
          rw [ef]
          intro v H1 G1 si1 g1 dn
          obtain ⟨G2, si2, g2, _, dn2⟩ := settle si1 g1 dn
          obtain ⟨G3, si3, g3, r⟩ := valR_run si2 dn2 ev
          exact kk v H1 G3 si3 r fun J H' G' si' g' w => h1 J H' G' si' ((g2.trans g3).trans g') w
        have notO : ∀ {a : Addr} {o : HO} {H1 G2 : Hp}, SI z S2 σ H1 G2 → G2 a = some o → ¬ Owns S2 σ a := fun {a o H1 G2} si2 g q => by
          obtain ⟨g', _⟩ := si2.ownFree q
          rw [g] at g'; cases g'
        cases d with
        | lst l' =>
          cases es
          refine .inl (main fun x H1 G2 si2 r k => ?_)
          cases r with
          | lst e rl =>
            rename_i a xs
            refine ⟨a, rfl, ⟨_, SqL.of (si2.le.lst e)⟩, k _ H1 G2 si2 .refl ⟨_, _, by rw [← rl.length]; exact walk_list (xs := xs), fun H' fr => ?_, walkL_rep rl⟩⟩
            exact SqL.of (fr a _ (si2.le.lst e) (fun z => z) (notO si2 e))
        | tup l' =>
          cases es
          refine .inr (.inl (main fun x H1 G2 si2 r k => ?_))
          cases r with
          | tup e rl =>
            rename_i a xs
            rw [hk] at e
            refine ⟨a, rfl, ⟨_, si2.le.sqT e⟩, k _ H1 G2 si2 .refl ⟨_, _, by rw [← rl.length]; exact walk_tup (K := X.K) (xs := xs), fun H' fr => ?_, walkL_rep rl⟩⟩
            rcases e with (e | ⟨o, e⟩) | e
            · rcases si2.le a _ e with q | ⟨q, _⟩ | ⟨_, _, q, _⟩
              · exact .inl (.inl (fr a _ q.1 (fun z => z) (notO si2 e)))
              · exact q.elim
              · cases q
            · exact .inl (.inr ⟨o, fr a _ (si2.le.frz e) (fun z => z) (notO si2 e)⟩)
            · exact .inr e
        | dct l' =>
          cases es
          refine .inr (.inr (.inl (main fun x H1 G2 si2 r k => ?_)))
          cases r with
          | dct e kk rl =>
            rename_i a vs
            have hlen : vs.length = l'.length := by have := congrArg List.length kk; simpa using this
            have fin : ∀ (od : Obj) (H2 : Hp), H2 a = some (.frz od (.dK vs)) → SI z S2 σ H2 G2 → Go S2 S2 σ σ H1 H2 G2 G2 → Q (Itk a od vs) H2 := fun od H2 h2 si3 g3 => by
              refine k _ H2 G2 si3 g3 ⟨_, _, by rw [List.length_map, ← hlen]; exact walk_keys (o := od) (kvs := vs), fun H' fr => fr a _ h2 (fun z => z) (notO si2 e), fun i d Hc x H' Gc e2 ge le y => ?_⟩
              obtain ⟨rfl, k', v, e3, rfl⟩ := y
              refine ⟨Gc, .refl le, ?_⟩
              have e4 : (l'.map (·.1))[i]? = some k' := by rw [← kk, List.getElem?_map, e3]; rfl
              rw [List.getElem?_map] at e2 e4
              cases q : l'[i]? with
              | none => rw [q] at e4; cases e4
              | some p =>
                rw [q] at e2 e4
                cases e2; cases e4
                exact rep_key _
            rcases si2.le a _ e with q | ⟨_, od, q⟩ | ⟨_, _, q, _⟩
            · refine .inr ⟨a, _, rfl, q.1, trivial, fun od => ⟨a, od, rfl, .inl ⟨vs, upd_same, ?_⟩⟩⟩
              obtain ⟨si3, g3⟩ := si2.lock (ob := od) e trivial q.1
              exact fin od _ upd_same si3 g3
            · exact .inl ⟨a, od, rfl, .inl ⟨vs, q, fin od H1 q si2 .refl⟩⟩
            · cases q
        | str y =>
          cases es
          refine .inr (.inr (.inr (main fun x H1 G2 si2 r k => ?_)))
          cases r
          refine ⟨y, rfl, k _ H1 G2 si2 .refl ⟨_, _, by rw [List.length_map, Array.length_toList]; exact walk_str (z := y), fun H' _ => trivial, fun i d Hc x H' Gc e2 ge le yy => ?_⟩⟩
          obtain ⟨rfl, c, e3, rfl⟩ := yy
          refine ⟨Gc, .refl le, ?_⟩
          rw [List.getElem?_map, Array.getElem?_toList, e3] at e2
          cases e2
          exact .str _
        | scr l' =>
          cases es
          refine .inl (main fun x H1 G2 si2 r k => ?_)
          cases r with
          | scr e =>
            rename_i a
            rw [hk] at e
            refine ⟨a, rfl, ⟨_, si2.le.sqL e⟩, k _ H1 G2 si2 .refl ⟨_, _, by rw [List.length_map, ← List.length_map (f := V.int)]; exact walk_list (K := X.K) (xs := l'.map V.int), fun H' fr => ?_, walkL_rep (ints_rep l')⟩⟩
            rcases e with (e | ⟨o, e⟩) | e
            · exact .inl (.inl (fr a _ (si2.le.lst e) (fun z => z) (notO si2 e)))
            · exact .inl (.inr ⟨o, fr a _ (si2.le.frz e) (fun z => z) (notO si2 e)⟩)
            · exact .inr e
        | _ => cases es
/-- d.values() -/
def iVal (fa : M R) : M (List D) := fun S => (fa S).bind fun ra S1 => match valR S1 ra with
  | some (.dct l, S2) => .ok (l.map (·.2)) S2
  | _ => .no
theorem dict_main {fa : M R} {QI : It → Hp → Prop} {f : List (Key × D) → List D} (si : SI z S σ H G)
    (h : PostI z W S G H σ QI ((fa S).bind fun ra S1 => match valR S1 ra with | some (.dct l, S2) => .ok (f l) S2 | _ => .no)) :
    tD z W fa σ H fun x H1 => ∃ S2 l a vs G2, SI z S2 σ H1 G2 ∧ x = .ref a ∧ G2 a = some (.dK vs) ∧ vs.map (·.1) = l.map (·.1) ∧ RepL z G2 (vs.map (·.2)) (l.map (·.2)) ∧ ¬ Owns S2 σ a ∧ ∀ J H' G', SI z S2 σ H' G' → Go S2 S2 σ σ H1 H' G2 G' → WalkD z J (f l) S2 σ H' G' → QI J H' := by
  refine (stepI si h).mono fun x H1 ⟨ra, S1, G1, si1, g1, dn, h1⟩ => ?_
  cases ev : valR S1 ra with
  | none => rw [ev] at h1; exact h1.elim
  | some p =>
    obtain ⟨d, S2⟩ := p
    rw [ev] at h1
    obtain ⟨G3, si3, g3, r⟩ := valR_run si1 dn ev
    cases d with
    | dct l =>
      cases r with
      | dct e kk rl =>
        refine ⟨S2, l, _, _, G3, si3, rfl, e, kk, rl, fun q => ?_, fun J H' G' si' g' w => h1 J H' G' si' (g3.trans g') w⟩
        obtain ⟨g', _⟩ := si3.ownFree q
        rw [e] at g'; cases g'
    | _ => exact h1.elim
theorem lock_two {K : V → Hp → Prop} {a : Addr} {vs : List (Key × V)} {S2 : SS} {H1 G2 : Hp} (si2 : SI z S2 σ H1 G2) (e : G2 a = some (.dK vs))
    (k : ∀ od H2, H2 a = some (.frz od (.dK vs)) → SI z S2 σ H2 G2 → Go S2 S2 σ σ H1 H2 G2 G2 → K (.ref a) H2) : K (.ref a) H1 ∨ ∃ d u, V.ref a = .ref d ∧ H1 d = some u ∧ Mut (some u) ∧ ∀ od, K (.ref a) (upd H1 d (.frz od u)) := by
  rcases si2.le a _ e with q | ⟨_, od, q⟩ | ⟨_, _, q, _⟩
  · refine .inr ⟨a, _, rfl, q.1, trivial, fun od => ?_⟩
    obtain ⟨si3, g3⟩ := si2.lock (ob := od) e trivial q.1
    exact k od _ upd_same si3 g3
  · exact .inl (k od H1 q si2 .refl)
  · cases q
theorem IT_values {tg e : Expr} {fa : M R} {apos cpos : Pos} (he : E X z W e fa) (hbase : attributeBase e "values" X.env (eval e X.env) = eval e X.env := by rfl) (hline : (apos.endLine == cpos.line) = true := by rfl) :
    IT X z W tg (.Call (.Attribute e "values" apos) [] [] cpos) (iVal fa) := by
  refine ⟨PI.le (pi_values (PE.lk he.pe) hbase hline) fun σ H Q ⟨S, G, si, h⟩ => ?_⟩
  refine (dict_main (f := fun l => l.map (·.2)) si h).mono fun x H1 ⟨S2, l, a, vs, G2, si2, ex, e, kk, rl, no, k⟩ => ?_
  subst ex
  refine lock_two (K := fun x H1 => ∃ d o kvs, x = V.ref d ∧ H1 d = some (HO.frz o (HO.dK kvs)) ∧ Q (Itd d o kvs) H1) si2 e fun od H2 h2 si3 g3 => ⟨a, od, vs, rfl, h2, k _ H2 G2 si3 g3 ⟨_, _, by rw [List.length_map, ← List.length_map (f := Prod.fst), ← kk, List.length_map]; exact walk_values (o := od) (kvs := vs), fun H' fr => fr a _ h2 (fun z => z) no, fun i d Hc x H' Gc e2 ge le y => ?_⟩⟩
  obtain ⟨rfl, k', e3⟩ := y
  obtain ⟨v, hv, r⟩ := rl.get e2
  rw [List.getElem?_map, e3] at hv
  cases hv
  exact ⟨Gc, .refl le, r.mono ge⟩
/-- d.items() -/
def iItm (fa : M R) : M (List D) := fun S => (fa S).bind fun ra S1 => match valR S1 ra with
  | some (.dct l, S2) => .ok (l.map fun p => .tup [keyD p.1, p.2]) S2
  | _ => .no
theorem pair_rep {Hc G' : Hp} {T : Addr} {x y : V} {d e : D} (le : LeH G' Hc) (hT : Hc T = none) (rx : Rep z G' x d) (ry : Rep z G' y e) : Ext Hc (upd Hc T (.tup [x, y])) G' (upd G' T (.tup [x, y])) ∧ Rep z (upd G' T (.tup [x, y])) (.ref T) (.tup [d, e]) :=
  ⟨.new le hT, .tup (SqT.of upd_same) (.cons (rx.mono (upd_le (le.none hT))) (.cons (ry.mono (upd_le (le.none hT))) .nil))⟩
theorem IT_items {elts : List Expr} {kk : Nat} {tpos : Pos} {e : Expr} {fa : M R} {apos cpos : Pos} (he : E X z W e fa) (hbase : attributeBase e "items" X.env (eval e X.env) = eval e X.env := by rfl) (hline : (apos.endLine == cpos.line) = true := by rfl) :
    IT X z W (.Tuple elts kk tpos) (.Call (.Attribute e "items" apos) [] [] cpos) (iItm fa) := by
  refine ⟨PI.le (pi_items (PE.lk he.pe) hbase hline) fun σ H Q ⟨S, G, si, h⟩ => ?_⟩
  refine (dict_main (f := fun l => l.map fun p => .tup [keyD p.1, p.2]) si h).mono fun x H1 ⟨S2, l, a, vs, G2, si2, ex, e, kk, rl, no, k⟩ => ?_
  subst ex
  refine lock_two (K := fun x H1 => ∃ d o kvs, x = V.ref d ∧ H1 d = some (HO.frz o (HO.dK kvs)) ∧ Q (Iti d o kvs) H1) si2 e fun od H2 h2 si3 g3 => ⟨a, od, vs, rfl, h2, k _ H2 G2 si3 g3 ⟨_, _, by rw [List.length_map, ← List.length_map (f := Prod.fst), ← kk, List.length_map]; exact walk_items (o := od) (kvs := vs), fun H' fr => fr a _ h2 (fun z => z) no, fun i d Hc x H' Gc e2 ge le y => ?_⟩⟩
  obtain ⟨T, v1, v2, rfl, hT, rfl, e3, e4⟩ := y
  rw [List.getElem?_map] at e2
  cases q : l[i]? with
  | none => rw [q] at e2; cases e2
  | some p =>
    rw [q] at e2
    cases e2
    obtain ⟨v, hv, r⟩ := rl.get (i := i) (d := p.2) (by rw [List.getElem?_map, q]; rfl)
    have hk : (vs.map (·.1))[i]? = some p.1 := by rw [kk, List.getElem?_map, q]; rfl
    rw [List.getElem?_map] at hv hk
    have e3 : (vs[i]?.map fun kv => kV kv.1) = some v1 := e3
    have e4 : vs[i]?.map Prod.snd = some v2 := e4
    cases qv : vs[i]? with
    | none => rw [qv] at hv; cases hv
    | some pv =>
      rw [qv] at hv hk e3 e4
      have hk : pv.1 = p.1 := Option.some.inj hk
      cases hv; cases e3; cases e4
      have rk : Rep z Gc (kV pv.1) (keyD p.1) := by rw [← hk]; exact rep_key _
      obtain ⟨h1, h2⟩ := pair_rep le hT rk (r.mono ge)
      exact ⟨_, h1, h2⟩
/-! ### ranges -/
def rangeD (lo : Int) (n : Nat) : List D := (List.range n).map fun k => .int (lo + (k : Nat))
def iRng (f : List D → Option (List D)) (fl : M (List R)) : M (List D) := fun S => (fl S).bind fun rs S1 => match lookL S1 rs with
  | none => .no
  | some ds => match f ds with
    | none => .no
    | some l => .ok l S1
def fRng1 : List D → Option (List D)
  | [.int j] => if -1000000 ≤ j ∧ j ≤ 1000000 then some (rangeD 0 j.toNat) else none
  | _ => none
def fRng2 : List D → Option (List D)
  | [.int i, .int j] => if (-1000000 ≤ i ∧ i ≤ 1000000) ∧ (-1000000 ≤ j ∧ j ≤ 1000000) then some (rangeD i (j - i).toNat) else none
  | _ => none
theorem iRng_run {f : List D → Option (List D)} {fl : M (List R)} {QI : It → Hp → Prop} (si : SI z S σ H G) (h : PostI z W S G H σ QI (iRng f fl S)) :
    tDL z W fl σ H fun vs H1 => ∃ S1 G1 ds l, SI z S1 σ H1 G1 ∧ ViewL z G1 H1 vs ds ∧ f ds = some l ∧ ∀ J H' G', SI z S1 σ H' G' → Go S1 S1 σ σ H1 H' G1 G' → WalkD z J l S1 σ H' G' → QI J H' := by
  refine ⟨S, G, si, ?_⟩
  unfold iRng at h
  cases e : fl S with
  | no => rw [e] at h; exact h
  | ex c w S1 => rw [e] at h; exact h
  | ok rs S1 =>
    rw [e] at h
    intro vs H1 G1 si1 g1 dl
    have h := PostI.from h g1
    cases e1 : lookL S1 rs with
    | none => rw [bind_ok, e1] at h; exact h.elim
    | some ds =>
      cases e2 : f ds with
      | none => rw [bind_ok, e1] at h; simp only [e2] at h; exact h.elim
      | some l =>
        rw [bind_ok, e1] at h
        simp only [e2] at h
        exact ⟨S1, G1, ds, l, si1, dl.view si1 e1, e2, h⟩
theorem range_walk {lo : Int} {n : Nat} : WalkD z (Itr lo n) (rangeD lo n) S σ H G := by
  refine ⟨_, _, by unfold rangeD; rw [List.length_map, List.length_range]; exact walk_range, fun _ _ => trivial, fun i d Hc x H' Gc e2 ge le y => ?_⟩
  obtain ⟨rfl, rfl⟩ := y
  refine ⟨Gc, .refl le, ?_⟩
  unfold rangeD at e2
  rw [List.getElem?_map] at e2
  cases q : (List.range n)[i]? with
  | none => rw [q] at e2; cases e2
  | some k =>
    rw [q] at e2
    cases e2
    obtain ⟨_, e3⟩ := List.getElem?_eq_some_iff.mp q
    rw [List.getElem_range] at e3
    subst e3
    exact .int _
theorem IT_range1 {tg a : Expr} {fl : M (List R)} {p pos : Pos} (hg : Gl X "range") (hm : X.mg "range" = none) (hl : L X z W [a] fl) (hs : starEach [a] X.env = [(false, eval a X.env)] := by rfl) : IT X z W tg (.Call (.Name "range" p) [a] [] pos) (iRng fRng1 fl) := by
  refine ⟨PI.le (pi_range1 hg hm hl.pa hs) fun σ H Q ⟨S, G, si, h⟩ => ?_⟩
  refine (iRng_run si h).mono fun vs H1 ⟨S1, G1, ds, l, si1, vw, e, k⟩ => ?_
  unfold fRng1 at e
  split at e
  · rename_i j
    cases vw with
    | cons v1 v2 =>
      cases v2
      obtain rfl := v1.int
      split at e
      · rename_i hj
        cases e
        exact ⟨j, rfl, by omega, by omega, k _ H1 G1 si1 .refl range_walk⟩
      · cases e
  · cases e
theorem IT_range2 {tg a b : Expr} {fl : M (List R)} {p pos : Pos} (hg : Gl X "range") (hm : X.mg "range" = none) (hl : L X z W [a, b] fl) (hs : starEach [a, b] X.env = [(false, eval a X.env), (false, eval b X.env)] := by rfl) (hs2 : starEach [b] X.env = [(false, eval b X.env)] := by rfl) :
    IT X z W tg (.Call (.Name "range" p) [a, b] [] pos) (iRng fRng2 fl) := by
  refine ⟨PI.le (pi_range2 hg hm hl.pa hs hs2) fun σ H Q ⟨S, G, si, h⟩ => ?_⟩
  refine (iRng_run si h).mono fun vs H1 ⟨S1, G1, ds, l, si1, vw, e, k⟩ => ?_
  unfold fRng2 at e
  split at e
  · rename_i i j
    cases vw with
    | cons v1 v2 =>
      cases v2 with
      | cons v2 v3 =>
        cases v3
        obtain rfl := v1.int
        obtain rfl := v2.int
        split at e
        · rename_i hj
          cases e
          exact ⟨i, j, rfl, ⟨by omega, by omega, by omega, by omega⟩, k _ H1 G1 si1 .refl range_walk⟩
        · cases e
  · cases e
end
end L2.Dl
/-! Comprehensions. -/
namespace L2.Dl
open PySem PySem.Spec PyProof.Rows

def wipeS (S : SS) : List Nat → SS
  | [] => S
  | v :: vs => (wipeS S vs).set v .un
/-- the comprehension's own slots as they were ahead of it -/
def unwipe (S0 S : SS) : List Nat → SS
  | [] => S
  | v :: vs => match S0[v]? with
    | some w => (unwipe S0 S vs).set v w
    | none => unwipe S0 S vs
def noEx {α : Type} : Res α → Res α
  | .ex _ _ _ => .no
  | r => r
def lcL (vs : List Nat) (g : D → SS → Option SS) (ft : M Bool) (fe : M R) : List D → M (List D)
  | [], S => .ok [] S
  | d :: ds, S => match g d S with
    | none => .no
    | some S1 => (noEx (ft S1)).bind fun b S2 => if b = true then (noEx (fe S2)).bind fun r S3 => match valR S3 r with
        | none => .no
        | some (y, S4) => (lcL vs g ft fe ds (wipeS S4 vs)).bind fun out S5 => .ok (y :: out) S5
      else lcL vs g ft fe ds (wipeS S2 vs)
def sLc (vs : List Nat) (fi : M (List D)) (g : D → SS → Option SS) (ft : M Bool) (fe : M R) : M R := fun S => (fi S).bind fun ds S1 => if ds.length ≤ 1000000 then (noEx (lcL vs g ft fe ds (wipeS S1 vs))).bind fun out S2 => .ok (.f (.lst out)) (unwipe S1 S2 vs) else .no

section
variable {z : Dx} {W : WX} {S S0 S1 S2 : SS} {G G1 G2 H H1 H2 : Hp} {σ σ1 : L2.St}
theorem wipeS_length : ∀ {vs : List Nat} {S : SS}, (wipeS S vs).length = S.length
  | [], S => rfl
  | v :: vs, S => by unfold wipeS; rw [List.length_set, wipeS_length]
theorem wipeS_get : ∀ {vs : List Nat} {S : SS} {j : Nat} {w : AV}, (wipeS S vs)[j]? = some w → (j ∈ vs ∧ w = .un) ∨ (j ∉ vs ∧ S[j]? = some w)
  | [], S, j, w, e => .inr ⟨by simp, e⟩
  | v :: vs, S, j, w, e => by
    unfold wipeS at e
    rcases SI.get_set e with ⟨rfl, e1⟩ | ⟨hj, e1⟩
    · exact .inl ⟨List.mem_cons_self, e1⟩
    · rcases wipeS_get e1 with ⟨h1, h2⟩ | ⟨h1, h2⟩
      · exact .inl ⟨List.mem_cons_of_mem _ h1, h2⟩
      · exact .inr ⟨by simp [hj, h1], h2⟩
theorem wipeS_out : ∀ {vs : List Nat} {S : SS} {j : Nat}, j ∉ vs → (wipeS S vs)[j]? = S[j]?
  | [], S, j, _ => rfl
  | v :: vs, S, j, h => by
    unfold wipeS
    rw [List.getElem?_set_ne (fun e => h (by rw [e]; exact List.mem_cons_self)), wipeS_out (fun q => h (List.mem_cons_of_mem _ q))]
theorem unwipe_length : ∀ {vs : List Nat} {S0 S : SS}, (unwipe S0 S vs).length = S.length
  | [], S0, S => rfl
  | v :: vs, S0, S => by
    unfold unwipe
    split
    · rw [List.length_set, unwipe_length]
    · exact unwipe_length
theorem unwipe_get : ∀ {vs : List Nat} {S0 S : SS} {j : Nat} {w : AV}, S0.length = S.length → (unwipe S0 S vs)[j]? = some w → (j ∈ vs ∧ S0[j]? = some w) ∨ (j ∉ vs ∧ S[j]? = some w)
  | [], S0, S, j, w, _, e => .inr ⟨by simp, e⟩
  | v :: vs, S0, S, j, w, hl, e => by
    unfold unwipe at e
    split at e
    · rename_i w0 e0
      rcases SI.get_set e with ⟨rfl, e1⟩ | ⟨hj, e1⟩
      · subst e1; exact .inl ⟨List.mem_cons_self, e0⟩
      · rcases unwipe_get hl e1 with ⟨h1, h2⟩ | ⟨h1, h2⟩
        · exact .inl ⟨List.mem_cons_of_mem _ h1, h2⟩
        · exact .inr ⟨by simp [hj, h1], h2⟩
    · rename_i e0
      rcases unwipe_get hl e with ⟨h1, h2⟩ | ⟨h1, h2⟩
      · exact .inl ⟨List.mem_cons_of_mem _ h1, h2⟩
      · refine .inr ⟨?_, h2⟩
        have : j ≠ v := fun z => by
          subst z
          have h3 := (List.getElem?_eq_some_iff.mp h2).1
          have h4 := List.getElem?_eq_none_iff.mp e0
          omega
        simp [this, h1]
theorem wipe_eq {vs ix : List Nat} {σ σ2 : L2.St} (hl : σ2.length = σ.length) (hs : ∀ i ∈ ix, i ∈ vs) (h : ∀ j : Nat, j ∉ ix → σ2[j]? = (wipe σ vs)[j]?) : wipe σ2 vs = wipe σ vs := by
  apply List.ext_getElem?
  intro j
  by_cases hj : j ∈ vs
  · have one : ∀ {τ : L2.St}, j < τ.length → (wipe τ vs)[j]? = some none := fun {τ} hτ => by
      cases e : (wipe τ vs)[j]? with
      | none =>
        have := List.getElem?_eq_none_iff.mp e
        rw [wipe_length] at this
        omega
      | some o =>
        cases o with
        | none => rfl
        | some v => exact absurd hj (wipe_some e).2
    by_cases hlt : j < σ.length
    · rw [one hlt, one (by omega)]
    · rw [List.getElem?_eq_none (by rw [wipe_length]; omega), List.getElem?_eq_none (by rw [wipe_length]; omega)]
  · rw [wipe_out hj, h j fun q => hj (hs j q)]
theorem wipe_none {vs : List Nat} {τ : L2.St} {j : Nat} (h : j ∈ vs) (v : V) : (wipe τ vs)[j]? ≠ some (some v) := fun e => (wipe_some e).2 h
/-- the block's slots -/
theorem SI.wipe {vs : List Nat} (si : SI z S σ H G) : SI z (wipeS S vs) (L2.wipe σ vs) H G where
  len := by rw [wipeS_length, wipe_length]; exact si.len
  le := si.le
  shr := fun i d e => by
    rcases wipeS_get e with ⟨_, q⟩ | ⟨hi, q⟩
    · cases q
    · rw [wipe_out hi]; exact si.shr i d q
  own := fun i t d e => by
    rcases wipeS_get e with ⟨_, q⟩ | ⟨hi, q⟩
    · cases q
    · rw [wipe_out hi]; exact si.own i t d q
  sep := fun i j ti di tj dj a h1 h2 h3 h4 => by
    rcases wipeS_get h1 with ⟨_, q⟩ | ⟨hi, q⟩
    · cases q
    · rcases wipeS_get h2 with ⟨_, q2⟩ | ⟨hj, q2⟩
      · cases q2
      · rw [wipe_out hi] at h3
        rw [wipe_out hj] at h4
        exact si.sep i j _ _ _ _ a q q2 h3 h4
  dom := si.dom
  tab := si.tab
theorem Owns.wiped {vs : List Nat} {a : Addr} (h : Owns (wipeS S vs) (L2.wipe σ vs) a) : Owns S σ a := by
  obtain ⟨i, t, d, e1, e2⟩ := h
  rcases wipeS_get e1 with ⟨_, q⟩ | ⟨hi, q⟩
  · cases q
  · rw [wipe_out hi] at e2; exact ⟨i, t, d, q, e2⟩
/-- the block's end: from S0 (ahead of it) and S (the block's slots behind it) -/
theorem SI.unwipe {vs : List Nat} (s0 : SI z S0 σ H1 G1) (si : SI z S (L2.wipe σ vs) H2 G2) (g : Go (wipeS S0 vs) S (L2.wipe σ vs) (L2.wipe σ vs) H1 H2 G1 G2) :
    SI z (Dl.unwipe S0 S vs) σ H2 G2 ∧ Go S0 (Dl.unwipe S0 S vs) σ σ H1 H2 G1 G2 := by
  have hl : S0.length = S.length := by rw [s0.len, si.len, wipe_length]
  have sepO : ∀ {i : Nat} {t d a}, i ∈ vs → S0[i]? = some (.own t d) → σ[i]? = some (some (.ref a)) → ¬ Owns (wipeS S0 vs) (L2.wipe σ vs) a := fun {i t d a} hi e1 e2 ⟨j, t', d', e3, e4⟩ => by
    rcases wipeS_get e3 with ⟨_, q⟩ | ⟨hj, q⟩
    · cases q
    · rw [wipe_out hj] at e4
      exact hj (by rw [s0.sep j i _ _ _ _ a q e1 e4 e2]; exact hi)
  have g2n : ∀ {i : Nat} {t d a}, i ∈ vs → S0[i]? = some (.own t d) → σ[i]? = some (some (.ref a)) → G2 a = none := fun {i t d a} hi e1 e2 => by
    obtain ⟨ga, o, ho⟩ := s0.ownFree ⟨i, t, d, e1, e2⟩
    cases q : G2 a with
    | none => rfl
    | some u =>
      rcases g.nw a u q with z1 | z1 | z1
      · rw [ga] at z1; cases z1
      · rw [ho] at z1; cases z1
      · exact absurd z1 (sepO hi e1 e2)
  refine ⟨⟨by rw [unwipe_length, si.len, wipe_length], si.le, fun i d e => ?_, fun i t d e => ?_, fun i j ti di tj dj a h1 h2 h3 h4 => ?_, si.dom, si.tab⟩, g.ge, fun a o h n => g.fr a o h fun q => n q.wiped, fun a ⟨i, t, d, e1, e2⟩ => ?_, fun a u h => ?_, g.th⟩
  · rcases unwipe_get hl e with ⟨hi, q⟩ | ⟨hi, q⟩
    · obtain ⟨v, e1, r⟩ := s0.shr i d q
      exact ⟨v, e1, r.mono g.ge⟩
    · obtain ⟨v, e1, r⟩ := si.shr i d q
      rw [wipe_out hi] at e1
      exact ⟨v, e1, r⟩
  · rcases unwipe_get hl e with ⟨hi, q⟩ | ⟨hi, q⟩
    · obtain ⟨a, e1, ga, o, t1, t2⟩ := s0.own i t d q
      have gn := g2n hi q e1
      exact ⟨a, e1, gn, o.mono g.ge fun o' e' => (g.fr a o' e' (sepO hi q e1)).own gn, t1, t2⟩
    · obtain ⟨a, e1, r⟩ := si.own i t d q
      rw [wipe_out hi] at e1
      exact ⟨a, e1, r⟩
  · have mix : ∀ {i j : Nat} {ti di tj dj a}, i ∈ vs → S0[i]? = some (.own ti di) → σ[i]? = some (some (.ref a)) → j ∉ vs → S[j]? = some (.own tj dj) → σ[j]? = some (some (.ref a)) → False := fun {i j ti di tj dj a} hi q3 q4 hj q5 q6 => by
      obtain ⟨_, o, ho⟩ := s0.ownFree ⟨i, _, _, q3, q4⟩
      rcases g.ow a ⟨j, _, _, q5, by rw [wipe_out hj]; exact q6⟩ with z1 | z1
      · exact sepO hi q3 q4 z1
      · rw [ho] at z1; cases z1
    rcases unwipe_get hl h1 with ⟨hi, q⟩ | ⟨hi, q⟩
    · rcases unwipe_get hl h2 with ⟨hj, q2⟩ | ⟨hj, q2⟩
      · exact s0.sep i j _ _ _ _ a q q2 h3 h4
      · exact (mix hi q h3 hj q2 h4).elim
    · rcases unwipe_get hl h2 with ⟨hj, q2⟩ | ⟨hj, q2⟩
      · exact (mix hj q2 h4 hi q h3).elim
      · exact si.sep i j _ _ _ _ a q q2 (by rw [wipe_out hi]; exact h3) (by rw [wipe_out hj]; exact h4)
  · rcases unwipe_get hl e1 with ⟨hi, q⟩ | ⟨hi, q⟩
    · exact .inl ⟨i, t, d, q, e2⟩
    · exact (g.ow a ⟨i, t, d, q, by rw [wipe_out hi]; exact e2⟩).imp Owns.wiped id
  · rcases g.nw a u h with q | q | q
    · exact .inl q
    · exact .inr (.inl q)
    · exact .inr (.inr q.wiped)
/-- back to the block's start slots after a turn -/
theorem SI.rewipe {vs : List Nat} (si : SI z S σ1 H G) (e : L2.wipe σ1 vs = L2.wipe σ vs) : SI z (wipeS S vs) (L2.wipe σ vs) H G ∧ Go S (wipeS S vs) σ1 (L2.wipe σ vs) H H G G := by
  have h := si.wipe (vs := vs)
  rw [e] at h
  refine ⟨h, .refl _, fun _ _ h _ => .inl h, fun a o => .inl (Owns.wiped (vs := vs) ?_), fun _ _ h => .inl h, fun _ h => h⟩
  rw [e]; exact o
theorem wipeS_wipeS {vs : List Nat} : wipeS (wipeS S vs) vs = wipeS S vs := by
  apply List.ext_getElem?
  intro j
  by_cases hj : j ∈ vs
  · have one : ∀ {T : SS}, j < T.length → (wipeS T vs)[j]? = some .un := fun {T} hT => by
      cases e : (wipeS T vs)[j]? with
      | none =>
        have := List.getElem?_eq_none_iff.mp e
        rw [wipeS_length] at this
        omega
      | some o =>
        rcases wipeS_get e with ⟨_, q⟩ | ⟨h, _⟩
        · rw [q]
        · exact absurd hj h
    by_cases hlt : j < S.length
    · rw [one hlt, one (by rw [wipeS_length]; exact hlt)]
    · rw [List.getElem?_eq_none (by simp only [wipeS_length]; omega), List.getElem?_eq_none (by simp only [wipeS_length]; omega)]
  · rw [wipeS_out hj]

/-- the block of a comprehension: nothing is raised in it -/
abbrev W0 : WX := fun _ _ _ _ => False
theorem noEx_ok {α : Type} {r : Res α} {a : α} {S : SS} (h : noEx r = .ok a S) : r = .ok a S := by
  cases r with
  | ok _ _ => exact h
  | ex _ _ _ => cases h
  | no => cases h
theorem bind_inv {α β : Type} {r : Res α} {k : α → SS → Res β} {b : β} {S : SS} (h : r.bind k = .ok b S) : ∃ a S1, r = .ok a S1 ∧ k a S1 = .ok b S := by
  cases r with
  | ok a S1 => exact ⟨a, S1, rfl, h⟩
  | ex _ _ _ => cases h
  | no => cases h
/-- an object that nobody knows is changed -/
theorem SI.touch {D : Addr} {o u : HO} (si : SI z S σ H G) (h : H D = some o) (g : G D = none) (n : ¬ Owns S σ D) (hp : Pl o := by trivial) : SI z S σ (upd H D u) G where
  len := si.len
  le := fun a v e => by
    have ne : a ≠ D := fun q => by subst q; rw [g] at e; cases e
    exact (si.le a v e).imp (fun q => ⟨by rw [upd_ne ne]; exact q.1, q.2⟩) (Or.imp (fun q => by rw [upd_ne ne]; exact q) fun q => q.keep fun b o e n => by
      have nb : b ≠ D := fun z => by subst z; rw [h] at e; cases e; exact n hp
      rw [upd_ne nb]; exact e)
  shr := si.shr
  own := fun i t d e => by
    obtain ⟨a, q, ga, ow, t1, t2⟩ := si.own i t d e
    have ne : a ≠ D := fun q' => n ⟨i, t, d, e, by rw [← q']; exact q⟩
    exact ⟨a, q, ga, ow.mono (.refl _) fun o' e' => by rw [upd_ne ne]; exact e', t1, t2⟩
  sep := si.sep
  dom := fun a e => si.dom a (by
    by_cases ne : a = D
    · subst ne; rw [upd_same] at e; cases e
    · rw [upd_ne ne] at e; exact e)
  tab := si.tab
theorem Go.touch {D : Addr} {u : HO} (g : Go S S1 σ σ1 H H1 G G1) (hD : H D = none) : Go S S1 σ σ1 H (upd H1 D u) G G1 where
  ge := g.ge
  fr := fun a o e n => by
    have ne : a ≠ D := fun q => by subst q; rw [hD] at e; cases e
    rcases g.fr a o e n with q | ⟨q1, q2, ob, q3⟩ | ⟨q1, ps, ps', q2, q3⟩
    · exact .inl (by rw [upd_ne ne]; exact q)
    · exact .inr (.inl ⟨q1, q2, ob, by rw [upd_ne ne]; exact q3⟩)
    · exact .inr (.inr ⟨q1, ps, ps', q2, by rw [upd_ne ne]; exact q3⟩)
  ow := g.ow
  nw := g.nw
  th := fun a e => by
    by_cases ne : a = D
    · subst ne; exact hD
    · rw [upd_ne ne] at e; exact g.th a e
/-- an object that nobody knows stays so -/
theorem Go.keep {D : Addr} {xs : List V} (g : Go S S1 σ σ1 H H1 G G1) (h : H D = some (.lst xs)) (gn : G D = none) (n : ¬ Owns S σ D) : H1 D = some (.lst xs) ∧ G1 D = none ∧ ¬ Owns S1 σ1 D := by
  refine ⟨(g.fr D _ h n).eq fun z => z, ?_, fun o => ?_⟩
  · cases e : G1 D with
    | none => rfl
    | some u =>
      rcases g.nw D u e with q | q | q
      · rw [gn] at q; cases q
      · rw [h] at q; cases q
      · exact absurd q n
  · rcases g.ow D o with q | q
    · exact n q
    · rw [h] at q; cases q
theorem Go.keepK {D : Addr} {xs : List (Key × V)} (g : Go S S1 σ σ1 H H1 G G1) (h : H D = some (.dK xs)) (gn : G D = none) (n : ¬ Owns S σ D) : H1 D = some (.dK xs) ∧ G1 D = none ∧ ¬ Owns S1 σ1 D := by
  have g1 : G1 D = none := by
    cases e : G1 D with
    | none => rfl
    | some u =>
      rcases g.nw D u e with q | q | q
      · rw [gn] at q; cases q
      · rw [h] at q; cases q
      · exact absurd q n
  refine ⟨(g.fr D _ h n).own g1, g1, fun o => ?_⟩
  rcases g.ow D o with q | q
  · exact n q
  · rw [h] at q; cases q
theorem valR_go {v : V} {r : R} {d : D} {S' S2 : SS} {H' G' : Hp} (si : SI z S' σ H' G') (g : Go S S' σ σ H H' G G') (dn : Den z S' σ H H' G' v r) (e : valR S' r = some (d, S2)) : ∃ G2, SI z S2 σ H' G2 ∧ Go S S2 σ σ H H' G G2 ∧ Rep z G2 v d := by
  obtain ⟨G2, si2, g2, _, dn2⟩ := settle si g dn
  obtain ⟨G3, si3, g3, r3⟩ := valR_run si2 dn2 e
  exact ⟨G3, si3, g2.trans g3, r3⟩
/-- what is true between the turns -/
def LcInv (z : Dx) (vs : List Nat) (g : D → SS → Option SS) (ft : M Bool) (fe : M R) (ds out : List D) (S1 S2 : SS) (σ : L2.St) (H1 G1 : Hp) (D : Addr) (i : Nat) (H : Hp) : Prop :=
  ∃ S' G' acc outs, SI z S' (L2.wipe σ vs) H G' ∧ Go (wipeS S1 vs) S' (L2.wipe σ vs) (L2.wipe σ vs) H1 H G1 G' ∧ H D = some (.lst acc) ∧ G' D = none ∧ ¬ Owns S' (L2.wipe σ vs) D ∧ RepL z G' acc outs ∧ outs.length ≤ i ∧
    (lcL vs g ft fe (ds.drop i) S').bind (fun o S3 => .ok (outs ++ o) S3) = .ok out S2
theorem lc_run {vs ix : List Nat} {fi : M (List D)} {g : D → SS → Option SS} {ft : M Bool} {fe : M R} {Q : VK} (hix : ∀ i ∈ ix, i ∈ vs) (h : tD z W (sLc vs fi g ft fe) σ H Q) :
    tLc (tDI z W fi) (gD z ix g) (tDT z W0 ft) (tD z W0 fe) vs σ H Q := by
  obtain ⟨S, G, si, h⟩ := h
  refine ⟨S, G, si, ?_⟩
  unfold sLc at h
  cases e : fi S with
  | no => rw [e] at h; exact h
  | ex c w S1 => rw [e] at h; exact h
  | ok ds S1 =>
    rw [e] at h
    intro J H1 G1 si1 g1 wd D hD
    have h := Post.from h g1
    rw [bind_ok] at h
    by_cases hsz : ds.length ≤ 1000000
    · rw [if_pos hsz] at h
      cases el : noEx (lcL vs g ft fe ds (wipeS S1 vs)) with
      | no => rw [el] at h; exact h.elim
      | ex c w S2 => cases q : lcL vs g ft fe ds (wipeS S1 vs) <;> rw [q] at el <;> cases el
      | ok out S2 =>
        rw [el, bind_ok] at h
        have el := noEx_ok el
        obtain ⟨Gd, Y, wk, stay, yl⟩ := wd.ex
        have gn : G1 D = none := si1.le.none hD
        have sw := si1.wipe (vs := vs)
        have nO : ¬ Owns (wipeS S1 vs) (L2.wipe σ vs) D := fun o => by
          obtain ⟨_, u, hu⟩ := sw.ownFree o
          rw [hD] at hu; cases hu
        have x0 : Ext H1 (upd H1 D (.lst [])) G1 G1 := .own si1.le hD
        refine lc_it wk (g := gD z ix g) (tt := tDT z W0 ft) (te := tD z W0 fe) (LcInv z vs g ft fe ds out S1 S2 σ H1 G1 D) ⟨wipeS S1 vs, G1, [], [], sw.ext x0, x0.go, upd_same, gn, nO, .nil, Nat.zero_le _, by rw [List.drop_zero, el]; rfl⟩
          (fun i H' _ ⟨S', G', acc, outs, _, g', _⟩ => stay H' fun a o q1 q2 q3 => (g'.fr a o q1 fun q4 => q3 q4.wiped).eq q2) ?_ ?_
        · rintro i x Ha Hb hi ⟨S', G', acc, outs, si', g', hd', gn', no', rl, hlen, eq⟩ y
          have hdi : ds[i]? = some ds[i] := by simp [hi]
          obtain ⟨G2, ex, r⟩ := yl i _ Ha x Hb G' hdi g'.ge si'.le y
          rw [drop_get hdi] at eq
          obtain ⟨o1, S3, eq1, eq2⟩ := bind_inv eq
          have eq1 : (match g ds[i] S' with
            | none => Res.no
            | some S1 => (noEx (ft S1)).bind fun b S2 => if b = true then (noEx (fe S2)).bind fun r S3 => match valR S3 r with
                | none => .no
                | some (y, S4) => (lcL vs g ft fe (ds.drop (i + 1)) (wipeS S4 vs)).bind fun out S5 => .ok (y :: out) S5
              else lcL vs g ft fe (ds.drop (i + 1)) (wipeS S2 vs)) = .ok o1 S3 := eq1
          have g2 := g'.trans (ex.go (S := S') (σ := L2.wipe σ vs))
          have hd2 := ex.hh D _ hd'
          obtain ⟨hd2, gn2, no2⟩ := (ex.go (S := S') (σ := L2.wipe σ vs)).keep hd' gn' no'
          cases eg : g ds[i] S' with
          | none => rw [eg] at eq1; cases eq1
          | some S4 =>
            rw [eg] at eq1
            refine ⟨S', G2, _, S4, si'.ext ex, r, eg, fun σ3 H3 G3 si3 g3 k3 => ?_⟩
            have hw := wipe_eq (ix := ix) (σ := σ) (σ2 := σ3) (k3.2.trans (wipe_length _ _)) hix k3.1
            refine ⟨hw, ?_⟩
            · skip
              obtain ⟨b, S5, eb, eq3⟩ := bind_inv eq1
              have eb := noEx_ok eb
              obtain ⟨hd3, gn3, no3⟩ := g3.keep hd2 gn2 no2
              refine ⟨S4, G3, si3, ?_⟩
              rw [eb]
              intro H5 G5 si5 g5
              obtain ⟨hd5, gn5, no5⟩ := g5.keep hd3 gn3 no3
              cases b with
              | false =>
                rw [if_neg Bool.false_ne_true] at eq3 ⊢
                obtain ⟨s6, g6⟩ := si5.rewipe (σ := σ) hw
                obtain ⟨hd6, gn6, no6⟩ := g6.keep hd5 gn5 no5
                refine ⟨_, G5, acc, outs, s6, ((g2.trans g3).trans g5).trans g6, hd6, gn6, no6, rl.mono (ex.ge.trans (g3.ge.trans g5.ge)), Nat.le_succ_of_le hlen, ?_⟩
                rw [eq3]
                exact eq2
              | true =>
                rw [if_pos rfl] at eq3 ⊢
                obtain ⟨rr, S6, ee, eq4⟩ := bind_inv eq3
                have ee := noEx_ok ee
                refine ⟨S5, G5, si5, ?_⟩
                rw [ee]
                intro yv H6 G6 si6 g6 dn6
                cases ev : valR S6 rr with
                | none => rw [ev] at eq4; cases eq4
                | some p =>
                  obtain ⟨yd, S7⟩ := p
                  rw [ev] at eq4
                  obtain ⟨o2, S8, eq5, eq6⟩ := bind_inv eq4
                  obtain ⟨G7, si7, g7, r7⟩ := valR_go si6 g6 dn6 ev
                  obtain ⟨hd7, gn7, no7⟩ := g7.keep hd5 gn5 no5
                  obtain ⟨s8, g8⟩ := si7.rewipe (σ := σ) hw
                  obtain ⟨hd8, gn8, no8⟩ := g8.keep hd7 gn7 no7
                  have rl7 := rl.mono (ex.ge.trans (g3.ge.trans (g5.ge.trans g7.ge)))
                  have hz : acc.length < sizeLine := Nat.lt_of_le_of_lt (Nat.le_trans (by rw [rl.length]; exact hlen) (Nat.le_trans (Nat.le_of_lt hi) hsz)) (by rw [sizeLine_eq]; decide)
                  refine ⟨acc, hd8, hz, _, G7, acc ++ [yv], outs ++ [yd], s8.touch hd8 gn8 no8, ((((g2.trans g3).trans g5).trans g7).trans g8).touch hD, upd_same, gn8, no8, rl7.append (.cons r7 .nil), by simp; omega, ?_⟩
                  rw [eq5]
                  cases eq6
                  rw [bind_ok, List.append_assoc]
                  exact eq2
        · rintro Ha ⟨S', G', acc, outs, si', g', hd', gn', no', rl, hlen, eq⟩
          rw [List.drop_length] at eq
          have eq : (Res.ok (outs ++ []) S' : Res (List Dl.D)) = .ok out S2 := eq
          rw [List.append_nil] at eq
          cases eq
          obtain ⟨su, gu⟩ := SI.unwipe si1 si' g'
          refine h (.ref D) Ha G' su gu ⟨D, rfl, hD, gn', fun ⟨i, t, d, q1, q2⟩ => ?_, acc, hd', rl⟩
          rcases unwipe_get (by rw [si1.len, si'.len, wipe_length]) q1 with ⟨hi, q⟩ | ⟨hi, q⟩
          · obtain ⟨_, u, hu⟩ := si1.ownFree ⟨i, t, d, q, q2⟩
            rw [hD] at hu; cases hu
          · exact no' ⟨i, t, d, q, by rw [wipe_out hi]; exact q2⟩
    · rw [if_neg hsz] at h; exact h.elim
variable {X : Cx}
/-- the tests of a comprehension -/
structure Ts (X : Cx) (z : Dx) (W : WX) (ifs : List Expr) (f : M Bool) : Prop where
  pt : PTs X ifs (tDT z W f)
theorem PTs.le {ifs : List Expr} {t t' : TT} (h : PTs X ifs t) (w : ∀ σ H Q, t' σ H Q → t σ H Q) : PTs X ifs t' := ⟨fun pins s σ H Q I q => h.run pins s σ H Q I (w σ H Q q)⟩
def sYes : M Bool := fun S => .ok true S
theorem Ts_nil : Ts X z W [] sYes := ⟨PTs.le pts_nil fun σ H Q ⟨S, G, si, h⟩ => h H G si .refl⟩
theorem Ts_one {c : Expr} {ft : M Bool} (h : T X z W c ft) : Ts X z W [c] ft := ⟨pts_one h.pt⟩
/-- the context of a comprehension's block -/
theorem Ct.blk (c : Ct X z W) (s : Shared) (H : Hp) (scope : Scope) (cenv : Env) (fp : List Addr) : Ct (X.blk s H scope cenv fp) z W0 where
  hk := c.hk
  calm := c.calm
  hp := PassesOwn.never
  tk := takes0
  nd := c.nd
theorem E_lc {elt tg iter : Expr} {ifs : List Expr} {scope : Scope} {own : List (Str × Nat)} {pos : Pos} {fi : M (List D)} {ix : List Nat} {g : D → SS → Option SS} {ft : M Bool} {fe : M R} (c : Ct X z W) (hi : IT X z W tg iter fi) (ok : BlkOk X.N X.env.scope scope own)
    (hix : ∀ i ∈ ix, i ∈ own.map (·.2)) (hg : ∀ (s : Shared) (H : Hp) (C : Addr) (cl : List (Str × Addr)) (fp : List Addr), Tg (X.blk s H scope (compEnvC scope cl C X.env) fp) z tg ix g)
    (ht : ∀ (s : Shared) (H : Hp) (C : Addr) (cl : List (Str × Addr)) (fp : List Addr), Ts (X.blk s H scope (compEnvC scope cl C X.env) fp) z W0 ifs ft)
    (he : ∀ (s : Shared) (H : Hp) (C : Addr) (cl : List (Str × Addr)) (fp : List Addr), E (X.blk s H scope (compEnvC scope cl C X.env) fp) z W0 elt fe) (hs : ∀ x, foldedSetIterable iter X.env x = pure x := by intro _; rfl) :
    E X z W (.ListComp elt [⟨tg, iter, ifs, 0⟩] scope pos) (sLc (own.map (·.2)) fi g ft fe) :=
  ⟨PE.le (pe_lc c.calm c.nd hi.pi ok (fun s H C cl fp => (hg s H C cl fp).pg) (fun s H C cl fp => (ht s H C cl fp).pt) (fun s H C cl fp => (he s H C cl fp).pe) hs) fun σ H Q h => lc_run hix h, c.hk⟩
/-- name = [..], the name a local -/
theorem S_setLc {i : Nat} {y : Str} {py : Pos} {elt tg iter : Expr} {ifs : List Expr} {scope : Scope} {own : List (Str × Nat)} {pos spos : Pos} {fi : M (List D)} {ix : List Nat} {g : D → SS → Option SS} {ft : M Bool} {fe : M R} (c : Ct X z W) (hy : X.N[i]? = some y) (hyl : X.env.scope.names.lookup y = some .local)
    (hsw : swapsWith (.ListComp elt [⟨tg, iter, ifs, 0⟩] scope pos) (some (.Name y py)) spos.line X.env = pure true) (hi : IT X z W tg iter fi) (ok : BlkOk X.N X.env.scope scope own)
    (hix : ∀ i ∈ ix, i ∈ own.map (·.2)) (hg : ∀ (s : Shared) (H : Hp) (C : Addr) (cl : List (Str × Addr)) (fp : List Addr), Tg (X.blk s H scope (compEnvC scope cl C X.env) fp) z tg ix g)
    (ht : ∀ (s : Shared) (H : Hp) (C : Addr) (cl : List (Str × Addr)) (fp : List Addr), Ts (X.blk s H scope (compEnvC scope cl C X.env) fp) z W0 ifs ft)
    (he : ∀ (s : Shared) (H : Hp) (C : Addr) (cl : List (Str × Addr)) (fp : List Addr), E (X.blk s H scope (compEnvC scope cl C X.env) fp) z W0 elt fe) (hs : ∀ x, foldedSetIterable iter X.env x = pure x := by intro _; rfl) :
    Sm X z W (.Assign [.Name y py] (.ListComp elt [⟨tg, iter, ifs, 0⟩] scope pos) spos) (sAsg i (sLc (own.map (·.2)) fi g ft fe)) :=
  ⟨PS.le (ps_setLc c.calm c.nd hy hyl hsw hi.pi ok (fun s H C cl fp => (hg s H C cl fp).pg) (fun s H C cl fp => (ht s H C cl fp).pt) (fun s H C cl fp => (he s H C cl fp).pe) hs) fun D σ H ⟨S, G, si, h⟩ => lc_run hix (sAsg_run si h)⟩

/-! ### dict comprehensions -/
def putD {κ : Type} [DecidableEq κ] (kvs : List (κ × D)) (k : κ) (v : D) : List (κ × D) :=
  if (kvs.any fun kv => decide (kv.1 = k)) = true then kvs.map (fun kv => if kv.1 = k then (kv.1, v) else kv) else kvs ++ [(k, v)]
def keyOf : D → Option Key
  | .int i => some (.inl i)
  | .str s => some (.inr s)
  | _ => none
theorem keyOf_rep {v : V} {d : D} {k : Key} (h : keyOf d = some k) (r : Rep z G v d) : v = kV k := by
  cases d with
  | int i => cases h; cases r; rfl
  | str i => cases h; cases r; rfl
  | _ => cases h
/-- pairs told by data -/
def RepP {κ : Type} (z : Dx) (G : Hp) (vs : List (κ × V)) (l : List (κ × D)) : Prop := vs.map (·.1) = l.map (·.1) ∧ RepL z G (vs.map (·.2)) (l.map (·.2))
theorem RepP.nil {κ : Type} : RepP (κ := κ) z G [] [] := ⟨rfl, .nil⟩
theorem RepP.mono {κ : Type} {vs : List (κ × V)} {l : List (κ × D)} (h : RepP z G vs l) (g : GLe G G1) : RepP z G1 vs l := ⟨h.1, h.2.mono g⟩
theorem RepP.len {κ : Type} {vs : List (κ × V)} {l : List (κ × D)} (h : RepP z G vs l) : vs.length = l.length := by simpa using congrArg List.length h.1
theorem RepP.ind {κ : Type} {P : List (κ × V) → List (κ × D) → Prop} (h0 : P [] []) (hs : ∀ k v d vs l, Rep z G v d → RepP z G vs l → P vs l → P ((k, v) :: vs) ((k, d) :: l)) : ∀ {vs l}, RepP z G vs l → P vs l
  | [], [], _ => h0
  | (k, v) :: vs, (k', d) :: l, ⟨h1, h2⟩ => by
    simp only [List.map_cons, List.cons.injEq] at h1
    obtain ⟨rfl, h1⟩ := h1
    cases h2 with
    | cons a b => exact hs _ _ _ _ _ a ⟨h1, b⟩ (RepP.ind h0 hs ⟨h1, b⟩)
  | [], _ :: _, ⟨h1, _⟩ => by simp at h1
  | _ :: _, [], ⟨h1, _⟩ => by simp at h1
theorem RepP.put {κ : Type} [DecidableEq κ] {vs : List (κ × V)} {l : List (κ × D)} (h : RepP z G vs l) (k : κ) {v : V} {d : D} (r : Rep z G v d) : RepP z G (putK vs k v) (putD l k d) := by
  have ea : (vs.any fun kv => decide (kv.1 = k)) = (l.any fun kv => decide (kv.1 = k)) := by
    refine RepP.ind (P := fun vs l => (vs.any fun kv => decide (kv.1 = k)) = (l.any fun kv => decide (kv.1 = k))) rfl (fun k' v d vs l _ _ ih => ?_) h
    simp only [List.any_cons, ih]
  unfold putK putD
  rw [ea]
  split
  · refine RepP.ind (P := fun vs l => RepP z G (vs.map fun kv => if kv.1 = k then (kv.1, v) else kv) (l.map fun kv => if kv.1 = k then (kv.1, d) else kv)) .nil (fun k' v' d' vs l r' _ ih => ?_) h
    simp only [List.map_cons]
    by_cases e : k' = k
    · simp only [e, if_true]
      exact ⟨by simp only [List.map_cons]; rw [ih.1], .cons r ih.2⟩
    · simp only [if_neg e]
      exact ⟨by simp only [List.map_cons]; rw [ih.1], .cons r' ih.2⟩
  · exact ⟨by simp [h.1], by rw [List.map_append, List.map_append]; exact h.2.append (.cons r .nil)⟩
def valD {κ : Type} [DecidableEq κ] (l : List (κ × D)) (k : κ) : Option D := (l.find? fun kv => decide (kv.1 = k)).map (·.2)
theorem RepP.val {κ : Type} [DecidableEq κ] {vs : List (κ × V)} {l : List (κ × D)} (h : RepP z G vs l) (k : κ) : (valV vs k = none ∧ valD l k = none) ∨ ∃ v d, valV vs k = some v ∧ valD l k = some d ∧ Rep z G v d := by
  refine RepP.ind (P := fun vs l => (valV vs k = none ∧ valD l k = none) ∨ ∃ v d, valV vs k = some v ∧ valD l k = some d ∧ Rep z G v d) (.inl ⟨rfl, rfl⟩) (fun k' v' d' vs l r _ ih => ?_) h
  by_cases e : k' = k
  · exact .inr ⟨v', d', valV_pos e, by simp [valD, List.find?_cons, e], r⟩
  · rw [valV_neg (p := (k', v')) e]
    have : valD ((k', d') :: l) k = valD l k := by simp [valD, List.find?_cons, e]
    rw [this]
    exact ih
def dropD {κ : Type} [DecidableEq κ] (l : List (κ × D)) (k : κ) : List (κ × D) := l.filter fun kv => decide (kv.1 ≠ k)
theorem RepP.drop {κ : Type} [DecidableEq κ] {vs : List (κ × V)} {l : List (κ × D)} (h : RepP z G vs l) (k : κ) : RepP z G (dropK vs k) (dropD l k) := by
  refine RepP.ind (P := fun vs l => RepP z G (dropK vs k) (dropD l k)) .nil (fun k' v' d' vs l r _ ih => ?_) h
  unfold dropK dropD at *
  by_cases e : k' = k
  · simp only [List.filter_cons, e, ne_eq, not_true_eq_false, decide_false]
    exact ih
  · simp only [List.filter_cons, ne_eq, e, not_false_eq_true, decide_true, if_true]
    exact ⟨by simp only [List.map_cons]; rw [ih.1], .cons r ih.2⟩
def dcL (vs : List Nat) (g : D → SS → Option SS) (ft : M Bool) (fk fe : M R) : List (Key × D) → List D → M (List (Key × D))
  | acc, [], S => .ok acc S
  | acc, d :: ds, S => match g d S with
    | none => .no
    | some S1 => (noEx (ft S1)).bind fun b S2 => if b = true then (noEx (fk S2)).bind fun rk S3 => (noEx (fe S3)).bind fun r S4 => match (look S4 rk).bind keyOf with
        | none => .no
        | some k => match valR S4 r with
          | none => .no
          | some (y, S5) => dcL vs g ft fk fe (putD acc k y) ds (wipeS S5 vs)
      else dcL vs g ft fk fe acc ds (wipeS S2 vs)
def sDc (vs : List Nat) (fi : M (List D)) (g : D → SS → Option SS) (ft : M Bool) (fk fe : M R) : M R := fun S => (fi S).bind fun ds S1 => if ds.length ≤ 1000000 then (noEx (dcL vs g ft fk fe [] ds (wipeS S1 vs))).bind fun out S2 => .ok (.f (.dct out)) (unwipe S1 S2 vs) else .no
def DcInv (z : Dx) (vs : List Nat) (g : D → SS → Option SS) (ft : M Bool) (fk fe : M R) (ds : List D) (out : List (Key × D)) (S1 S2 : SS) (σ : L2.St) (H1 G1 : Hp) (D : Addr) (i : Nat) (H : Hp) : Prop :=
  ∃ S' G' acc outs, SI z S' (L2.wipe σ vs) H G' ∧ Go (wipeS S1 vs) S' (L2.wipe σ vs) (L2.wipe σ vs) H1 H G1 G' ∧ H D = some (.dK acc) ∧ G' D = none ∧ ¬ Owns S' (L2.wipe σ vs) D ∧ RepP z G' acc outs ∧ outs.length ≤ i ∧
    dcL vs g ft fk fe outs (ds.drop i) S' = .ok out S2
theorem length_putD {κ : Type} [DecidableEq κ] (kvs : List (κ × D)) (k : κ) (v : D) : (putD kvs k v).length ≤ kvs.length + 1 := by
  unfold putD
  split
  · rw [List.length_map]; exact Nat.le_succ _
  · simp
end
end L2.Dl
/-! Dict comprehensions. -/
namespace L2.Dl
open PySem PySem.Spec PyProof.Rows

/-- a dict comprehension over a walk -/
theorem dc_it {J : It} {n : Nat} {Gd : Hp → Prop} {Y : Nat → Hp → V → Hp → Prop} (w : Walk J n Gd Y) {g : TG} {tt : TT} {tk tv : TE} {vs : List Nat} {σ : L2.St} {H1 : Hp} {D : Addr} {Qd : Hp → Prop} (Pv : Nat → Hp → Prop) (h0 : Pv 0 (upd H1 D (.dK []))) (hG : ∀ i H, i ≤ n → Pv i H → Gd H)
    (hs : ∀ i x H H', i < n → Pv i H → Y i H x H' → g x (wipe σ vs) H' fun σ2 H2 => wipe σ2 vs = wipe σ vs ∧ tt σ2 H2 fun b H3 =>
      if b = true then tk σ2 H3 fun y H4 => tv σ2 H4 fun z H5 => ∃ kvs k, y = kV k ∧ H5 D = some (.dK kvs) ∧ kvs.length < sizeLine ∧ Pv (i + 1) (upd H5 D (.dK (putK kvs k z))) else Pv (i + 1) H3) (hd : ∀ H, Pv n H → Qd H) :
    ∃ W : Nat → Nat → Hp → Prop, (∃ m, W 0 m (upd H1 D (.dK []))) ∧ ∀ i m H, W i m H →
      (J.stop i H ∧ Qd H) ∨ (J.go i H ∧ ∃ Nx : Hp → Prop, (∀ H', Nx H' → ∃ m', m' < m ∧ W (i + 1) m' H') ∧ ∀ x H', J.yld i H x H' → g x (wipe σ vs) H' fun σ2 H2 => wipe σ2 vs = wipe σ vs ∧ tt σ2 H2 fun b H3 =>
        if b = true then tk σ2 H3 fun y H4 => tv σ2 H4 fun z H5 => ∃ kvs k, y = kV k ∧ H5 D = some (.dK kvs) ∧ kvs.length < sizeLine ∧ Nx (upd H5 D (.dK (putK kvs k z))) else Nx H3) := by
  refine ⟨fun i m H => m = n - i ∧ i ≤ n ∧ Pv i H, ⟨n, by simp, Nat.zero_le _, h0⟩, ?_⟩
  rintro i m H ⟨rfl, hi, p⟩
  have q := hG i H hi p
  by_cases hlt : i < n
  · refine .inr ⟨w.goes i H hlt q, Pv (i + 1), fun H' p' => ⟨n - (i + 1), by omega, rfl, hlt, p'⟩, fun x H' y => hs i x H H' hlt p (w.yields i H x H' hlt q y)⟩
  · have e : i = n := by omega
    subst e
    exact .inl ⟨w.stops H q, hd H p⟩
section
variable {z : Dx} {W : WX} {S S0 S1 S2 : SS} {G G1 G2 H H1 H2 : Hp} {σ σ1 : L2.St} {X : Cx}
theorem dc_run {vs ix : List Nat} {fi : M (List D)} {g : D → SS → Option SS} {ft : M Bool} {fk fe : M R} {Q : VK} (hix : ∀ i ∈ ix, i ∈ vs) (h : tD z W (sDc vs fi g ft fk fe) σ H Q) :
    tDc (tDI z W fi) (gD z ix g) (tDT z W0 ft) (tD z W0 fk) (tD z W0 fe) vs σ H Q := by
  obtain ⟨S, G, si, h⟩ := h
  refine ⟨S, G, si, ?_⟩
  unfold sDc at h
  cases e : fi S with
  | no => rw [e] at h; exact h
  | ex c w S1 => rw [e] at h; exact h
  | ok ds S1 =>
    rw [e] at h
    intro J H1 G1 si1 g1 wd D hD
    have h := Post.from h g1
    rw [bind_ok] at h
    by_cases hsz : ds.length ≤ 1000000
    · rw [if_pos hsz] at h
      cases el : noEx (dcL vs g ft fk fe [] ds (wipeS S1 vs)) with
      | no => rw [el] at h; exact h.elim
      | ex c w S2 => cases q : dcL vs g ft fk fe [] ds (wipeS S1 vs) <;> rw [q] at el <;> cases el
      | ok out S2 =>
        rw [el, bind_ok] at h
        have el := noEx_ok el
        obtain ⟨Gd, Y, wk, stay, yl⟩ := wd.ex
        have gn : G1 D = none := si1.le.none hD
        have sw := si1.wipe (vs := vs)
        have nO : ¬ Owns (wipeS S1 vs) (L2.wipe σ vs) D := fun o => by
          obtain ⟨_, u, hu⟩ := sw.ownFree o
          rw [hD] at hu; cases hu
        have x0 : Ext H1 (upd H1 D (.dK [])) G1 G1 := .own si1.le hD
        refine dc_it wk (g := gD z ix g) (tt := tDT z W0 ft) (tk := tD z W0 fk) (tv := tD z W0 fe) (DcInv z vs g ft fk fe ds out S1 S2 σ H1 G1 D) ⟨wipeS S1 vs, G1, [], [], sw.ext x0, x0.go, upd_same, gn, nO, .nil, Nat.zero_le _, by rw [List.drop_zero]; exact el⟩
          (fun i H' _ ⟨S', G', acc, outs, _, g', _⟩ => stay H' fun a o q1 q2 q3 => (g'.fr a o q1 fun q4 => q3 q4.wiped).eq q2) ?_ ?_
        · rintro i x Ha Hb hi ⟨S', G', acc, outs, si', g', hd', gn', no', rl, hlen, eq⟩ y
          have hdi : ds[i]? = some ds[i] := by simp [hi]
          obtain ⟨G2, ex, r⟩ := yl i _ Ha x Hb G' hdi g'.ge si'.le y
          rw [drop_get hdi] at eq
          have eq1 : (match g ds[i] S' with
            | none => Res.no
            | some S1 => (noEx (ft S1)).bind fun b S2 => if b = true then (noEx (fk S2)).bind fun rk S3 => (noEx (fe S3)).bind fun r S4 => match (look S4 rk).bind keyOf with
                | none => .no
                | some k => match valR S4 r with
                  | none => .no
                  | some (y, S5) => dcL vs g ft fk fe (putD outs k y) (ds.drop (i + 1)) (wipeS S5 vs)
              else dcL vs g ft fk fe outs (ds.drop (i + 1)) (wipeS S2 vs)) = .ok out S2 := eq
          have g2 := g'.trans (ex.go (S := S') (σ := L2.wipe σ vs))
          obtain ⟨hd2, gn2, no2⟩ := (ex.go (S := S') (σ := L2.wipe σ vs)).keepK hd' gn' no'
          cases eg : g ds[i] S' with
          | none => rw [eg] at eq1; cases eq1
          | some S4 =>
            rw [eg] at eq1
            refine ⟨S', G2, _, S4, si'.ext ex, r, eg, fun σ3 H3 G3 si3 g3 k3 => ?_⟩
            have hw := wipe_eq (ix := ix) (σ := σ) (σ2 := σ3) (k3.2.trans (wipe_length _ _)) hix k3.1
            refine ⟨hw, ?_⟩
            obtain ⟨b, S5, eb, eq3⟩ := bind_inv eq1
            have eb := noEx_ok eb
            obtain ⟨hd3, gn3, no3⟩ := g3.keepK hd2 gn2 no2
            refine ⟨S4, G3, si3, ?_⟩
            rw [eb]
            intro H5 G5 si5 g5
            obtain ⟨hd5, gn5, no5⟩ := g5.keepK hd3 gn3 no3
            cases b with
            | false =>
              rw [if_neg Bool.false_ne_true] at eq3 ⊢
              obtain ⟨s6, g6⟩ := si5.rewipe (σ := σ) hw
              obtain ⟨hd6, gn6, no6⟩ := g6.keepK hd5 gn5 no5
              exact ⟨_, G5, acc, outs, s6, ((g2.trans g3).trans g5).trans g6, hd6, gn6, no6, rl.mono (ex.ge.trans (g3.ge.trans g5.ge)), Nat.le_succ_of_le hlen, eq3⟩
            | true =>
              rw [if_pos rfl] at eq3 ⊢
              obtain ⟨rk, S6, ek, eq4⟩ := bind_inv eq3
              have ek := noEx_ok ek
              obtain ⟨rr, S7, ee, eq5⟩ := bind_inv eq4
              have ee := noEx_ok ee
              refine ⟨S5, G5, si5, ?_⟩
              rw [ek]
              intro kv H6 G6 si6 g6 dn6
              obtain ⟨G6', si6', g6', ge6, dk6⟩ := settle si6 g6 dn6
              obtain ⟨hd6, gn6, no6⟩ := g6'.keepK hd5 gn5 no5
              refine ⟨S6, G6', si6', ?_⟩
              rw [ee]
              intro yv H7 G7 si7 g7 dn7
              cases elk : look S7 rk with
              | none => rw [elk] at eq5; cases eq5
              | some kd =>
                rw [elk] at eq5
                have eq5 : (match keyOf kd with
                  | none => Res.no
                  | some k => match valR S7 rr with
                    | none => .no
                    | some (y, S5) => dcL vs g ft fk fe (putD outs k y) (ds.drop (i + 1)) (wipeS S5 vs)) = .ok out S2 := eq5
                cases ekk : keyOf kd with
                | none => rw [ekk] at eq5; cases eq5
                | some k =>
                  rw [ekk] at eq5
                  have eq5 : (match valR S7 rr with
                    | none => Res.no
                    | some (y, S5) => dcL vs g ft fk fe (putD outs k y) (ds.drop (i + 1)) (wipeS S5 vs)) = .ok out S2 := eq5
                  cases ev : valR S7 rr with
                  | none => rw [ev] at eq5; cases eq5
                  | some p =>
                    obtain ⟨yd, S8⟩ := p
                    rw [ev] at eq5
                    have vk := (dk6.mono g7.ge).view si7 elk
                    have ekv : kv = kV k := by
                      cases kd with
                      | int i => cases ekk; exact vk.int
                      | str i => cases ekk; exact vk.str
                      | _ => cases ekk
                    obtain ⟨G8, si8, g8, r8⟩ := valR_go si7 g7 dn7 ev
                    obtain ⟨hd8, gn8, no8⟩ := g8.keepK hd6 gn6 no6
                    obtain ⟨s9, g9⟩ := si8.rewipe (σ := σ) hw
                    obtain ⟨hd9, gn9, no9⟩ := g9.keepK hd8 gn8 no8
                    have rl8 := rl.mono (ex.ge.trans (g3.ge.trans (g5.ge.trans (g6'.ge.trans g8.ge))))
                    have hz : acc.length < sizeLine := Nat.lt_of_le_of_lt (Nat.le_trans (by rw [rl.len]; exact hlen) (Nat.le_trans (Nat.le_of_lt hi) hsz)) (by rw [sizeLine_eq]; decide)
                    exact ⟨acc, k, ekv, hd9, hz, _, G8, putK acc k yv, putD outs k yd, s9.touch hd9 gn9 no9, (((((g2.trans g3).trans g5).trans g6').trans g8).trans g9).touch hD, upd_same, gn9, no9, rl8.put k r8, Nat.le_trans (length_putD _ _ _) (by omega), eq5⟩
        · rintro Ha ⟨S', G', acc, outs, si', g', hd', gn', no', rl, hlen, eq⟩
          rw [List.drop_length] at eq
          have eq : (Res.ok outs S' : Res (List (Key × Dl.D))) = .ok out S2 := eq
          cases eq
          obtain ⟨su, gu⟩ := SI.unwipe si1 si' g'
          refine h (.ref D) Ha G' su gu ⟨D, rfl, hD, gn', fun ⟨i, t, d, q1, q2⟩ => ?_, acc, hd', rl.1, rl.2⟩
          rcases unwipe_get (by rw [si1.len, si'.len, wipe_length]) q1 with ⟨hi, q⟩ | ⟨hi, q⟩
          · obtain ⟨_, u, hu⟩ := si1.ownFree ⟨i, t, d, q, q2⟩
            rw [hD] at hu; cases hu
          · exact no' ⟨i, t, d, q, by rw [wipe_out hi]; exact q2⟩
    · rw [if_neg hsz] at h; exact h.elim
theorem E_dc {kx vx tg iter : Expr} {ifs : List Expr} {scope : Scope} {own : List (Str × Nat)} {pos : Pos} {fi : M (List D)} {ix : List Nat} {g : D → SS → Option SS} {ft : M Bool} {fk fe : M R} (c : Ct X z W) (hi : IT X z W tg iter fi) (ok : BlkOk X.N X.env.scope scope own)
    (hix : ∀ i ∈ ix, i ∈ own.map (·.2)) (hg : ∀ (s : Shared) (H : Hp) (C : Addr) (cl : List (Str × Addr)) (fp : List Addr), Tg (X.blk s H scope (compEnvC scope cl C X.env) fp) z tg ix g)
    (ht : ∀ (s : Shared) (H : Hp) (C : Addr) (cl : List (Str × Addr)) (fp : List Addr), Ts (X.blk s H scope (compEnvC scope cl C X.env) fp) z W0 ifs ft)
    (hk : ∀ (s : Shared) (H : Hp) (C : Addr) (cl : List (Str × Addr)) (fp : List Addr), E (X.blk s H scope (compEnvC scope cl C X.env) fp) z W0 kx fk)
    (he : ∀ (s : Shared) (H : Hp) (C : Addr) (cl : List (Str × Addr)) (fp : List Addr), E (X.blk s H scope (compEnvC scope cl C X.env) fp) z W0 vx fe) (hs : ∀ x, foldedSetIterable iter X.env x = pure x := by intro _; rfl) :
    E X z W (.DictComp kx vx [⟨tg, iter, ifs, 0⟩] scope pos) (sDc (own.map (·.2)) fi g ft fk fe) :=
  ⟨PE.le (pe_dc c.calm c.nd hi.pi ok (fun s H C cl fp => (hg s H C cl fp).pg) (fun s H C cl fp => (ht s H C cl fp).pt) (fun s H C cl fp => (hk s H C cl fp).pe) (fun s H C cl fp => (he s H C cl fp).pe) hs) fun σ H Q h => dc_run hix h, c.hk⟩
end
end L2.Dl
/-! Operators and built-ins by data. -/
namespace L2.Dl
open PySem PySem.Spec PyProof.Rows

section
variable {X : Cx} {z : Dx} {W : WX}
/-! ### arithmetic -/
def addD : D → D → Option R
  | .int i, .int j => some (.v (.int (i + j)))
  | .str a, .str b => if a.length + b.length ≤ 1000000 then some (.v (.str (a ++ b))) else none
  | .lst a, .lst b => if a.length + b.length ≤ 1000000 then some (.f (.lst (a ++ b))) else none
  | .tup a, .tup b => if a.isEmpty = false ∧ b.isEmpty = false ∧ a.length + b.length ≤ 1000000 then some (.v (.tup (a ++ b))) else none
  | _, _ => none
theorem op_addD (hk : z.K = X.K) : OpR X (binaryOp .Add) (rD2 z addD) := by
  intro pins s σ H x y v u Q I rx ry h
  obtain ⟨G, da, db, r, le, va, vb, e, q⟩ := h
  unfold addD at e
  split at e
  · cases e
    obtain rfl := va.int; obtain rfl := vb.int
    exact op_add pins s σ H _ _ v u Q I rx ry ⟨_, _, rfl, rfl, q.rep le (.int _)⟩
  · split at e
    · rename_i hz
      cases e
      obtain rfl := va.str; obtain rfl := vb.str
      exact op_add_str pins s σ H _ _ v u Q I rx ry ⟨_, _, rfl, rfl, line1 hz, q.rep le (.str _)⟩
    · cases e
  · split at e
    · rename_i hz
      cases e
      obtain ⟨a, xs, rfl, ha, r1⟩ := va.lst le
      obtain ⟨b, ys, rfl, hb, r2⟩ := vb.lst le
      exact op_cat pins s σ H _ _ v u Q I rx ry ⟨a, b, xs, ys, rfl, rfl, ha, hb, by rw [r1.length, r2.length]; exact line1 hz, fun p hp => q.new le hp ⟨_, upd_same, r1.append r2⟩⟩
    · cases e
  · split at e
    · rename_i hz
      cases e
      obtain ⟨a, xs, rfl, ha, r1⟩ := va.tup le
      obtain ⟨b, ys, rfl, hb, r2⟩ := vb.tup le
      rw [hk] at ha hb
      have nex : xs ≠ [] := fun q => by subst q; cases r1; simp at hz
      have ney : ys ≠ [] := fun q => by subst q; cases r2; simp at hz
      exact op_catT pins s σ H _ _ v u Q I rx ry ⟨a, b, xs, ys, rfl, rfl, ha, hb, nex, by rw [r1.length, r2.length]; exact line1 hz.2.2, fun q' => absurd q' ney, fun _ p hp => q.newV le hp (.tup (SqT.of upd_same) ((r1.append r2).mono (upd_le (le.none hp))))⟩
    · cases e
  · cases e
def intD (C : Int → Int → Bool) (g : Int → Int → Int) : D → D → Option R
  | .int i, .int j => if C i j = true then some (.v (.int (g i j))) else none
  | _, _ => none
theorem opIntD {f : Value → Value → Sem Value} {C : Int → Int → Bool} {P : Int → Int → Prop} {g : Int → Int → Int} (h : OpR X f (rI P fun i j => .int (g i j))) (hc : ∀ i j, C i j = true → P i j) : OpR X f (rD2 z (intD C g)) := by
  intro pins s σ H x y v u Q I rx ry hh
  obtain ⟨G, da, db, r, le, va, vb, e, q⟩ := hh
  unfold intD at e
  split at e
  · split at e
    · rename_i hz
      cases e
      obtain rfl := va.int; obtain rfl := vb.int
      exact h pins s σ H _ _ v u Q I rx ry ⟨_, _, rfl, rfl, hc _ _ hz, q.rep le (.int _)⟩
    · cases e
  · cases e
def subD : D → D → Option R := intD (fun _ _ => true) fun i j => i - j
theorem op_subD : OpR X (binaryOp .Sub) (rD2 z subD) := opIntD (P := fun _ _ => True) (fun pins s σ H x y v u Q I rx ry ⟨i, j, e1, e2, _, q⟩ => op_sub pins s σ H x y v u Q I rx ry ⟨i, j, e1, e2, q⟩) fun _ _ _ => trivial
def mulD : D → D → Option R := intD (fun i j => decide ((-(2 ^ 64) < i ∧ i < 2 ^ 64) ∨ (-(2 ^ 64) < j ∧ j < 2 ^ 64))) fun i j => i * j
theorem op_mulD : OpR X (binaryOp .Mult) (rD2 z mulD) := opIntD op_mul fun _ _ h => by have q := of_decide_eq_true h; exact q
def fdivD : D → D → Option R := intD (fun _ j => decide (0 < j ∧ j < 1073741824)) fun i j => i / j
theorem op_fdivD : OpR X (binaryOp .FloorDiv) (rD2 z fdivD) := opIntD op_fdiv fun _ _ h => by have q := of_decide_eq_true h; exact q
def modD : D → D → Option R := intD (fun _ j => decide (0 < j)) fun i j => i % j
theorem op_modD : OpR X (binaryOp .Mod) (rD2 z modD) := opIntD op_mod fun _ _ h => of_decide_eq_true h
def powD : D → D → Option R := intD (fun i j => decide (0 ≤ j ∧ j ≤ 1000000 ∧ i.natAbs < 2 ^ 64)) fun i j => i ^ j.toNat
theorem op_powD : OpR X (binaryOp .Pow) (rD2 z powD) := opIntD op_pow fun _ _ h => by have q := of_decide_eq_true h; exact q
def negD : D → Option R
  | .int i => some (.v (.int (-i)))
  | _ => none
theorem un_negD : UnR X (unaryOp .USub) (rD1 z negD) := by
  intro pins s σ H x v Q I rx h
  obtain ⟨G, da, r, le, va, e, q⟩ := h
  cases da with
  | int i =>
    cases e
    obtain rfl := va.int
    exact un_neg pins s σ H _ v Q I rx ⟨i, rfl, q.rep le (.int _)⟩
  | _ => cases e

/-! ### order -/
def ordD (g : Int → Int → Bool) (h : List Nat → List Nat → Bool) : D → D → Option Bool
  | .int i, .int j => some (g i j)
  | .str i, .str j => some (h i.cps.toList j.cps.toList)
  | _, _ => none
theorem op_ordD {f : Value → Value → Sem Value} {g : Int → Int → Bool} {h : List Nat → List Nat → Bool} (hi : OpR X f (rI0 fun i j => .bl (g i j)))
    (hs : OpR X f (fun x y H Q => ∃ i j, x = .str i ∧ y = .str j ∧ Q (.bl (h i.cps.toList j.cps.toList)) H)) : OpR X f (rD2 z (toB (ordD g h))) := by
  intro pins s σ H x y v u Q I rx ry hh
  obtain ⟨G, da, db, r, le, va, vb, e, q⟩ := hh
  unfold toB ordD at e
  split at e
  · cases e
    obtain rfl := va.int; obtain rfl := vb.int
    exact hi pins s σ H _ _ v u Q I rx ry ⟨_, _, rfl, rfl, q.rep le (.bl _)⟩
  · cases e
    obtain rfl := va.str; obtain rfl := vb.str
    exact hs pins s σ H _ _ v u Q I rx ry ⟨_, _, rfl, rfl, q.rep le (.bl _)⟩
  · cases e
def ltD : D → D → Option Bool := ordD (fun i j => decide (i < j)) fun a b => decide (a < b)
def leD : D → D → Option Bool := ordD (fun i j => decide (i ≤ j)) fun a b => !decide (b < a)
def gtD : D → D → Option Bool := ordD (fun i j => decide (j < i)) fun a b => decide (b < a)
def geD : D → D → Option Bool := ordD (fun i j => decide (j ≤ i)) fun a b => !decide (a < b)
theorem op_ltD : OpR X (compareOp .Lt) (rD2 z (toB ltD)) := op_ordD op_lt op_lt_str
theorem op_leD : OpR X (compareOp .LtE) (rD2 z (toB leD)) := op_ordD op_le op_le_str
theorem op_gtD : OpR X (compareOp .Gt) (rD2 z (toB gtD)) := op_ordD op_gt op_gt_str
theorem op_geD : OpR X (compareOp .GtE) (rD2 z (toB geD)) := op_ordD op_ge op_ge_str

/-! ### is -/
def isD (neg : Bool) : D → D → Option Bool
  | a, .non => match a with
    | .non => some (!neg)
    | .scr _ => none
    | _ => some neg
  | .bl a, .bl b => some (if neg then !(a == b) else a == b)
  | .non, .bl _ => some neg
  | _, _ => none
theorem isN_view {G H : Hp} {x : V} {d : D} (le : LeH G H) (va : View z G H x d) : (∀ l, d ≠ .scr l) → decide (x = .non) = (match d with | .non => true | _ => false) := by
  intro hs
  cases d with
  | non => obtain rfl := va.non; rfl
  | bl b => obtain rfl := va.bl; rfl
  | int i => obtain rfl := va.int; rfl
  | str i => obtain rfl := va.str; rfl
  | lst l => obtain ⟨_, _, rfl, _⟩ := va.lst le; rfl
  | tup l => obtain ⟨_, _, rfl, _⟩ := va.tup le; rfl
  | dct l => obtain ⟨_, _, rfl, _⟩ := va.dct le; rfl
  | dtt l => obtain ⟨_, _, rfl, _⟩ := va.dtt le; rfl
  | scr l => exact absurd rfl (hs l)
  | ins c l => obtain ⟨_, _, _, rfl, _⟩ := va.ins le; rfl
theorem op_isD : OpR X (compareOp .Is) (rD2 z (toB (isD false))) := by
  intro pins s σ H x y v u Q I rx ry hh
  obtain ⟨G, da, db, r, le, va, vb, e, q⟩ := hh
  cases db with
  | non =>
    obtain rfl := vb.non
    refine op_isN pins s σ H _ _ v u Q I rx ry ⟨rfl, ?_⟩
    cases da with
    | scr l => cases e
    | _ => cases e; rw [isN_view le va (fun _ z => nomatch z)]; exact q.rep le (.bl _)
  | bl b =>
    cases da with
    | bl a =>
      cases e
      obtain rfl := va.bl; obtain rfl := vb.bl
      exact op_isBl pins s σ H _ _ v u Q I rx ry ⟨a, b, rfl, rfl, q.rep le (.bl _)⟩
    | non =>
      cases e
      obtain rfl := va.non; obtain rfl := vb.bl
      cases (show v = Value.none from rx)
      cases (show u = Value.bool b from ry)
      exact wpAny_is_other rfl (fun z => nomatch z) ⟨.bl false, H, I, rfl, q.rep le (.bl _)⟩
    | _ => cases e
  | _ => cases da <;> cases e
theorem op_isnotD : OpR X (compareOp .IsNot) (rD2 z (toB (isD true))) := by
  intro pins s σ H x y v u Q I rx ry hh
  obtain ⟨G, da, db, r, le, va, vb, e, q⟩ := hh
  cases db with
  | non =>
    obtain rfl := vb.non
    refine op_notN pins s σ H _ _ v u Q I rx ry ⟨rfl, ?_⟩
    cases da with
    | scr l => cases e
    | _ => cases e; rw [isN_view le va (fun _ z => nomatch z)]; exact q.rep le (.bl _)
  | bl b =>
    cases da with
    | bl a =>
      cases e
      obtain rfl := va.bl; obtain rfl := vb.bl
      exact op_notBl pins s σ H _ _ v u Q I rx ry ⟨a, b, rfl, rfl, q.rep le (.bl _)⟩
    | non =>
      cases e
      obtain rfl := va.non; obtain rfl := vb.bl
      cases (show v = Value.none from rx)
      cases (show u = Value.bool b from ry)
      exact wpAny_isNot_other rfl (fun z => nomatch z) ⟨.bl true, H, I, rfl, q.rep le (.bl _)⟩
    | _ => cases e
  | _ => cases da <;> cases e
/-! ### subscripts -/
def ixD : D → D → Option R
  | .lst l, .int i => (atI l i).map .v
  | .tup l, .int i => (atI l i).map .v
  | .str y, .int i => if y.length ≤ 1000000 then (atI y.cps.toList i).map fun c => .v (.str ⟨#[c]⟩) else none
  | .scr l, .int i => (atI l i).map fun n => .v (.int n)
  | _, _ => none
theorem atI_rep {G : Hp} {xs : List V} {l : List D} {i : Int} {d : D} (r : RepL z G xs l) (h : atI l i = some d) : ∃ v, atI xs i = some v ∧ Rep z G v d := by
  unfold atI at h ⊢
  rw [r.length]
  cases e : ixN l.length i with
  | none => rw [e] at h; cases h
  | some j =>
    rw [e] at h
    obtain ⟨v, h1, h2⟩ := r.get (show l[j]? = some d from h)
    exact ⟨v, h1, h2⟩
theorem atI_map {α β : Type} (f : α → β) (l : List α) (i : Int) : atI (l.map f) i = (atI l i).map f := by
  unfold atI
  rw [List.length_map]
  cases ixN l.length i with
  | none => rfl
  | some j => simp
theorem ix_D (hk : z.K = X.K) : IxR X (rD2 z ixD) := by
  intro value slice pins s σ H x y v u Q I rx ry hh hs
  obtain ⟨G, da, db, r, le, va, vb, e, q⟩ := hh
  unfold ixD at e
  split at e
  · rename_i l i
    cases ea : atI l i with
    | none => rw [ea] at e; cases e
    | some d =>
      rw [ea] at e
      cases e
      obtain rfl := vb.int
      obtain ⟨a, xs, rfl, ha, r1⟩ := va.lst le
      obtain ⟨w, h1, h2⟩ := atI_rep r1 ea
      exact ix_list value slice pins s σ H _ _ v u Q I rx ry ⟨a, xs, i, w, rfl, rfl, SqL.of ha, h1, q.rep le h2⟩ hs
  · rename_i l i
    cases ea : atI l i with
    | none => rw [ea] at e; cases e
    | some d =>
      rw [ea] at e
      cases e
      obtain rfl := vb.int
      obtain ⟨a, xs, rfl, ha, r1⟩ := va.tup le
      rw [hk] at ha
      obtain ⟨w, h1, h2⟩ := atI_rep r1 ea
      exact ix_tup value slice pins s σ H _ _ v u Q I rx ry ⟨a, xs, i, w, rfl, rfl, ha, h1, q.rep le h2⟩ hs
  · rename_i l i
    split at e
    · rename_i hz
      cases ea : atI l.cps.toList i with
      | none => rw [ea] at e; cases e
      | some d =>
        rw [ea] at e
        cases e
        obtain rfl := vb.int
        obtain rfl := va.str
        exact ix_str value slice pins s σ H _ _ v u Q I rx ry ⟨l, i, d, rfl, rfl, line1 hz, ea, q.rep le (.str _)⟩ hs
    · cases e
  · rename_i l i
    cases ea : atI l i with
    | none => rw [ea] at e; cases e
    | some d =>
      rw [ea] at e
      cases e
      obtain rfl := vb.int
      obtain ⟨a, rfl, ha⟩ := va.scr le
      rw [hk] at ha
      exact ix_list value slice pins s σ H _ _ v u Q I rx ry ⟨a, _, i, .int d, rfl, rfl, ha, by rw [atI_map, ea]; rfl, q.rep le (.int _)⟩ hs
  · cases e
/-- d[k] -/
def keysOf : List D → Option (List Key)
  | [] => some []
  | d :: ds => match keyOf d, keysOf ds with
    | some k, some ks => some (k :: ks)
    | _, _ => none
def getD : D → D → Option D
  | .dct l, k => (keyOf k).bind fun k => valD l k
  | .dtt l, .tup ks => (keysOf ks).bind fun k => valD l k
  | _, _ => none
def dgetD (a b : D) : Option R := (getD a b).map .v
theorem key_view {G H : Hp} {v : V} {d : D} {k : Key} (h : keyOf d = some k) (r : View z G H v d) : v = kV k := by
  cases d with
  | int i => cases h; exact r.int
  | str i => cases h; exact r.str
  | _ => cases h
theorem keysOf_rep {G : Hp} : ∀ {xs : List V} {ds : List D} {ks : List Key}, RepL z G xs ds → keysOf ds = some ks → xs = ks.map kV
  | _, [], _, r, e => by cases r; cases e; rfl
  | _, d :: ds, ks, r, e => by
    cases r with
    | cons a b =>
      unfold keysOf at e
      split at e
      · rename_i k ks' e1 e2
        cases e
        rw [keyOf_rep e1 a, keysOf_rep b e2]
        rfl
      · cases e
/-- what a dict holds at a key, by data (a tuple as a key: tracked) -/
theorem get_view (hk : z.K = X.K) {G H : Hp} {x y : V} {da db : D} (le : LeH G H) (va : View z G H x da) (vb : View z G H y db) :
    match da, db with
    | .dct l, k => ∀ k', keyOf k = some k' → ∃ a o, x = .ref a ∧ IsD H a ∧ DGet H a y o ∧ ((o = none ∧ valD l k' = none) ∨ ∃ v d, o = some v ∧ valD l k' = some d ∧ Rep z G v d)
    | _, _ => True := by
  cases da with
  | dct l =>
    intro k' ek
    obtain ⟨a, vs, rfl, ha, kk, rl⟩ := va.dct le
    obtain rfl := key_view ek vb
    refine ⟨a, valV vs k', rfl, .inl ⟨vs, ha⟩, .inl ⟨vs, k', ha, rfl, rfl⟩, ?_⟩
    rcases RepP.val (z := z) (G := G) ⟨kk, rl⟩ k' with ⟨h1, h2⟩ | ⟨v, d, h1, h2, h3⟩
    · exact .inl ⟨h1, h2⟩
    · exact .inr ⟨v, d, h1, h2, h3⟩
  | _ => trivial
end
end L2.Dl
/-! Subscripts, membership, built-in calls by data. -/
namespace L2.Dl
open PySem PySem.Spec PyProof.Rows

section
variable {X : Cx} {z : Dx} {W : WX}
/-! ### subscripts: a sequence or a dict -/
def subscD : D → D → Option R
  | .dct l, k => match keyOf k with
    | none => none
    | some k => match valD l k with
      | none => none
      | some d => some (.v d)
  | a, k => ixD a k
theorem dget_at {G H : Hp} {x y : V} {l : List (Key × D)} {dk : D} {k : Key} (le : LeH G H) (va : View z G H x (.dct l)) (vb : View z G H y dk) (ek : keyOf dk = some k) :
    ∃ a o, x = .ref a ∧ IsD H a ∧ DGet H a y o ∧ ((o = none ∧ valD l k = none) ∨ ∃ v d, o = some v ∧ valD l k = some d ∧ Rep z G v d) := by
  obtain ⟨a, vs, rfl, ha, kk, rl⟩ := va.dct le
  obtain rfl := key_view ek vb
  refine ⟨a, valV vs k, rfl, .inl ⟨vs, ha⟩, .inl ⟨vs, k, ha, rfl, rfl⟩, ?_⟩
  rcases RepP.val (z := z) (G := G) ⟨kk, rl⟩ k with ⟨h1, h2⟩ | ⟨v, d, h1, h2, h3⟩
  · exact .inl ⟨h1, h2⟩
  · exact .inr ⟨v, d, h1, h2, h3⟩
theorem ix_dct (hu : X.A.units + 1 < cLine) : IxR X (rD2 z fun a b => match a with | .dct _ => subscD a b | _ => none) := by
  intro value slice pins s σ H x y v u Q I rx ry hh hs
  obtain ⟨G, da, db, r, le, va, vb, e, q⟩ := hh
  cases da with
  | dct l =>
    have e : (match keyOf db with
      | none => none
      | some k => match valD l k with
        | none => none
        | some d => some (R.v d)) = some r := e
    cases ek : keyOf db with
    | none => rw [ek] at e; cases e
    | some k =>
      rw [ek] at e
      cases ev : valD l k with
      | none => simp only [ev] at e; cases e
      | some d =>
        simp only [ev] at e
        cases e
        obtain ⟨a, o, rfl, isd, g, h⟩ := dget_at le va vb ek
        rcases h with ⟨_, h⟩ | ⟨v1, d1, rfl, h2, h3⟩
        · rw [ev] at h; cases h
        · rw [ev] at h2; cases h2
          obtain rfl : v = Value.ref a := rx
          exact tail_any (isD_at I isd).1 PySem.F.slot_dict_getitem.lookup (d_getItem hu I g ry fun w' s3 I3 rw' => ⟨v1, H, I3, rw', q.rep le h3⟩) hs
  | _ => cases e
theorem ix_sub (hk : z.K = X.K) (hu : X.A.units + 1 < cLine) : IxR X (rD2 z subscD) := by
  intro value slice pins s σ H x y v u Q I rx ry hh hs
  obtain ⟨G, da, db, r, le, va, vb, e, q⟩ := hh
  cases da with
  | dct l => exact ix_dct hu value slice pins s σ H x y v u Q I rx ry ⟨G, _, db, r, le, va, vb, e, q⟩ hs
  | _ => exact ix_D hk value slice pins s σ H x y v u Q I rx ry ⟨G, _, db, r, le, va, vb, e, q⟩ hs

/-! ### membership -/
def scV : D → V
  | .non => .non
  | .bl b => .bl b
  | .int i => .int i
  | .str s => .str s
  | _ => .non
/-- == of plain values -/
def eqS : D → D → Bool
  | .non, .non => true
  | .bl a, .bl b => a == b
  | .bl a, .int b => (if a then 1 else 0) == b
  | .int a, .bl b => a == (if b then 1 else 0)
  | .int a, .int b => a == b
  | .str a, .str b => a == b
  | _, _ => false
theorem sc_rep {G : Hp} {v : V} {d : D} (h : d.sc = true) (r : Rep z G v d) : v = scV d ∧ flatV v = true := by
  cases d with
  | non => cases r; exact ⟨rfl, rfl⟩
  | bl b => cases r; exact ⟨rfl, rfl⟩
  | int i => cases r; exact ⟨rfl, rfl⟩
  | str s => cases r; exact ⟨rfl, rfl⟩
  | _ => cases h
theorem sc_view {G H : Hp} {v : V} {d : D} (h : d.sc = true) (r : View z G H v d) : v = scV d ∧ flatV v = true := by
  rcases r with r | ⟨a, _, o⟩
  · exact sc_rep h r
  · cases d with
    | non => exact o.elim
    | bl b => exact o.elim
    | int i => exact o.elim
    | str s => exact o.elim
    | _ => cases h
theorem eqS_V {a b : D} (ha : a.sc = true) (hb : b.sc = true) : eqV (scV a) (scV b) = eqS a b := by
  cases a <;> cases b <;> first | rfl | exact absurd ha Bool.false_ne_true | exact absurd hb Bool.false_ne_true
theorem scs_rep {G : Hp} : ∀ {xs : List V} {l : List D}, l.all D.sc = true → RepL z G xs l → xs = l.map scV ∧ xs.all flatV = true
  | _, [], _, r => by cases r; exact ⟨rfl, rfl⟩
  | _, d :: l, h, r => by
    cases r with
    | cons a b =>
      simp only [List.all_cons, Bool.and_eq_true] at h
      obtain ⟨h1, h2⟩ := sc_rep h.1 a
      obtain ⟨h3, h4⟩ := scs_rep h.2 b
      exact ⟨by rw [List.map_cons, ← h1, ← h3], by rw [List.all_cons, h2, h4]; rfl⟩
theorem inV_sc {d : D} (hd : d.sc = true) : ∀ {l : List D}, l.all D.sc = true → inV (scV d) (l.map scV) = l.any fun y => eqS y d
  | [], _ => rfl
  | y :: l, h => by
    simp only [List.all_cons, Bool.and_eq_true] at h
    have ih := inV_sc hd (l := l) h.2
    unfold inV at ih ⊢
    rw [List.map_cons, List.any_cons, List.any_cons, ih, eqS_V h.1 hd]
def seqMem (x : D) (l : List D) : Option Bool := if x.sc = true ∧ l.all D.sc = true then some (l.any fun y => eqS y x) else none
def memD : D → D → Option Bool
  | x, .lst l => seqMem x l
  | x, .tup l => seqMem x l
  | x, .dct l => (keyOf x).map fun k => (valD l k).isSome
  | .str a, .str b => if a.length = 1 then some (decide (a.cps.getD 0 0 ∈ b.cps.toList)) else some (!(Builtin.Str.occurrences b a 0 b.length 1).isEmpty)
  | _, _ => none
def nmemD (x y : D) : Option Bool := (memD x y).map (!·)
theorem one_sign {a : Str} (h : a.length = 1) : a = ⟨#[a.cps.getD 0 0]⟩ := by
  obtain ⟨c⟩ := a
  have h : c.size = 1 := h
  congr
  apply Array.ext
  · rw [h]; rfl
  · intro i h1 h2
    have : i = 0 := by omega
    subst this
    simp [Array.getD, h]
theorem mem_run (neg : Bool) (hk : z.K = X.K) (hu : X.A.units + 1 < cLine) : OpR X (compareOp (if neg then .NotIn else .In)) (rD2 z (toB (if neg then nmemD else memD))) := by
  intro pins s σ H x y v u Q I rx ry hh
  obtain ⟨G, da, db, r, le, va, vb, e, q⟩ := hh
  have e : toB (if neg = true then nmemD else memD) da db = some r := e
  -- the answer
  have key : ∃ k, memD da db = some k ∧ r = .v (.bl (if neg then !k else k)) := by
    unfold toB at e
    cases neg with
    | true =>
      simp only [if_true] at e
      unfold nmemD at e
      cases em : memD da db with
      | none => rw [em] at e; cases e
      | some k => rw [em] at e; cases e; exact ⟨k, rfl, rfl⟩
    | false =>
      simp only [Bool.false_eq_true, if_false] at e
      cases em : memD da db with
      | none => rw [em] at e; cases e
      | some k => rw [em] at e; cases e; exact ⟨k, rfl, rfl⟩
  obtain ⟨k, em, rfl⟩ := key
  have fin : Q (.bl (if neg then !k else k)) H := q.rep le (.bl _)
  have seq : ∀ {p : Addr} {xs : List V} {l : List D}, y = .ref p → (SqL X.K H p xs ∨ SqT X.K H p xs) → RepL z G xs l → seqMem da l = some k → wpAny (model X.prog X.w) X.A (compareOp (if neg then .NotIn else .In) v u) (EP X pins σ Q) X.xe s := by
    intro p xs l ey hq rl hs
    unfold seqMem at hs
    split at hs
    · rename_i hz
      cases hs
      obtain ⟨h1, h2⟩ := sc_view hz.1 va
      obtain ⟨h3, h4⟩ := scs_rep hz.2 rl
      have ein : inV x xs = l.any fun y => eqS y da := by rw [h1, h3]; exact inV_sc hz.1 hz.2
      cases neg with
      | true => exact op_notIn_seq pins s σ H x y v u Q I rx ry ⟨p, xs, ey, hq, h2, h4, by rw [if_pos rfl, ein]; exact fin⟩
      | false => exact op_in_seq pins s σ H x y v u Q I rx ry ⟨p, xs, ey, hq, h2, h4, by rw [if_neg Bool.false_ne_true, ein]; exact fin⟩
    · cases hs
  cases db with
  | lst l =>
    obtain ⟨p, xs, ey, hp, rl⟩ := vb.lst le
    have em : seqMem da l = some k := by cases da <;> exact em
    exact seq ey (.inl (SqL.of hp)) rl em
  | tup l =>
    obtain ⟨p, xs, ey, hp, rl⟩ := vb.tup le
    have em : seqMem da l = some k := by cases da <;> exact em
    exact seq ey (.inr (hk ▸ hp)) rl em
  | dct l =>
    have em : (keyOf da).map (fun k => (valD l k).isSome) = some k := by cases da <;> exact em
    cases ek : keyOf da with
    | none => rw [ek] at em; cases em
    | some kk =>
      rw [ek] at em
      have em : (valD l kk).isSome = k := Option.some.inj em
      obtain ⟨a, o, rfl, isd, g, h⟩ := dget_at le vb va ek
      obtain rfl : u = Value.ref a := ry
      have eo : o.isSome = k := by
        rcases h with ⟨h1, h2⟩ | ⟨v1, d1, h1, h2, _⟩
        · rw [h2] at em; rw [h1]; exact em
        · rw [h2] at em; rw [h1]; exact em
      subst eo
      cases neg with
      | true => exact d_notIn hu I g rx fun s3 I3 => ⟨.bl (!o.isSome), H, I3, rfl, fin⟩
      | false => exact d_in hu I g rx fun s3 I3 => ⟨.bl o.isSome, H, I3, rfl, fin⟩
  | str b =>
    cases da with
    | str a =>
      obtain rfl := va.str; obtain rfl := vb.str
      have em : (if a.length = 1 then some (decide (a.cps.getD 0 0 ∈ b.cps.toList)) else some (!(Builtin.Str.occurrences b a 0 b.length 1).isEmpty)) = some k := em
      by_cases h1 : a.length = 1
      · rw [if_pos h1] at em
        have em := Option.some.inj em
        cases neg with
        | true => exact op_notIn_sign pins s σ H _ _ v u Q I rx ry ⟨a.cps.getD 0 0, b, by rw [← one_sign h1], rfl, by rw [em]; exact fin⟩
        | false => exact op_in_sign pins s σ H _ _ v u Q I rx ry ⟨a.cps.getD 0 0, b, by rw [← one_sign h1], rfl, by rw [em]; exact fin⟩
      · rw [if_neg h1] at em
        have em := Option.some.inj em
        cases neg with
        | true => exact op_notIn_str pins s σ H _ _ v u Q I rx ry ⟨a, b, rfl, rfl, by rw [em]; exact fin⟩
        | false => exact op_in_str pins s σ H _ _ v u Q I rx ry ⟨a, b, rfl, rfl, by rw [em]; exact fin⟩
    | _ => cases em
  | _ => cases da <;> cases em
theorem op_memD (hk : z.K = X.K) (hu : X.A.units + 1 < cLine) : OpR X (compareOp .In) (rD2 z (toB memD)) := mem_run false hk hu
theorem op_nmemD (hk : z.K = X.K) (hu : X.A.units + 1 < cLine) : OpR X (compareOp .NotIn) (rD2 z (toB nmemD)) := mem_run true hk hu

/-! ### calls -/
def gLen : List D → Option R
  | [.lst l] => some (.v (.int l.length))
  | [.tup l] => some (.v (.int l.length))
  | [.scr l] => some (.v (.int l.length))
  | [.dct l] => some (.v (.int l.length))
  | [.str s] => if s.length ≤ 1000000 then some (.v (.int s.length)) else none
  | _ => none
theorem view1 {G H : Hp} {xs : List V} {d : D} (h : ViewL z G H xs [d]) : ∃ x, xs = [x] ∧ View z G H x d := by
  cases h with
  | cons a b => cases b; exact ⟨_, rfl, a⟩
theorem view2 {G H : Hp} {xs : List V} {d e : D} (h : ViewL z G H xs [d, e]) : ∃ x y, xs = [x, y] ∧ View z G H x d ∧ View z G H y e := by
  cases h with
  | cons a b =>
    cases b with
    | cons b c => cases c; exact ⟨_, _, rfl, a, b⟩
theorem cr_lenD (hk : z.K = X.K) : CallR X (.builtin "len") (rDL z gLen) := by
  intro pins s σ H xs us Q I rs hh
  obtain ⟨G, ds, r, le, vw, e, q⟩ := hh
  unfold gLen at e
  split at e
  · rename_i l
    cases e
    obtain ⟨x, rfl, v⟩ := view1 vw
    obtain ⟨a, ys, rfl, ha, rl⟩ := v.lst le
    exact call_len_seq pins s σ H _ us Q I rs ⟨a, ys, rfl, .inl (SqL.of ha), by rw [rl.length]; exact q.rep le (.int _)⟩
  · rename_i l
    cases e
    obtain ⟨x, rfl, v⟩ := view1 vw
    obtain ⟨a, ys, rfl, ha, rl⟩ := v.tup le
    exact call_len_seq pins s σ H _ us Q I rs ⟨a, ys, rfl, .inr (hk ▸ ha), by rw [rl.length]; exact q.rep le (.int _)⟩
  · rename_i l
    cases e
    obtain ⟨x, rfl, v⟩ := view1 vw
    obtain ⟨a, rfl, ha⟩ := v.scr le
    exact call_len_seq pins s σ H _ us Q I rs ⟨a, _, rfl, .inl (hk ▸ ha), by rw [List.length_map]; exact q.rep le (.int _)⟩
  · rename_i l
    cases e
    obtain ⟨x, rfl, v⟩ := view1 vw
    obtain ⟨a, vs, rfl, ha, kk, rl⟩ := v.dct le
    obtain ⟨u, rfl, rx⟩ := vals1 rs
    cases rx
    have hl : vs.length = l.length := by have := congrArg List.length kk; simpa using this
    exact d_len I ha fun t s' I' => ⟨.int vs.length, H, I', ⟨t, rfl⟩, by rw [hl]; exact q.rep le (.int _)⟩
  · rename_i y
    split at e
    · rename_i hz
      cases e
      obtain ⟨x, rfl, v⟩ := view1 vw
      obtain rfl := v.str
      exact call_len_str pins s σ H _ us Q I rs ⟨y, rfl, line1 hz, q.rep le (.int _)⟩
    · cases e
  · cases e
/-- list(x) -/
def gList : List D → Option R
  | [.lst l] => some (.f (.lst l))
  | [.tup l] => some (.f (.lst l))
  | [.scr l] => some (.f (.lst (l.map .int)))
  | [.dct l] => some (.f (.lst (l.map fun p => keyD p.1)))
  | _ => none
theorem keysL_rep {G : Hp} : ∀ {vs : List (Key × V)} {l : List (Key × D)}, vs.map (·.1) = l.map (·.1) → RepL z G (vs.map fun kv => kV kv.1) (l.map fun p => keyD p.1)
  | [], [], _ => .nil
  | [], _ :: _, h => by simp at h
  | _ :: _, [], h => by simp at h
  | a :: vs, b :: l, h => by
    simp only [List.map_cons, List.cons.injEq] at h
    exact .cons (by show Rep z G (kV a.1) (keyD b.1); rw [h.1]; exact rep_key _) (keysL_rep h.2)
theorem cr_listD (hk : z.K = X.K) (hc : X.calm = true) : CallR X (.type "list") (rDL z gList) := by
  intro pins s σ H xs us Q I rs hh
  obtain ⟨G, ds, r, le, vw, e, q⟩ := hh
  unfold gList at e
  split at e
  · rename_i l
    cases e
    obtain ⟨x, rfl, v⟩ := view1 vw
    obtain ⟨a, ys, rfl, ha, rl⟩ := v.lst le
    exact call_list_of pins s σ H _ us Q I rs ⟨a, ys, rfl, .inl (SqL.of ha), fun p hp => q.new le hp ⟨_, upd_same, rl⟩⟩
  · rename_i l
    cases e
    obtain ⟨x, rfl, v⟩ := view1 vw
    obtain ⟨a, ys, rfl, ha, rl⟩ := v.tup le
    exact call_list_of pins s σ H _ us Q I rs ⟨a, ys, rfl, .inr (hk ▸ ha), fun p hp => q.new le hp ⟨_, upd_same, rl⟩⟩
  · rename_i l
    cases e
    obtain ⟨x, rfl, v⟩ := view1 vw
    obtain ⟨a, rfl, ha⟩ := v.scr le
    exact call_list_of pins s σ H _ us Q I rs ⟨a, _, rfl, .inl (hk ▸ ha), fun p hp => q.new le hp ⟨_, upd_same, ints_rep l⟩⟩
  · rename_i l
    cases e
    obtain ⟨x, rfl, v⟩ := view1 vw
    obtain ⟨a, vs, rfl, ha, kk, rl⟩ := v.dct le
    exact call_listD hc pins s σ H _ us Q I rs ⟨a, vs, rfl, ha, fun p hp => q.new le hp ⟨_, upd_same, keysL_rep kk⟩⟩
  · cases e
/-- tuple(x) -/
def gTuple : List D → Option R
  | [.lst l] => some (.v (.tup l))
  | [.tup l] => some (.v (.tup l))
  | _ => none
theorem cr_tupleD (hk : z.K = X.K) : CallR X (.type "tuple") (rDL z gTuple) := by
  intro pins s σ H xs us Q I rs hh
  obtain ⟨G, ds, r, le, vw, e, q⟩ := hh
  unfold gTuple at e
  split at e
  · rename_i l
    cases e
    obtain ⟨x, rfl, v⟩ := view1 vw
    obtain ⟨a, ys, rfl, ha, rl⟩ := v.lst le
    exact call_tuple_of pins s σ H _ us Q I rs ⟨a, ys, rfl, .inl ⟨SqL.of ha, fun p hp => q.newV le hp (.tup (SqT.of upd_same) (rl.mono (upd_le (le.none hp))))⟩⟩
  · rename_i l
    cases e
    obtain ⟨x, rfl, v⟩ := view1 vw
    rcases v with r | ⟨_, _, o⟩
    · cases r with
      | tup e rl => exact call_tuple_of pins s σ H _ us Q I rs ⟨_, _, rfl, .inr ⟨hk ▸ le.sqT e, q.rep le (.tup e rl)⟩⟩
    · exact o.elim
  · cases e
/-- dict(d) -/
def gDict : List D → Option R
  | [.dct l] => some (.f (.dct l))
  | _ => none
theorem cr_dictD : CallR X (.type "dict") (rDL z gDict) := by
  intro pins s σ H xs us Q I rs hh
  obtain ⟨G, ds, r, le, vw, e, q⟩ := hh
  unfold gDict at e
  split at e
  · rename_i l
    cases e
    obtain ⟨x, rfl, v⟩ := view1 vw
    obtain ⟨a, vs, rfl, ha, kk, rl⟩ := v.dct le
    exact call_dictD pins s σ H _ us Q I rs ⟨a, vs, rfl, ha, fun p hp => q.new le hp ⟨_, upd_same, kk, rl⟩⟩
  · cases e
def gInt : List D → Option R
  | [.int i] => some (.v (.int i))
  | [.bl b] => some (.v (.int (if b then 1 else 0)))
  | _ => none
theorem cr_intD : CallR X (.type "int") (rDL z gInt) := by
  intro pins s σ H xs us Q I rs hh
  obtain ⟨G, ds, r, le, vw, e, q⟩ := hh
  unfold gInt at e
  split at e
  · cases e
    obtain ⟨x, rfl, v⟩ := view1 vw
    obtain rfl := v.int
    exact call_int1 pins s σ H _ us Q I rs (.inl ⟨_, rfl, q.rep le (.int _)⟩)
  · cases e
    obtain ⟨x, rfl, v⟩ := view1 vw
    obtain rfl := v.bl
    exact call_int1 pins s σ H _ us Q I rs (.inr ⟨_, rfl, q.rep le (.int _)⟩)
  · cases e
def gAbs : List D → Option R
  | [.int i] => some (.v (.int (if i < 0 then -i else i)))
  | _ => none
theorem cr_absD : CallR X (.builtin "abs") (rDL z gAbs) := by
  intro pins s σ H xs us Q I rs hh
  obtain ⟨G, ds, r, le, vw, e, q⟩ := hh
  unfold gAbs at e
  split at e
  · cases e
    obtain ⟨x, rfl, v⟩ := view1 vw
    obtain rfl := v.int
    exact call_abs pins s σ H _ us Q I rs ⟨_, rfl, q.rep le (.int _)⟩
  · cases e
def gStr : List D → Option R
  | [.int i] => if i.natAbs < 2 ^ 64 then some (.v (.str (toString i))) else none
  | _ => none
theorem cr_strD : CallR X (.type "str") (rDL z gStr) := by
  intro pins s σ H xs us Q I rs hh
  obtain ⟨G, ds, r, le, vw, e, q⟩ := hh
  unfold gStr at e
  split at e
  · rename_i i
    split at e
    · rename_i hz
      cases e
      obtain ⟨x, rfl, v⟩ := view1 vw
      obtain rfl := v.int
      refine call_str_int pins s σ H _ us Q I rs ⟨_, rfl, ?_, q.rep le (.str _)⟩
      by_cases h0 : i.natAbs = 0
      · rw [h0]; decide
      · exact Nat.lt_of_lt_of_le ((Nat.log2_lt h0).mpr hz) (by decide)
    · cases e
  · cases e
def gOrd : List D → Option R
  | [.str x] => if x.length = 1 then some (.v (.int (x.cps.getD 0 0 : Nat))) else none
  | _ => none
theorem cr_ordD : CallR X (.builtin "ord") (rDL z gOrd) := by
  intro pins s σ H xs us Q I rs hh
  obtain ⟨G, ds, r, le, vw, e, q⟩ := hh
  unfold gOrd at e
  split at e
  · split at e
    · rename_i hz
      cases e
      obtain ⟨x, rfl, v⟩ := view1 vw
      obtain rfl := v.str
      exact call_ord pins s σ H _ us Q I rs ⟨_, rfl, hz, q.rep le (.int _)⟩
    · cases e
  · cases e
/-- the ints of a list -/
def intsOf : List D → Option (List Int)
  | [] => some []
  | .int i :: l => match intsOf l with
    | none => none
    | some r => some (i :: r)
  | _ => none
theorem intsOf_rep {G : Hp} : ∀ {xs : List V} {l : List D} {ns : List Int}, intsOf l = some ns → RepL z G xs l → xs = ns.map V.int
  | _, [], _, e, r => by cases r; cases e; rfl
  | _, d :: l, ns, e, r => by
    cases r with
    | cons a b =>
      cases d with
      | int i =>
        unfold intsOf at e
        cases el : intsOf l with
        | none => rw [el] at e; cases e
        | some rr =>
          rw [el] at e; cases e
          cases a
          rw [intsOf_rep el b]; rfl
      | _ => cases e
theorem intsOf_eq : ∀ {l : List D} {ns : List Int}, intsOf l = some ns → l = ns.map .int
  | [], _, e => by cases e; rfl
  | d :: l, ns, e => by
    cases d with
    | int i =>
      unfold intsOf at e
      cases el : intsOf l with
      | none => rw [el] at e; cases e
      | some rr => rw [el] at e; cases e; rw [intsOf_eq el]; rfl
    | _ => cases e
theorem intsOf_map : ∀ ns : List Int, intsOf (ns.map .int) = some ns
  | [] => rfl
  | i :: ns => by show (match intsOf (ns.map .int) with | none => none | some r => some (i :: r)) = _; rw [intsOf_map ns]
def gSum : List D → Option R
  | [.lst l] => (intsOf l).map fun ns => .v (.int ns.sum)
  | _ => none
theorem cr_sumD (hc : X.calm = true) : CallR X (.builtin "sum") (rDL z gSum) := by
  intro pins s σ H xs us Q I rs hh
  obtain ⟨G, ds, r, le, vw, e, q⟩ := hh
  unfold gSum at e
  split at e
  · rename_i l
    cases el : intsOf l with
    | none => rw [el] at e; cases e
    | some ns =>
      rw [el] at e; cases e
      obtain ⟨x, rfl, v⟩ := view1 vw
      obtain ⟨a, ys, rfl, ha, rl⟩ := v.lst le
      have h1 := intsOf_rep el rl
      subst h1
      exact cr_sum hc pins s σ H _ us Q I rs ⟨a, ns, rfl, SqL.of ha, q.rep le (.int _)⟩
  · cases e
/-- max, min -/
def lmax : Int → List Int → Int
  | m, [] => m
  | m, i :: l => lmax (if i > m then i else m) l
def lmin : Int → List Int → Int
  | m, [] => m
  | m, i :: l => lmin (if i < m then i else m) l
theorem lmax_mem : ∀ (l : List Int) (m : Int), lmax m l = m ∨ lmax m l ∈ l
  | [], m => .inl rfl
  | i :: l, m => by
    unfold lmax
    rcases lmax_mem l (if i > m then i else m) with h | h
    · split at h
      · exact .inr (by rw [if_pos (by assumption)]; rw [h]; exact List.mem_cons_self)
      · exact .inl (by rw [if_neg (by assumption)]; exact h)
    · exact .inr (List.mem_cons_of_mem _ h)
theorem lmax_le : ∀ (l : List Int) (m : Int), m ≤ lmax m l ∧ ∀ y ∈ l, y ≤ lmax m l
  | [], m => ⟨Int.le_refl _, fun _ h => by simp at h⟩
  | i :: l, m => by
    unfold lmax
    obtain ⟨h1, h2⟩ := lmax_le l (if i > m then i else m)
    refine ⟨?_, fun y hy => ?_⟩
    · refine Int.le_trans ?_ h1
      split <;> omega
    · rcases List.mem_cons.mp hy with rfl | hy
      · refine Int.le_trans ?_ h1
        split <;> omega
      · exact h2 y hy
theorem lmin_mem : ∀ (l : List Int) (m : Int), lmin m l = m ∨ lmin m l ∈ l
  | [], m => .inl rfl
  | i :: l, m => by
    unfold lmin
    rcases lmin_mem l (if i < m then i else m) with h | h
    · split at h
      · exact .inr (by rw [if_pos (by assumption)]; rw [h]; exact List.mem_cons_self)
      · exact .inl (by rw [if_neg (by assumption)]; exact h)
    · exact .inr (List.mem_cons_of_mem _ h)
theorem lmin_le : ∀ (l : List Int) (m : Int), lmin m l ≤ m ∧ ∀ y ∈ l, lmin m l ≤ y
  | [], m => ⟨Int.le_refl _, fun _ h => by simp at h⟩
  | i :: l, m => by
    unfold lmin
    obtain ⟨h1, h2⟩ := lmin_le l (if i < m then i else m)
    refine ⟨?_, fun y hy => ?_⟩
    · refine Int.le_trans h1 ?_
      split <;> omega
    · rcases List.mem_cons.mp hy with rfl | hy
      · refine Int.le_trans h1 ?_
        split <;> omega
      · exact h2 y hy
def gMax : List D → Option R
  | [.int i, .int j] => some (.v (.int (if j > i then j else i)))
  | [.lst l] => match intsOf l with
    | some (i :: ns) => some (.v (.int (lmax i ns)))
    | _ => none
  | _ => none
def gMin : List D → Option R
  | [.int i, .int j] => some (.v (.int (if j < i then j else i)))
  | [.lst l] => match intsOf l with
    | some (i :: ns) => some (.v (.int (lmin i ns)))
    | _ => none
  | _ => none
theorem cr_maxD (hc : X.calm = true) : CallR X (.builtin "max") (rDL z gMax) := by
  intro pins s σ H xs us Q I rs hh
  obtain ⟨G, ds, r, le, vw, e, q⟩ := hh
  unfold gMax at e
  split at e
  · cases e
    obtain ⟨x, y, rfl, v1, v2⟩ := view2 vw
    obtain rfl := v1.int; obtain rfl := v2.int
    exact call_max2 hc pins s σ H _ us Q I rs ⟨_, _, rfl, q.rep le (.int _)⟩
  · rename_i l
    split at e
    · rename_i i ns el
      cases e
      obtain ⟨x, rfl, v⟩ := view1 vw
      obtain ⟨a, ys, rfl, ha, rl⟩ := v.lst le
      have h1 := intsOf_rep el rl
      subst h1
      refine cr_max hc pins s σ H _ us Q I rs ⟨a, i :: ns, rfl, SqL.of ha, Nat.succ_pos _, fun m hm hy => ?_⟩
      have : m = lmax i ns := by
        apply Int.le_antisymm
        · rcases List.mem_cons.mp hm with rfl | hm
          · exact (lmax_le ns m).1
          · exact (lmax_le ns i).2 m hm
        · rcases lmax_mem ns i with h | h
          · rw [h]; exact hy i List.mem_cons_self
          · exact hy _ (List.mem_cons_of_mem _ h)
      rw [this]
      exact q.rep le (.int _)
    · cases e
  · cases e
theorem cr_minD (hc : X.calm = true) : CallR X (.builtin "min") (rDL z gMin) := by
  intro pins s σ H xs us Q I rs hh
  obtain ⟨G, ds, r, le, vw, e, q⟩ := hh
  unfold gMin at e
  split at e
  · cases e
    obtain ⟨x, y, rfl, v1, v2⟩ := view2 vw
    obtain rfl := v1.int; obtain rfl := v2.int
    exact call_min2 hc pins s σ H _ us Q I rs ⟨_, _, rfl, q.rep le (.int _)⟩
  · rename_i l
    split at e
    · rename_i i ns el
      cases e
      obtain ⟨x, rfl, v⟩ := view1 vw
      obtain ⟨a, ys, rfl, ha, rl⟩ := v.lst le
      have h1 := intsOf_rep el rl
      subst h1
      refine cr_min hc pins s σ H _ us Q I rs ⟨a, i :: ns, rfl, SqL.of ha, Nat.succ_pos _, fun m hm hy => ?_⟩
      have : m = lmin i ns := by
        apply Int.le_antisymm
        · rcases lmin_mem ns i with h | h
          · rw [h]; exact hy i List.mem_cons_self
          · exact hy _ (List.mem_cons_of_mem _ h)
        · rcases List.mem_cons.mp hm with rfl | hm
          · exact (lmin_le ns m).1
          · exact (lmin_le ns i).2 m hm
      rw [this]
      exact q.rep le (.int _)
    · cases e
  · cases e
/-- the truth values of a list -/
def blsOf : List D → Option (List Bool)
  | [] => some []
  | .bl i :: l => match blsOf l with
    | none => none
    | some r => some (i :: r)
  | _ => none
theorem blsOf_rep {G : Hp} : ∀ {xs : List V} {l : List D} {ns : List Bool}, blsOf l = some ns → RepL z G xs l → xs = ns.map V.bl
  | _, [], _, e, r => by cases r; cases e; rfl
  | _, d :: l, ns, e, r => by
    cases r with
    | cons a b =>
      cases d with
      | bl i =>
        unfold blsOf at e
        cases el : blsOf l with
        | none => rw [el] at e; cases e
        | some rr =>
          rw [el] at e; cases e
          cases a
          rw [blsOf_rep el b]; rfl
      | _ => cases e
theorem blsOf_map : ∀ ns : List Bool, blsOf (ns.map .bl) = some ns
  | [] => rfl
  | i :: ns => by show (match blsOf (ns.map .bl) with | none => none | some r => some (i :: r)) = _; rw [blsOf_map ns]
def gAny : List D → Option R
  | [.lst l] => (blsOf l).map fun ns => .v (.bl (ns.any id))
  | _ => none
def gAll : List D → Option R
  | [.lst l] => (blsOf l).map fun ns => .v (.bl (ns.all id))
  | _ => none
theorem cr_anyD (hc : X.calm = true) : CallR X (.builtin "any") (rDL z gAny) := by
  intro pins s σ H xs us Q I rs hh
  obtain ⟨G, ds, r, le, vw, e, q⟩ := hh
  unfold gAny at e
  split at e
  · rename_i l
    cases el : blsOf l with
    | none => rw [el] at e; cases e
    | some ns =>
      rw [el] at e; cases e
      obtain ⟨x, rfl, v⟩ := view1 vw
      obtain ⟨a, ys, rfl, ha, rl⟩ := v.lst le
      have h1 := blsOf_rep el rl
      subst h1
      exact cr_any hc pins s σ H _ us Q I rs ⟨a, ns, rfl, SqL.of ha, q.rep le (.bl _)⟩
  · cases e
theorem cr_allD (hc : X.calm = true) : CallR X (.builtin "all") (rDL z gAll) := by
  intro pins s σ H xs us Q I rs hh
  obtain ⟨G, ds, r, le, vw, e, q⟩ := hh
  unfold gAll at e
  split at e
  · rename_i l
    cases el : blsOf l with
    | none => rw [el] at e; cases e
    | some ns =>
      rw [el] at e; cases e
      obtain ⟨x, rfl, v⟩ := view1 vw
      obtain ⟨a, ys, rfl, ha, rl⟩ := v.lst le
      have h1 := blsOf_rep el rl
      subst h1
      exact cr_all hc pins s σ H _ us Q I rs ⟨a, ns, rfl, SqL.of ha, q.rep le (.bl _)⟩
  · cases e
end
end L2.Dl
/-! Changes of own objects: methods of lists, stores, augmented stores, deletions; dict methods. -/
namespace L2.Dl
open PySem PySem.Spec PyProof.Rows

section
variable {z : Dx} {W : WX} {S S1 S2 : SS} {G G1 H H1 : Hp} {σ : L2.St} {Q : VK}
/-- an own object is changed -/
theorem SI.mut {i : Nat} {t : Option Nat} {d d' : D} {a : Addr} {o u : HO} (si : SI z S σ H G) (e : S[i]? = some (.own t d)) (ea : σ[i]? = some (some (.ref a))) (ho : H a = some o) (ow : OwnAt z G (upd H a u) a d') :
    SI z (S.set i (.own t d')) σ (upd H a u) G ∧ Go S (S.set i (.own t d')) σ σ H (upd H a u) G G := by
  obtain ⟨b, eb, ga, ow0, _⟩ := si.own i t d e
  rw [ea] at eb; cases eb
  have pl := own_pl ow0 ho
  have ar : Around' [a] H (upd H a u) G G := by
    refine ⟨.refl _, fun b v q => ?_, fun b o' q n => ?_, fun b q => ?_, fun b v q => .inl q⟩
    · have nb : b ≠ a := fun z => by subst z; rw [ga] at q; cases q
      exact (si.le b v q).imp (fun q => ⟨by rw [upd_ne nb]; exact q.1, q.2⟩) (Or.imp (fun q => by rw [upd_ne nb]; exact q) fun q => q.keep fun c o' ec np => by
        have nc : c ≠ a := fun z => by subst z; rw [ho] at ec; cases ec; exact np pl
        rw [upd_ne nc]; exact ec)
    · have nb : b ≠ a := fun z => n (by rw [z]; exact List.mem_cons_self)
      exact .inl (by rw [upd_ne nb]; exact q)
    · by_cases nb : b = a
      · subst nb; rw [upd_same] at q; cases q
      · rw [upd_ne nb] at q; exact q
  have h := around_si (io := [i]) (iod := [d']) si ar (.cons ⟨⟨t, d, e⟩, ea⟩ .nil) (by simp) (.cons ow .nil)
  have es : setIO S [i] [d'] = S.set i (.own t d') := by
    unfold setIO
    rw [e]
    rfl
  rw [es] at h
  exact h
end

/-! ### methods that change a list -/
def ownL (S : SS) (i : Nat) : Option (Option Nat × List D) := match S[i]? with
  | some (.own t (.lst l)) => some (t, l)
  | _ => none
def ownK (S : SS) (i : Nat) : Option (Option Nat × List (Key × D)) := match S[i]? with
  | some (.own t (.dct l)) => some (t, l)
  | _ => none
theorem ownL_eq {S : SS} {i : Nat} {t : Option Nat} {l : List D} (h : ownL S i = some (t, l)) : S[i]? = some (.own t (.lst l)) := by
  unfold ownL at h
  split at h
  · rename_i e; cases h; exact e
  · cases h
theorem ownK_eq {S : SS} {i : Nat} {t : Option Nat} {l : List (Key × D)} (h : ownK S i = some (t, l)) : S[i]? = some (.own t (.dct l)) := by
  unfold ownK at h
  split at h
  · rename_i e; cases h; exact e
  · cases h
/-- x.m(..): x an own list -/
def mutL (i : Nat) (g : List D → List D → Option (List D × D)) (fl : M (List R)) : M R := fun S => match ownL S i with
  | none => .no
  | some _ => (fl S).bind fun rs S1 => match valsR S1 rs with
    | none => .no
    | some (ds, S2) => match ownL S2 i with
      | none => .no
      | some (t, l) => match g l ds with
        | none => .no
        | some (l', d) => .ok (.v d) (S2.set i (.own t (.lst l')))
/-- .. by the kit's reading -/
def MutL (z : Dx) (g : List D → List D → Option (List D × D)) (r : V → List V → Hp → VK → Prop) : Prop :=
  ∀ (G H : Hp) (a : Addr) (xs : List V) (l : List D) (vs : List V) (ds : List D) (l' : List D) (d : D) (Q : VK), LeH G H → H a = some (.lst xs) → RepL z G xs l → RepL z G vs ds → g l ds = some (l', d) →
    (∀ v xs', RepL z G xs' l' → Rep z G v d → Q v (upd H a (.lst xs'))) → r (.ref a) vs H Q
section
variable {X : Cx} {z : Dx} {W : WX} {S S1 S2 : SS} {G G1 H H1 : Hp} {σ : L2.St} {Q : VK}
theorem own_list {i : Nat} {t : Option Nat} {l : List D} (si : SI z S σ H G) (h : ownL S i = some (t, l)) : ∃ a xs, σ[i]? = some (some (.ref a)) ∧ H a = some (.lst xs) ∧ RepL z G xs l ∧ S[i]? = some (.own t (.lst l)) := by
  have e := ownL_eq h
  obtain ⟨a, ea, _, ⟨xs, h1, h2⟩, _⟩ := si.own i t _ e
  exact ⟨a, xs, ea, h1, h2, e⟩
theorem own_dict {i : Nat} {t : Option Nat} {l : List (Key × D)} (si : SI z S σ H G) (h : ownK S i = some (t, l)) : ∃ a vs, σ[i]? = some (some (.ref a)) ∧ H a = some (.dK vs) ∧ RepP z G vs l ∧ S[i]? = some (.own t (.dct l)) := by
  have e := ownK_eq h
  obtain ⟨a, ea, _, ⟨xs, h1, h2, h3⟩, _⟩ := si.own i t _ e
  exact ⟨a, xs, ea, h1, ⟨h2, h3⟩, e⟩

theorem mutL_run {i : Nat} {g : List D → List D → Option (List D × D)} {r : V → List V → Hp → VK → Prop} {fl : M (List R)} (hm : MutL z g r) (si : SI z S σ H G) (h : Post z W S G H σ Q (mutL i g fl S)) :
    ∃ a xs, σ[i]? = some (some (.ref a)) ∧ H a = some (.lst xs) ∧ tDL z W fl σ H fun vs H1 => r (.ref a) vs H1 Q := by
  unfold mutL at h
  cases eo : ownL S i with
  | none => rw [eo] at h; exact h.elim
  | some q =>
    obtain ⟨t, l⟩ := q
    rw [eo] at h
    simp only at h
    obtain ⟨a, xs, ea, ha, rl, es⟩ := own_list si eo
    refine ⟨a, xs, ea, ha, (stepL si h).mono fun vs H1 ⟨rs, S1, G1, si1, _, dl, h1⟩ => ?_⟩
    cases ev : valsR S1 rs with
    | none => rw [ev] at h1; exact h1.elim
    | some q =>
      obtain ⟨ds, S2⟩ := q
      rw [ev] at h1
      simp only at h1
      obtain ⟨G2, si2, g2, rv⟩ := valsR_run dl si1 ev
      cases eo2 : ownL S2 i with
      | none => rw [eo2] at h1; exact h1.elim
      | some q =>
        obtain ⟨t2, l2⟩ := q
        rw [eo2] at h1
        simp only at h1
        obtain ⟨a2, xs2, ea2, ha2, rl2, es2⟩ := own_list si2 eo2
        rw [ea] at ea2; cases ea2
        cases eg : g l2 ds with
        | none => rw [eg] at h1; exact h1.elim
        | some q =>
          obtain ⟨l', d⟩ := q
          rw [eg] at h1
          refine hm G2 H1 a xs2 l2 vs ds l' d Q si2.le ha2 rl2 rv eg fun v xs' rl' rd => ?_
          obtain ⟨si3, g3⟩ := si2.mut (u := .lst xs') (d' := .lst l') es2 ea ha2 ⟨xs', upd_same, rl'⟩
          exact h1 v _ G2 si3 (g2.trans g3) rd
variable {x name : Str} {p apos cpos : Pos} {id : String} {r : V → List V → Hp → VK → Prop} {g : List D → List D → Option (List D × D)} {e : Expr} {es : List Expr} {fl : M (List R)}
theorem E_mutL (hk : z.K = X.K) (i : Nat) (slot : Slot "list" name id) (hty : typeOf (.builtin id) = pure (.type "method_descriptor")) (hm : MtR X id r) (hr : MutL z g r) (hl : L X z W (e :: es) fl) (hN : X.N[i]? = some x := by rfl)
    (hv : Vis X.env.scope x := by first | exact Or.inl rfl | exact Or.inr (Or.inl rfl) | exact Or.inr (Or.inr rfl)) (hd : (x == ("__debug__" : Str)) = false := by decide) (hcd : (x == ("__classdict__" : Str)) = false := by decide)
    (hbase : attributeBase (.Name x p) name X.env (eval (.Name x p) X.env) = eval (.Name x p) X.env := by rfl)
    (hfew : ((backTo cpos (starEach (e :: es) X.env)).all (fun x => !x.1) && (backToKw cpos (keywordEach [] X.env)).all (fun x => x.1.isSome)
      && decide ((e :: es).length + ([] : List Keyword).length + (if ([] : List Keyword).isEmpty then 0 else 1) < 30)) = true := by rfl)
    (hline : (apos.endLine == cpos.line) = true := by rfl) (hs : starEach (e :: es) X.env = (false, eval e X.env) :: starEach es X.env := by rfl) (hplain : (backTo cpos (starEach es X.env)).any (·.1) = false := by rfl) :
    E X z W (.Call (.Attribute (.Name x p) name apos) (e :: es) [] cpos) (mutL i g fl) := by
  refine ⟨PE.le (pe_bm F.plainAttrs_list slot hty hm (pe_var hN hv hd hcd) hl.pa hbase hfew hline hs hplain) fun σ H Q ⟨S, G, si, h⟩ => ?_, hk⟩
  obtain ⟨a, xs, ea, ha, q⟩ := mutL_run hr si h
  exact ⟨.ref a, ea, .inl ⟨rfl, xs, SqL.of ha⟩, q⟩
theorem E_mutL0 (hk : z.K = X.K) (i : Nat) (slot : Slot "list" name id) (hty : typeOf (.builtin id) = pure (.type "method_descriptor")) (hm : MtR X id r) (hr : MutL z g r) (hN : X.N[i]? = some x := by rfl)
    (hv : Vis X.env.scope x := by first | exact Or.inl rfl | exact Or.inr (Or.inl rfl) | exact Or.inr (Or.inr rfl)) (hd : (x == ("__debug__" : Str)) = false := by decide) (hcd : (x == ("__classdict__" : Str)) = false := by decide)
    (hbase : attributeBase (.Name x p) name X.env (eval (.Name x p) X.env) = eval (.Name x p) X.env := by rfl) (hline : (apos.endLine == cpos.line) = true := by rfl) :
    E X z W (.Call (.Attribute (.Name x p) name apos) [] [] cpos) (mutL i g sNil) := by
  refine ⟨PE.le (pe_bm0 F.plainAttrs_list slot hty hm (pe_var hN hv hd hcd) hbase hline) fun σ H Q ⟨S, G, si, h⟩ => ?_, hk⟩
  obtain ⟨a, xs, ea, ha, S', G', si', q⟩ := mutL_run hr si h
  exact ⟨.ref a, ea, .inl ⟨rfl, xs, SqL.of ha⟩, q [] H G' si' .refl .nil⟩
def gApp (l ds : List D) : Option (List D × D) := match ds with
  | [d] => if l.length < 1000000 then some (l ++ [d], .non) else none
  | _ => none
theorem m_app : MutL z gApp rAppend := by
  intro G H a xs l vs ds l' d Q le ha rl rv e k
  unfold gApp at e
  split at e
  · rename_i d0
    split at e
    · rename_i hz
      cases e
      cases rv with
      | cons r0 rn =>
        cases rn
        exact ⟨a, xs, _, rfl, rfl, ha, by rw [rl.length]; rw [sizeLine_eq]; omega, k _ _ (rl.append (.cons r0 .nil)) .non⟩
    · cases e
  · cases e
def gPop (l ds : List D) : Option (List D × D) := match ds with
  | [] => match l[l.length - 1]? with
    | some d => some (l.dropLast, d)
    | none => none
  | _ => none
theorem RepL.dropLast {xs : List V} {l : List D} (r : RepL z G xs l) : RepL z G xs.dropLast l.dropLast := by
  rw [List.dropLast_eq_take, List.dropLast_eq_take, r.length]
  exact RepL.of_get (by simp [r.length]) fun i v d h1 h2 => by
    rw [List.getElem?_take] at h1 h2
    split at h1
    · rename_i hi
      rw [if_pos hi] at h2
      obtain ⟨d', e', q⟩ := r.got h1
      rw [h2] at e'; cases e'; exact q
    · cases h1
theorem RepL.erase {xs : List V} {l : List D} (r : RepL z G xs l) (k : Nat) : RepL z G (xs.eraseIdx k) (l.eraseIdx k) := by
  induction l generalizing xs k with
  | nil => cases r; exact .nil
  | cons d l ih =>
    cases r with
    | cons a b =>
      cases k with
      | zero => exact b
      | succ k => exact .cons a (ih b k)
theorem RepL.rev {xs : List V} {l : List D} (r : RepL z G xs l) : RepL z G xs.reverse l.reverse := by
  induction l generalizing xs with
  | nil => cases r; exact .nil
  | cons d l ih =>
    cases r with
    | cons a b => rw [List.reverse_cons, List.reverse_cons]; exact (ih b).append (.cons a .nil)
theorem RepL.take {xs : List V} {l : List D} (r : RepL z G xs l) (k : Nat) : RepL z G (xs.take k) (l.take k) := by
  induction l generalizing xs k with
  | nil => cases r; rw [List.take_nil, List.take_nil]; exact .nil
  | cons d l ih =>
    cases r with
    | cons a b =>
      cases k with
      | zero => exact .nil
      | succ k => exact .cons a (ih b k)
theorem RepL.drop {xs : List V} {l : List D} (r : RepL z G xs l) (k : Nat) : RepL z G (xs.drop k) (l.drop k) := by
  induction l generalizing xs k with
  | nil => cases r; rw [List.drop_nil, List.drop_nil]; exact .nil
  | cons d l ih =>
    cases r with
    | cons a b =>
      cases k with
      | zero => exact .cons a b
      | succ k => exact ih b k
theorem m_pop : MutL z gPop rPop := by
  intro G H a xs l vs ds l' d Q le ha rl rv e k
  unfold gPop at e
  split at e
  · split at e
    · rename_i d0 ed
      cases e
      cases rv
      obtain ⟨v, ev, r0⟩ := rl.get ed
      exact ⟨a, xs, v, rfl, rfl, ha, by rw [rl.length]; exact ev, k _ _ rl.dropLast r0⟩
    · cases e
  · cases e
def gPopAt (l ds : List D) : Option (List D × D) := match ds with
  | [.int i] => if -(2 ^ 63) ≤ i ∧ i < 2 ^ 63 then match seqIndex? i l.length with
    | some k => match l[k]? with
      | some d => some (l.eraseIdx k, d)
      | none => none
    | none => none else none
  | _ => none
theorem m_popAt : MutL z gPopAt rPopAt := by
  intro G H a xs l vs ds l' d Q le ha rl rv e k
  unfold gPopAt at e
  split at e
  · rename_i i
    split at e
    · rename_i hi
      split at e
      · rename_i j ej
        split at e
        · rename_i d0 ed
          cases e
          cases rv with
          | cons r0 rn =>
            cases rn
            cases r0
            obtain ⟨v, ev, r0⟩ := rl.get ed
            exact ⟨a, xs, i, j, v, rfl, rfl, ha, hi.1, hi.2, by rw [rl.length]; exact ej, ev, k _ _ (rl.erase j) r0⟩
        · cases e
      · cases e
    · cases e
  · cases e
def gRev (l ds : List D) : Option (List D × D) := match ds with
  | [] => some (l.reverse, .non)
  | _ => none
theorem m_rev : MutL z gRev rReverse := by
  intro G H a xs l vs ds l' d Q le ha rl rv e k
  unfold gRev at e
  split at e
  · cases e
    cases rv
    exact ⟨a, xs, rfl, rfl, ha, k _ _ rl.rev .non⟩
  · cases e
def gExt (l ds : List D) : Option (List D × D) := match ds with
  | [.lst m] => if l.length + m.length ≤ 1000000 then some (l ++ m, .non) else none
  | _ => none
theorem m_ext : MutL z gExt rExtend := by
  intro G H a xs l vs ds l' d Q le ha rl rv e k
  unfold gExt at e
  split at e
  · rename_i m
    split at e
    · rename_i hz
      cases e
      cases rv with
      | cons r0 rn =>
        cases rn
        cases r0 with
        | lst e0 r0 =>
          exact ⟨a, _, xs, _, rfl, rfl, ha, le.lst e0, by rw [rl.length, r0.length]; exact line1 hz, k _ _ (rl.append r0) .non⟩
    · cases e
  · cases e
def gIns (l ds : List D) : Option (List D × D) := match ds with
  | [.int i, d] => if l.length < 1000000 ∧ 0 ≤ i ∧ i < 1000000 then some (l.take i.toNat ++ [d] ++ l.drop i.toNat, .non) else none
  | _ => none
theorem E_append (hk : z.K = X.K) (i : Nat) (hl : L X z W [e] fl) (hN : X.N[i]? = some x := by rfl)
    (hv : Vis X.env.scope x := by first | exact Or.inl rfl | exact Or.inr (Or.inl rfl) | exact Or.inr (Or.inr rfl)) (hd : (x == ("__debug__" : Str)) = false := by decide) (hcd : (x == ("__classdict__" : Str)) = false := by decide)
    (hbase : attributeBase (.Name x p) "append" X.env (eval (.Name x p) X.env) = eval (.Name x p) X.env := by rfl)
    (hfew : ((backTo cpos (starEach [e] X.env)).all (fun x => !x.1) && (backToKw cpos (keywordEach [] X.env)).all (fun x => x.1.isSome)
      && decide ([e].length + ([] : List Keyword).length + (if ([] : List Keyword).isEmpty then 0 else 1) < 30)) = true := by rfl)
    (hline : (apos.endLine == cpos.line) = true := by rfl) (hs : starEach [e] X.env = (false, eval e X.env) :: starEach [] X.env := by rfl) (hplain : (backTo cpos (starEach [] X.env)).any (·.1) = false := by rfl) :
    E X z W (.Call (.Attribute (.Name x p) "append" apos) [e] [] cpos) (mutL i gApp fl) :=
  E_mutL hk i F.slot_list_append F.type_list_append mt_append m_app hl hN hv hd hcd hbase hfew hline hs hplain
theorem E_pop (hk : z.K = X.K) (i : Nat) (hN : X.N[i]? = some x := by rfl)
    (hv : Vis X.env.scope x := by first | exact Or.inl rfl | exact Or.inr (Or.inl rfl) | exact Or.inr (Or.inr rfl)) (hd : (x == ("__debug__" : Str)) = false := by decide) (hcd : (x == ("__classdict__" : Str)) = false := by decide)
    (hbase : attributeBase (.Name x p) "pop" X.env (eval (.Name x p) X.env) = eval (.Name x p) X.env := by rfl) (hline : (apos.endLine == cpos.line) = true := by rfl) :
    E X z W (.Call (.Attribute (.Name x p) "pop" apos) [] [] cpos) (mutL i gPop sNil) :=
  E_mutL0 hk i F.slot_list_pop F.type_list_pop mt_pop m_pop hN hv hd hcd hbase hline
theorem E_popAt (hk : z.K = X.K) (i : Nat) (hl : L X z W [e] fl) (hN : X.N[i]? = some x := by rfl)
    (hv : Vis X.env.scope x := by first | exact Or.inl rfl | exact Or.inr (Or.inl rfl) | exact Or.inr (Or.inr rfl)) (hd : (x == ("__debug__" : Str)) = false := by decide) (hcd : (x == ("__classdict__" : Str)) = false := by decide)
    (hbase : attributeBase (.Name x p) "pop" X.env (eval (.Name x p) X.env) = eval (.Name x p) X.env := by rfl)
    (hfew : ((backTo cpos (starEach [e] X.env)).all (fun x => !x.1) && (backToKw cpos (keywordEach [] X.env)).all (fun x => x.1.isSome)
      && decide ([e].length + ([] : List Keyword).length + (if ([] : List Keyword).isEmpty then 0 else 1) < 30)) = true := by rfl)
    (hline : (apos.endLine == cpos.line) = true := by rfl) (hs : starEach [e] X.env = (false, eval e X.env) :: starEach [] X.env := by rfl) (hplain : (backTo cpos (starEach [] X.env)).any (·.1) = false := by rfl) :
    E X z W (.Call (.Attribute (.Name x p) "pop" apos) [e] [] cpos) (mutL i gPopAt fl) :=
  E_mutL hk i F.slot_list_pop F.type_list_pop mt_popAt m_popAt hl hN hv hd hcd hbase hfew hline hs hplain
theorem E_extend (hk : z.K = X.K) (i : Nat) (hl : L X z W [e] fl) (hN : X.N[i]? = some x := by rfl)
    (hv : Vis X.env.scope x := by first | exact Or.inl rfl | exact Or.inr (Or.inl rfl) | exact Or.inr (Or.inr rfl)) (hd : (x == ("__debug__" : Str)) = false := by decide) (hcd : (x == ("__classdict__" : Str)) = false := by decide)
    (hbase : attributeBase (.Name x p) "extend" X.env (eval (.Name x p) X.env) = eval (.Name x p) X.env := by rfl)
    (hfew : ((backTo cpos (starEach [e] X.env)).all (fun x => !x.1) && (backToKw cpos (keywordEach [] X.env)).all (fun x => x.1.isSome)
      && decide ([e].length + ([] : List Keyword).length + (if ([] : List Keyword).isEmpty then 0 else 1) < 30)) = true := by rfl)
    (hline : (apos.endLine == cpos.line) = true := by rfl) (hs : starEach [e] X.env = (false, eval e X.env) :: starEach [] X.env := by rfl) (hplain : (backTo cpos (starEach [] X.env)).any (·.1) = false := by rfl) :
    E X z W (.Call (.Attribute (.Name x p) "extend" apos) [e] [] cpos) (mutL i gExt fl) :=
  E_mutL hk i F.slot_list_extend F.type_list_extend mt_extend m_ext hl hN hv hd hcd hbase hfew hline hs hplain
theorem E_reverse (hk : z.K = X.K) (i : Nat) (hN : X.N[i]? = some x := by rfl)
    (hv : Vis X.env.scope x := by first | exact Or.inl rfl | exact Or.inr (Or.inl rfl) | exact Or.inr (Or.inr rfl)) (hd : (x == ("__debug__" : Str)) = false := by decide) (hcd : (x == ("__classdict__" : Str)) = false := by decide)
    (hbase : attributeBase (.Name x p) "reverse" X.env (eval (.Name x p) X.env) = eval (.Name x p) X.env := by rfl) (hline : (apos.endLine == cpos.line) = true := by rfl) :
    E X z W (.Call (.Attribute (.Name x p) "reverse" apos) [] [] cpos) (mutL i gRev sNil) :=
  E_mutL0 hk i F.slot_list_reverse F.type_list_reverse mt_reverse m_rev hN hv hd hcd hbase hline

/-! ### stores: x[i] = e, d[k] = e -/
def getAt : D → D → Option D
  | .lst l, .int j => atI l j
  | .dct l, k => match keyOf k with
    | none => none
    | some k => valD l k
  | _, _ => none
def putAt : D → D → D → Option D
  | .lst l, .int j, d => match ixN l.length j with
    | none => none
    | some n => some (.lst (l.set n d))
  | .dct l, k, d => match keyOf k with
    | none => none
    | some k => if l.length < 1000000 then some (.dct (putD l k d)) else none
  | _, _, _ => none
def ownC (S : SS) (i : Nat) : Option (Option Nat × D) := match S[i]? with
  | some (.own t (.lst l)) => some (t, .lst l)
  | some (.own t (.dct l)) => some (t, .dct l)
  | _ => none
def sPut (i : Nat) (fv fk : M R) : M Fl := fun S => (fv S).bind fun rv S1 => match valR S1 rv with
  | none => .no
  | some (d, S2) => match ownC S2 i with
    | none => .no
    | some _ => (fk S2).bind fun rk S3 => match look S3 rk, ownC S3 i with
      | some k, some (t, c) => match putAt c k d with
        | none => .no
        | some c' => .ok .nx (S3.set i (.own t c'))
      | _, _ => .no
end
end L2.Dl
/-! Stores at x[k], augmented ones, deletions; names with op=; get, setdefault. -/
namespace L2.Dl
open PySem PySem.Spec PyProof.Rows

section
variable {X : Cx} {z : Dx} {W : WX} {S S1 S2 : SS} {G G1 H H1 : Hp} {σ : L2.St} {Q : VK}
/-! ### by values -/
def rSetB : V → V → V → Hp → (Hp → Prop) → Prop := fun o i v H Q => rSetL o i v H Q ∨ ∃ a H', o = .ref a ∧ DPut H a i v H' ∧ Q H'
theorem set_any (hu : X.A.units + 1 < cLine) : PSet X rSetB := by
  intro pins s σ H o i v ov iv u Q I ro ri rv h
  rcases h with h | ⟨a, H', rfl, g, q⟩
  · exact set_list pins s σ H o i v ov iv u Q I ro ri rv h
  · obtain rfl : ov = Value.ref a := ro
    exact d_setItem hu I g ri rv fun s3 I3 => ⟨H', I3, q⟩
def rGetB : V → V → Hp → VK → Prop := fun o i H Q => (∃ p xs j v, o = .ref p ∧ i = .int j ∧ H p = some (.lst xs) ∧ atI xs j = some v ∧ Q v H) ∨ ∃ a v, o = .ref a ∧ DGet H a i (some v) ∧ Q v H
theorem get_any (hu : X.A.units + 1 < cLine) : PGet X rGetB := by
  intro pins s σ H o i ov iv Q I ro ri h
  rcases h with ⟨p, xs, j, v, rfl, rfl, hp, hj, q⟩ | ⟨a, v, rfl, g, q⟩
  · obtain rfl : ov = Value.ref p := ro
    obtain ⟨t, rfl⟩ := ri
    obtain ⟨its, r, pl, hz⟩ := I.list (SqL.of (K := X.K) hp)
    obtain ⟨n, h1, h2, h3, h4, h5⟩ := atI_get hj
    obtain ⟨w, ew, rw'⟩ := r.get h2
    have hl := r.length
    have hn := line63
    have fin : EP X pins σ Q w s := ⟨v, H, I, rw', q⟩
    by_cases h0 : 0 ≤ j
    · have hj : j.toNat = n := by
        rw [seqIndex_of h0 h5] at h1
        exact Option.some.inj h1
      exact wpAny_getItem_list pl.isList h0 (by omega) (by rw [hj]; simpa using ew) fin
    · have hj : (j + (its.toArray.size : Int)).toNat = n := by
        rw [seqIndex_neg (by omega) h4] at h1
        rw [List.size_toArray, ← hl]
        exact Option.some.inj h1
      exact wpAny_getItem_list_neg pl.isList (by omega) (by rw [List.size_toArray] <;> omega) (by omega) (by rw [hj]; simpa using ew) fin
  · obtain rfl : ov = Value.ref a := ro
    exact d_getItem hu I g ri fun w' s3 I3 rw' => ⟨v, H, I3, rw', q⟩

theorem own_cont {i : Nat} {t : Option Nat} {c : D} (si : SI z S σ H G) (h : ownC S i = some (t, c)) :
    ∃ a, σ[i]? = some (some (.ref a)) ∧ OwnAt z G H a c ∧ S[i]? = some (.own t c) ∧ ((∃ l, c = .lst l) ∨ ∃ l, c = .dct l) := by
  unfold ownC at h
  split at h
  · rename_i t' l e
    cases h
    obtain ⟨a, ea, _, o, _⟩ := si.own i _ _ e
    exact ⟨a, ea, o, e, .inl ⟨l, rfl⟩⟩
  · rename_i t' l e
    cases h
    obtain ⟨a, ea, _, o, _⟩ := si.own i _ _ e
    exact ⟨a, ea, o, e, .inr ⟨l, rfl⟩⟩
  · cases h
/-- the store by data -/
theorem put_run {i : Nat} {t : Option Nat} {c c' dk d : D} {a : Addr} {y v : V} {K : Hp → Prop} (si : SI z S σ H G) (eo : ownC S i = some (t, c)) (ea : σ[i]? = some (some (.ref a))) (vy : View z G H y dk) (rv : Rep z G v d) (ep : putAt c dk d = some c')
    (k : ∀ H', SI z (S.set i (.own t c')) σ H' G → Go S (S.set i (.own t c')) σ σ H H' G G → K H') : rSetB (.ref a) y v H K := by
  obtain ⟨a', ea', ow, es, hc⟩ := own_cont si eo
  rw [ea] at ea'; cases ea'
  rcases hc with ⟨l, rfl⟩ | ⟨l, rfl⟩
  · obtain ⟨xs, h1, rl⟩ := ow
    cases dk with
    | int j =>
      have ep : (match ixN l.length j with | none => none | some n => some (.lst (l.set n d))) = some c' := ep
      cases ei : ixN l.length j with
      | none => rw [ei] at ep; cases ep
      | some n =>
        rw [ei] at ep
        cases ep
        obtain rfl := vy.int
        obtain ⟨s2, g2⟩ := si.mut (u := .lst (xs.set n v)) (d' := .lst (l.set n d)) es ea h1 ⟨_, upd_same, rl.set n rv⟩
        exact .inl ⟨a, xs, j, n, rfl, rfl, h1, by rw [rl.length]; exact ei, k _ s2 g2⟩
    | _ => cases ep
  · obtain ⟨vs, h1, kk, rl⟩ := ow
    have ep : (match keyOf dk with | none => none | some k => if l.length < 1000000 then some (.dct (putD l k d)) else none) = some c' := ep
    cases ek : keyOf dk with
    | none => rw [ek] at ep; cases ep
    | some kk' =>
      rw [ek] at ep
      simp only at ep
      split at ep
      · rename_i hz
        cases ep
        obtain rfl := key_view ek vy
        have rp : RepP z G vs l := ⟨kk, rl⟩
        have rp2 := rp.put kk' rv
        obtain ⟨s2, g2⟩ := si.mut (u := .dK (putK vs kk' v)) (d' := .dct (putD l kk' d)) es ea h1 ⟨_, upd_same, rp2.1, rp2.2⟩
        exact .inr ⟨a, _, rfl, .inl ⟨vs, kk', h1, rfl, by rw [rp.len]; rw [sizeLine_eq]; omega, rfl⟩, k _ s2 g2⟩
      · cases ep
theorem ownC_addr {i : Nat} {q : Option Nat × D} (si : SI z S σ H G) (h : ownC S i = some q) : ∃ a, σ[i]? = some (some (.ref a)) := by
  obtain ⟨t, c⟩ := q
  obtain ⟨a, ea, _⟩ := own_cont si h
  exact ⟨a, ea⟩
variable {x : Str} {o e value idx : Expr} {p pos pos' tpos : Pos} {fv fk fe : M R}
theorem S_put (c : Ct X z W) (hu : X.A.units + 1 < cLine) (i : Nat) (hv : E X z W value fv) (hi : E X z W idx fk) (hN : X.N[i]? = some x := by rfl)
    (hvis : Vis X.env.scope x := by first | exact Or.inl rfl | exact Or.inr (Or.inl rfl) | exact Or.inr (Or.inr rfl)) (hd : (x == ("__debug__" : Str)) = false := by decide) (hcd : (x == ("__classdict__" : Str)) = false := by decide)
    (ha : ∀ v, assign (.Subscript (.Name x p) idx pos') X.env v = (do
      let ov ← holding [v] (eval (.Name x p) X.env)
      let iv ← holding [v, ov] (eval idx X.env)
      standAt pos'
      holding [v, ov, iv] (setItem ov iv v)
      release [v, ov, iv] []) := by intro _; rfl)
    (hs : swapsWithSole [.Subscript (.Name x p) idx pos'] value pos.line X.env = pure false := by rfl) (hw : swappedStores [.Subscript (.Name x p) idx pos'] value X.env = pure none := by rfl)
    (h1 : (assignEach [.Subscript (.Name x p) idx pos'] X.env).map (·.2) = [assign (.Subscript (.Name x p) idx pos') X.env] := by rfl) :
    Sm X z W (.Assign [.Subscript (.Name x p) idx pos'] value pos) (sPut i fv fk) := by
  refine ⟨PS.le (ps_asg hv.pe (pg_sub (pe_var (i := i) hN hvis hd hcd) hi.pe (set_any hu) ha) hs hw h1) fun D σ H ⟨S, G, si, h⟩ => ?_⟩
  refine (stepS si h).mono fun v H1 ⟨rv, S1, G1, si1, _, dv, h1⟩ => ?_
  cases ev : valR S1 rv with
  | none => rw [ev] at h1; exact h1.elim
  | some q =>
    obtain ⟨d, S2⟩ := q
    rw [ev] at h1
    simp only at h1
    obtain ⟨G2, si2, g2, r2⟩ := valR_run si1 dv ev
    cases eo : ownC S2 i with
    | none => rw [eo] at h1; exact h1.elim
    | some q =>
      rw [eo] at h1
      simp only at h1
      obtain ⟨a, ea⟩ := ownC_addr si2 eo
      refine ⟨.ref a, ea, (stepS si2 (PostS.from h1 g2)).mono fun y H2 ⟨rk, S3, G3, si3, g3, dk, h3⟩ => ?_⟩
      cases el : look S3 rk with
      | none => rw [el] at h3; exact h3.elim
      | some k =>
        cases eo3 : ownC S3 i with
        | none => rw [el, eo3] at h3; exact h3.elim
        | some q =>
          obtain ⟨t, c⟩ := q
          rw [el, eo3] at h3
          simp only at h3
          cases ep : putAt c k d with
          | none => rw [ep] at h3; exact h3.elim
          | some c' =>
            rw [ep] at h3
            exact put_run si3 eo3 ea (dk.view si3 el) (r2.mono g3.ge) ep fun H' s4 g4 => h3 σ H' G3 s4 g4
/-- x[k] op= e -/
def sAugS (i : Nat) (fk fe : M R) (g : D → D → Option R) : M Fl := fun S => match ownC S i with
  | none => .no
  | some _ => (fk S).bind fun rk S1 => match look S1 rk, ownC S1 i with
    | some k, some (_, c) => match getAt c k with
      | none => .no
      | some d0 => (fe S1).bind fun re S2 => match look S2 re, look S2 rk, ownC S2 i with
        | some d1, some k2, some (t, c2) => match g d0 d1 with
          | some (.v d2) => match putAt c2 k2 d2 with
            | none => .no
            | some c' => .ok .nx (S2.set i (.own t c'))
          | _ => .no
        | _, _, _ => .no
    | _, _ => .no
theorem get_run {i : Nat} {t : Option Nat} {c dk d : D} {a : Addr} {y : V} (si : SI z S σ H G) (eo : ownC S i = some (t, c)) (ea : σ[i]? = some (some (.ref a))) (vy : View z G H y dk) (eg : getAt c dk = some d) :
    ∃ v, Rep z G v d ∧ ∀ K : VK, K v H → rGetB (.ref a) y H K := by
  obtain ⟨a', ea', ow, es, hc⟩ := own_cont si eo
  rw [ea] at ea'; cases ea'
  rcases hc with ⟨l, rfl⟩ | ⟨l, rfl⟩
  · obtain ⟨xs, h1, rl⟩ := ow
    cases dk with
    | int j =>
      obtain rfl := vy.int
      obtain ⟨v, e1, r1⟩ := atI_rep rl (show atI l j = some d from eg)
      exact ⟨v, r1, fun K k => .inl ⟨a, xs, j, v, rfl, rfl, h1, e1, k⟩⟩
    | _ => cases eg
  · obtain ⟨vs, h1, kk, rl⟩ := ow
    have eg : (match keyOf dk with | none => none | some k => valD l k) = some d := eg
    cases ek : keyOf dk with
    | none => rw [ek] at eg; cases eg
    | some kk' =>
      rw [ek] at eg
      have eg : valD l kk' = some d := eg
      obtain rfl := key_view ek vy
      rcases RepP.val (z := z) (G := G) ⟨kk, rl⟩ kk' with ⟨_, h2⟩ | ⟨v, d', h2, h3, h4⟩
      · rw [eg] at h2; cases h2
      · rw [eg] at h3; cases h3
        exact ⟨v, h4, fun K k => .inr ⟨a, v, rfl, .inl ⟨vs, kk', .inl h1, rfl, h2.symm⟩, k⟩⟩
theorem S_augS (c : Ct X z W) (hu : X.A.units + 1 < cLine) (i : Nat) {op : Operator} {g : D → D → Option R} (ho : OpR X (inplaceOp op) (rD2 z g)) (hi : E X z W idx fk) (he : E X z W e fe) (hN : X.N[i]? = some x := by rfl)
    (hvis : Vis X.env.scope x := by first | exact Or.inl rfl | exact Or.inr (Or.inl rfl) | exact Or.inr (Or.inr rfl)) (hd : (x == ("__debug__" : Str)) = false := by decide) (hcd : (x == ("__classdict__" : Str)) = false := by decide)
    (ha : ∀ ov iv new, augStore idx ov iv new = (do holding [new, ov, iv] (setItem ov iv new); release [new, ov, iv] []; pure .next) := by intros; rfl) :
    Sm X z W (.AugAssign (.Subscript (.Name x p) idx tpos) op e pos) (sAugS i fk fe g) := by
  refine ⟨PS.le (ps_augS (pe_var (i := i) hN hvis hd hcd) hi.pe (get_any hu) he.pe (tip := rD2 z g) ho (set_any hu) ha) fun D σ H ⟨S, G, si, h⟩ => ?_⟩
  unfold sAugS at h
  cases eo : ownC S i with
  | none => rw [eo] at h; exact h.elim
  | some q =>
    rw [eo] at h
    simp only at h
    obtain ⟨a, ea⟩ := ownC_addr si eo
    refine ⟨.ref a, ea, (stepS si h).mono fun y H1 ⟨rk, S1, G1, si1, _, dk, h1⟩ => ?_⟩
    cases el : look S1 rk with
    | none => rw [el] at h1; exact h1.elim
    | some k =>
      cases eo1 : ownC S1 i with
      | none => rw [el, eo1] at h1; exact h1.elim
      | some q =>
        obtain ⟨t1, c1⟩ := q
        rw [el, eo1] at h1
        simp only at h1
        cases eg : getAt c1 k with
        | none => rw [eg] at h1; exact h1.elim
        | some d0 =>
          rw [eg] at h1
          simp only at h1
          obtain ⟨v0, r0, kg⟩ := get_run si1 eo1 ea (dk.view si1 el) eg
          refine kg _ ((stepS si1 h1).mono fun w H2 ⟨re, S2, G2, si2, g2, de, h2⟩ => ?_)
          cases el1 : look S2 re with
          | none => rw [el1] at h2; exact h2.elim
          | some d1 =>
            cases el2 : look S2 rk with
            | none => rw [el1, el2] at h2; exact h2.elim
            | some k2 =>
              cases eo2 : ownC S2 i with
              | none => rw [el1, el2, eo2] at h2; exact h2.elim
              | some q =>
                obtain ⟨t, c2⟩ := q
                rw [el1, el2, eo2] at h2
                simp only at h2
                cases er : g d0 d1 with
                | none => rw [er] at h2; exact h2.elim
                | some r =>
                  cases r with
                  | v d2 =>
                    rw [er] at h2
                    simp only at h2
                    cases ep : putAt c2 k2 d2 with
                    | none => rw [ep] at h2; exact h2.elim
                    | some c' =>
                      rw [ep] at h2
                      refine ⟨G2, d0, d1, .v d2, si2.le, .inl (r0.mono g2.ge), de.view si2 el1, er, fun v2 H3 G3 x3 r3 => ?_⟩
                      have si3 := si2.ext x3
                      exact put_run (z := z) si3 eo2 ea ((dk.mono (g2.ge.trans x3.ge)).view si3 el2) r3 ep fun H' s4 g4 => h2 σ H' G3 s4 (x3.go.trans g4)
                  | f d => rw [er] at h2; exact h2.elim
                  | «at» j => rw [er] at h2; exact h2.elim
/-- del x[k] -/
def sDel (i : Nat) (fk : M R) : M Fl := fun S => match ownK S i with
  | none => .no
  | some _ => (fk S).bind fun rk S1 => match look S1 rk, ownK S1 i with
    | some k, some (t, l) => match keyOf k with
      | none => .no
      | some k => if (valD l k).isSome = true then .ok .nx (S1.set i (.own t (.dct (dropD l k)))) else .no
    | _, _ => .no
theorem S_del (i : Nat) (hi : E X z W idx fk) (hN : X.N[i]? = some x := by rfl)
    (hvis : Vis X.env.scope x := by first | exact Or.inl rfl | exact Or.inr (Or.inl rfl) | exact Or.inr (Or.inr rfl)) (hd : (x == ("__debug__" : Str)) = false := by decide) (hcd : (x == ("__classdict__" : Str)) = false := by decide) :
    Sm X z W (.Delete [.Subscript (.Name x p) idx tpos] pos) (sDel i fk) := by
  refine ⟨PS.le (ps_ddel (pe_var (i := i) hN hvis hd hcd) hi.pe) fun D σ H ⟨S, G, si, h⟩ => ?_⟩
  unfold sDel at h
  cases eo : ownK S i with
  | none => rw [eo] at h; exact h.elim
  | some q =>
    obtain ⟨t0, l0⟩ := q
    rw [eo] at h
    simp only at h
    obtain ⟨a, vs0, ea, _⟩ := own_dict si eo
    refine ⟨.ref a, ea, (stepS si h).mono fun y H1 ⟨rk, S1, G1, si1, _, dk, h1⟩ => ?_⟩
    cases el : look S1 rk with
    | none => rw [el] at h1; exact h1.elim
    | some k =>
      cases eo1 : ownK S1 i with
      | none => rw [el, eo1] at h1; exact h1.elim
      | some q =>
        obtain ⟨t, l⟩ := q
        rw [el, eo1] at h1
        simp only at h1
        cases ek : keyOf k with
        | none => rw [ek] at h1; exact h1.elim
        | some kk =>
          rw [ek] at h1
          simp only at h1
          split at h1
          · rename_i hs
            obtain ⟨a', vs, ea', ha, rp, es⟩ := own_dict si1 eo1
            rw [ea] at ea'; cases ea'
            obtain rfl := key_view ek (dk.view si1 el)
            have rp2 := rp.drop kk
            obtain ⟨s2, g2⟩ := si1.mut (u := .dK (dropK vs kk)) (d' := .dct (dropD l kk)) es ea ha ⟨_, upd_same, rp2.1, rp2.2⟩
            refine ⟨a, vs, kk, rfl, ha, rfl, ?_, h1 σ _ G1 s2 g2⟩
            rcases rp.val kk with ⟨_, h2⟩ | ⟨v, d, h2, h3, _⟩
            · rw [h2] at hs; cases hs
            · rw [h2]; rfl
          · exact h1.elim

/-! ### name op= e -/
def sAugN (i : Nat) (fe : M R) (g : D → D → Option R) : M Fl := fun S => match S[i]? with
  | some (.shr d0) => (fe S).bind fun re S1 => match look S1 re with
    | none => .no
    | some d1 => match g d0 d1 with
      | some (.v d) => .ok .nx (S1.set i (.shr d))
      | _ => .no
  | _ => .no
theorem S_augN (c : Ct X z W) (i : Nat) {op : Operator} {g : D → D → Option R} (ho : OpR X (inplaceOp op) (rD2 z g)) (he : E X z W e fe) (hi : X.N[i]? = some x) (hx : Loc X.env.scope x)
    (hf : X.fn x = true ∨ X.env.scope.names.lookup x = some .local := by first | exact .inl rfl | exact .inr rfl | assumption) : Sm X z W (.AugAssign (.Name x pos') op e pos) (sAugN i fe g) := by
  refine ⟨PS.le (ps_aug c.nd hi hx he.pe (ti := rD2 z g) ho hf) fun D σ H ⟨S, G, si, h⟩ => ?_⟩
  unfold sAugN at h
  split at h
  · rename_i d0 e0
    obtain ⟨v0, ev0, r0⟩ := si.shr i d0 e0
    refine ⟨v0, ev0, (stepS si h).mono fun y H1 ⟨re, S1, G1, si1, g1, de, h1⟩ => ?_⟩
    cases el : look S1 re with
    | none => rw [el] at h1; exact h1.elim
    | some d1 =>
      rw [el] at h1
      simp only at h1
      cases er : g d0 d1 with
      | none => rw [er] at h1; exact h1.elim
      | some r =>
        cases r with
        | v d =>
          rw [er] at h1
          refine ⟨G1, d0, d1, .v d, si1.le, .inl (r0.mono g1.ge), de.view si1 el, er, fun v2 H3 G3 x3 r3 => ?_⟩
          obtain ⟨s4, g4⟩ := (si1.ext x3).setV (i := i) r3
          exact h1 _ H3 G3 s4 (x3.go.trans g4)
        | f d => rw [er] at h1; exact h1.elim
        | «at» j => rw [er] at h1; exact h1.elim
  · exact h.elim
def iaddD : D → D → Option R
  | .int i, .int j => some (.v (.int (i + j)))
  | .str a, .str b => if a.length + b.length ≤ 1000000 then some (.v (.str (a ++ b))) else none
  | _, _ => none
theorem op_iaddD : OpR X (inplaceOp .Add) (rD2 z iaddD) := by
  intro pins s σ H x y v u Q I rx ry h
  obtain ⟨G, da, db, r, le, va, vb, e, q⟩ := h
  unfold iaddD at e
  split at e
  · cases e
    obtain rfl := va.int; obtain rfl := vb.int
    exact iop_add pins s σ H _ _ v u Q I rx ry ⟨_, _, rfl, rfl, q.rep le (.int _)⟩
  · split at e
    · rename_i hz
      cases e
      obtain rfl := va.str; obtain rfl := vb.str
      exact iop_add_str pins s σ H _ _ v u Q I rx ry ⟨_, _, rfl, rfl, line1 hz, q.rep le (.str _)⟩
    · cases e
  · cases e
theorem op_isubD : OpR X (inplaceOp .Sub) (rD2 z subD) := opIntD (P := fun _ _ => True) (fun pins s σ H x y v u Q I rx ry ⟨i, j, e1, e2, _, q⟩ => iop_sub pins s σ H x y v u Q I rx ry ⟨i, j, e1, e2, q⟩) fun _ _ _ => trivial

/-! ### get, setdefault -/
def isDct : D → Bool
  | .dct _ => true
  | _ => false
def lookD (S : SS) (r : R) : Option (List (Key × D)) := match look S r with
  | some (.dct l) => some l
  | _ => none
def sGet1 (fa fk : M R) : M R := fun S => (fa S).bind fun ra S1 => match lookD S1 ra with
  | none => .no
  | some _ => (fk S1).bind fun rk S2 => match lookD S2 ra, look S2 rk with
    | some l, some k => match keyOf k with
      | none => .no
      | some k => .ok (.v ((valD l k).getD .non)) S2
    | _, _ => .no
theorem lookD_eq {r : R} {l : List (Key × D)} (h : lookD S r = some l) : look S r = some (.dct l) := by
  unfold lookD at h
  split at h
  · rename_i l' e; cases h; exact e
  · cases h
theorem lookD_is {v : V} {r : R} {l : List (Key × D)} (si : SI z S σ H G) (dn : DenS z σ G v r) (h : lookD S r = some l) : ∃ a vs, v = .ref a ∧ Rd H a (.dK vs) ∧ RepP z G vs l := by
  obtain ⟨a, vs, e, h1, h2, h3⟩ := (dn.view si (lookD_eq h)).dct si.le
  exact ⟨a, vs, e, h1, h2, h3⟩
theorem E_get1 (hu : X.A.units + 1 < cLine) (ha : E X z W o fv) (hk : E X z W e fk) {apos cpos : Pos} (m : M1 X o "get" apos e cpos) : E X z W (.Call (.Attribute o "get" apos) [e] [] cpos) (sGet1 fv fk) := by
  refine ⟨PE.le (pe_dget1 hu ha.pe hk.pe m) fun σ H Q ⟨S, G, si, h⟩ => ?_, ha.k⟩
  refine (step si h).mono fun x H1 ⟨ra, S1, G1, si1, _, da, h1⟩ => ?_
  cases el : lookD S1 ra with
  | none => rw [el] at h1; exact h1.elim
  | some l0 =>
    rw [el] at h1
    simp only at h1
    obtain ⟨a, vs, rfl, hr, _⟩ := lookD_is si1 da el
    refine ⟨a, rfl, .inl ⟨vs, hr⟩, (step si1 h1).mono fun y H2 ⟨rk, S2, G2, si2, g2, dk, h2⟩ => ?_⟩
    cases el2 : lookD S2 ra with
    | none => rw [el2] at h2; exact h2.elim
    | some l =>
      cases ek : look S2 rk with
      | none => rw [el2, ek] at h2; exact h2.elim
      | some k =>
        rw [el2, ek] at h2
        simp only at h2
        cases ekk : keyOf k with
        | none => rw [ekk] at h2; exact h2.elim
        | some kk =>
          rw [ekk] at h2
          simp only at h2
          obtain ⟨a', o', e', _, g, hcase⟩ := dget_at si2.le ((da.mono g2.ge).view si2 (lookD_eq el2)) (dk.view si2 ek) ekk
          cases e'
          refine ⟨o', g, ?_⟩
          rcases hcase with ⟨h3, h4⟩ | ⟨v, d, h3, h4, h5⟩
          · rw [h3]
            rw [h4] at h2
            exact h2 .non H2 G2 si2 .refl .non
          · rw [h3]
            rw [h4] at h2
            exact h2 v H2 G2 si2 .refl h5
def sGet2 (fa fk ff : M R) : M R := fun S => (fa S).bind fun ra S1 => match lookD S1 ra with
  | none => .no
  | some _ => (fk S1).bind fun rk S2 => (ff S2).bind fun rf S3 => match valR S3 rf with
    | none => .no
    | some (df, S4) => match lookD S4 ra, look S4 rk with
      | some l, some k => match keyOf k with
        | none => .no
        | some k => .ok (.v ((valD l k).getD df)) S4
      | _, _ => .no
theorem E_get2 (hu : X.A.units + 1 < cLine) {f : Expr} {ff : M R} (ha : E X z W o fv) (hk : E X z W e fk) (hf : E X z W f ff) {apos cpos : Pos} (m : M2 X o "get" apos e f cpos) : E X z W (.Call (.Attribute o "get" apos) [e, f] [] cpos) (sGet2 fv fk ff) := by
  refine ⟨PE.le (pe_dget2 hu ha.pe hk.pe hf.pe m) fun σ H Q ⟨S, G, si, h⟩ => ?_, ha.k⟩
  refine (step si h).mono fun x H1 ⟨ra, S1, G1, si1, _, da, h1⟩ => ?_
  cases el : lookD S1 ra with
  | none => rw [el] at h1; exact h1.elim
  | some l0 =>
    rw [el] at h1
    simp only at h1
    obtain ⟨a, vs, rfl, hr, _⟩ := lookD_is si1 da el
    refine ⟨a, rfl, .inl ⟨vs, hr⟩, (step si1 h1).mono fun y H2 ⟨rk, S2, G2, si2, g2, dk, h2⟩ => ?_⟩
    refine (step si2 h2).mono fun w H3 ⟨rf, S3, G3, si3, g3, df, h3⟩ => ?_
    cases ev : valR S3 rf with
    | none => rw [ev] at h3; exact h3.elim
    | some q =>
      obtain ⟨dd, S4⟩ := q
      rw [ev] at h3
      simp only at h3
      obtain ⟨G4, si4, g4, r4⟩ := valR_run si3 df ev
      cases el2 : lookD S4 ra with
      | none => rw [el2] at h3; exact h3.elim
      | some l =>
        cases ek : look S4 rk with
        | none => rw [el2, ek] at h3; exact h3.elim
        | some k =>
          rw [el2, ek] at h3
          simp only at h3
          cases ekk : keyOf k with
          | none => rw [ekk] at h3; exact h3.elim
          | some kk =>
            rw [ekk] at h3
            simp only at h3
            obtain ⟨a', o', e', _, g, hcase⟩ := dget_at si4.le ((da.mono (g2.ge.trans (g3.ge.trans g4.ge))).view si4 (lookD_eq el2)) ((dk.mono (g3.ge.trans g4.ge)).view si4 ek) ekk
            cases e'
            refine ⟨o', g, ?_⟩
            rcases hcase with ⟨h5, h6⟩ | ⟨v, d, h5, h6, h7⟩
            · rw [h5]
              rw [h6] at h3
              exact h3 w H3 G4 si4 g4 r4
            · rw [h5]
              rw [h6] at h3
              exact h3 v H3 G4 si4 g4 h7
/-- x.setdefault(k, e), x an own dict -/
def sSetd (i : Nat) (fk ff : M R) : M R := fun S => match ownK S i with
  | none => .no
  | some _ => (fk S).bind fun rk S1 => (ff S1).bind fun rf S2 => match valR S2 rf with
    | none => .no
    | some (df, S3) => match look S3 rk, ownK S3 i with
      | some k, some (t, l) => match keyOf k with
        | none => .no
        | some k => if l.length < 1000000 then match valD l k with
            | some d => .ok (.v d) S3
            | none => .ok (.v df) (S3.set i (.own t (.dct (putD l k df))))
          else .no
      | _, _ => .no
theorem E_setd {f : Expr} {ff : M R} (i : Nat) (hk : E X z W e fk) (hf : E X z W f ff) {apos cpos : Pos} (m : M2 X (.Name x p) "setdefault" apos e f cpos) (hN : X.N[i]? = some x := by rfl)
    (hvis : Vis X.env.scope x := by first | exact Or.inl rfl | exact Or.inr (Or.inl rfl) | exact Or.inr (Or.inr rfl)) (hd : (x == ("__debug__" : Str)) = false := by decide) (hcd : (x == ("__classdict__" : Str)) = false := by decide) :
    E X z W (.Call (.Attribute (.Name x p) "setdefault" apos) [e, f] [] cpos) (sSetd i fk ff) := by
  refine ⟨PE.le (pe_dsetd (pe_var (i := i) hN hvis hd hcd) hk.pe hf.pe m) fun σ H Q ⟨S, G, si, h⟩ => ?_, hk.k⟩
  unfold sSetd at h
  cases eo : ownK S i with
  | none => rw [eo] at h; exact h.elim
  | some q =>
    obtain ⟨t0, l0⟩ := q
    rw [eo] at h
    simp only at h
    obtain ⟨a, vs0, ea, ha0, _⟩ := own_dict si eo
    refine ⟨.ref a, ea, a, rfl, .inl ⟨vs0, .inl ha0⟩, (step si h).mono fun y H1 ⟨rk, S1, G1, si1, _, dk, h1⟩ => (step si1 h1).mono fun w H2 ⟨rf, S2, G2, si2, g2, df, h2⟩ => ?_⟩
    cases ev : valR S2 rf with
    | none => rw [ev] at h2; exact h2.elim
    | some q =>
      obtain ⟨dd, S3⟩ := q
      rw [ev] at h2
      simp only at h2
      obtain ⟨G3, si3, g3, r3⟩ := valR_run si2 df ev
      cases ek : look S3 rk with
      | none => rw [ek] at h2; exact h2.elim
      | some k =>
        cases eo2 : ownK S3 i with
        | none => rw [ek, eo2] at h2; exact h2.elim
        | some q =>
          obtain ⟨t, l⟩ := q
          rw [ek, eo2] at h2
          simp only at h2
          cases ekk : keyOf k with
          | none => rw [ekk] at h2; exact h2.elim
          | some kk =>
            rw [ekk] at h2
            simp only at h2
            split at h2
            · rename_i hz
              obtain ⟨a', vs, ea', ha, rp, es⟩ := own_dict si3 eo2
              rw [ea] at ea'; cases ea'
              obtain rfl := key_view ekk ((dk.mono (g2.ge.trans g3.ge)).view si3 ek)
              refine ⟨vs, kk, ha, rfl, by rw [rp.len]; rw [sizeLine_eq]; omega, fun v hv => ?_, fun hv => ?_⟩
              · rcases rp.val kk with ⟨h3, _⟩ | ⟨v', d, h3, h4, h5⟩
                · rw [hv] at h3; cases h3
                · rw [hv] at h3; cases h3
                  rw [h4] at h2
                  exact h2 v H2 G3 si3 g3 h5
              · rcases rp.val kk with ⟨_, h4⟩ | ⟨v', d, h3, _⟩
                · rw [h4] at h2
                  have rp2 := rp.put kk r3
                  obtain ⟨s4, g4⟩ := si3.mut (u := .dK (putK vs kk w)) (d' := .dct (putD l kk dd)) es ea ha ⟨_, upd_same, rp2.1, rp2.2⟩
                  exact h2 w _ G3 s4 (g3.trans g4) r3
                · rw [hv] at h3; cases h3
            · exact h2.elim
end
end L2.Dl
/-! == and != by data. -/
namespace L2.Dl
open PySem PySem.Spec PyProof.Rows

/-! ### data without dicts, as the kit's -/
mutual
def toPy : D → Option PyData
  | .non => some .none
  | .bl b => some (.bool b)
  | .int i => some (.int i)
  | .str s => some (.str s)
  | .lst l => match toPyL l with
    | some r => some (.list r)
    | none => none
  | .tup l => match toPyL l with
    | some r => some (.tuple r)
    | none => none
  | _ => none
def toPyL : List D → Option (List PyData)
  | [] => some []
  | d :: l => match toPy d, toPyL l with
    | some p, some r => some (p :: r)
    | _, _ => none
end
section
variable {X : Cx} {z : Dx} {W : WX} {G H : Hp} {pins : List (Addr × Obj)} {σ : L2.St} {s : Shared}
mutual
theorem rep_Dp (hk : z.K = X.K) (le : LeH G H) : ∀ (d : D) (v : V) (p : PyData), Rep z G v d → toPy d = some p → Dp X.K H v p
  | .non, _, _, r, e => by cases r; cases e; exact .non
  | .bl b, _, _, r, e => by cases r; cases e; exact .bl b
  | .int i, _, _, r, e => by cases r; cases e; exact .int i
  | .str y, _, _, r, e => by cases r; cases e; exact .str y
  | .lst l, _, p, r, e => by
    cases r with
    | lst e0 rl =>
      unfold toPy at e
      cases el : toPyL l with
      | none => rw [el] at e; cases e
      | some q => rw [el] at e; cases e; exact .lst (SqL.of (le.lst e0)) (repL_Dp hk le l _ q rl el)
  | .tup l, _, p, r, e => by
    cases r with
    | tup e0 rl =>
      unfold toPy at e
      cases el : toPyL l with
      | none => rw [el] at e; cases e
      | some q => rw [el] at e; cases e; exact .tup (hk ▸ le.sqT e0) (repL_Dp hk le l _ q rl el)
  | .dct _, _, _, _, e => by cases e
  | .dtt _, _, _, _, e => by cases e
  | .scr _, _, _, _, e => by cases e
  | .ins _ _, _, _, _, e => by cases e
theorem repL_Dp (hk : z.K = X.K) (le : LeH G H) : ∀ (l : List D) (vs : List V) (q : List PyData), RepL z G vs l → toPyL l = some q → DpAll X.K H vs q
  | [], _, _, r, e => by cases r; cases e; exact .nil
  | d :: l, _, q, r, e => by
    cases r with
    | cons a b =>
      unfold toPyL at e
      cases e1 : toPy d with
      | none => rw [e1] at e; cases e
      | some p =>
        cases e2 : toPyL l with
        | none => rw [e1, e2] at e; cases e
        | some r => rw [e1, e2] at e; cases e; exact .cons (rep_Dp hk le d _ p a e1) (repL_Dp hk le l _ r b e2)
end
theorem view_Dp (hk : z.K = X.K) (le : LeH G H) {v : V} {d : D} {p : PyData} (r : View z G H v d) (e : toPy d = some p) : Dp X.K H v p := by
  rcases r with r | ⟨a, rfl, o⟩
  · exact rep_Dp hk le d v p r e
  · cases d with
    | lst l =>
      obtain ⟨xs, h1, h2⟩ := o
      unfold toPy at e
      cases el : toPyL l with
      | none => rw [el] at e; cases e
      | some q => rw [el] at e; cases e; exact .lst (SqL.of h1) (repL_Dp hk le l _ q h2 el)
    | dct l => cases e
    | dtt l => cases e
    | ins c l => cases e
    | _ => exact o.elim

/-! ### equality -/
def pyEq (a b : D) : Option Bool := match toPy a, toPy b with
  | some p, some q => if (SeqAt.shaped p && SeqAt.shaped q) = true then some (PyData.eqv p q) else none
  | _, _ => none
def hitsD (f : D → D → Option Bool) (m : List (Key × D)) : List (Key × D) → Option Bool
  | [] => some true
  | kv :: l => match valD m kv.1 with
    | none => some false
    | some u => match f kv.2 u, hitsD f m l with
      | some e, some b => some (e && b)
      | _, _ => none
def allD (f : D → D → Option Bool) : List D → List D → Option (List Bool)
  | a :: l, b :: m => match f a b, allD f l m with
    | some e, some r => some (e :: r)
    | _, _ => none
  | [], [] => some []
  | _, _ => none
/-- below: dicts of plain data; lists of these -/
def eq0 (a b : D) : Option Bool := match a, b with
  | .dct l, .dct m => if l.length = m.length then hitsD pyEq m l else some false
  | a, b => pyEq a b
def deq (a b : D) : Option Bool := match pyEq a b with
  | some r => some r
  | none => match a, b with
    | .dct l, .dct m => if l.length = m.length then hitsD eq0 m l else some false
    | .lst l, .lst m => if l.length = m.length then (allD eq0 l m).map fun r => r.all id else some false
    | _, _ => none
def dne (a b : D) : Option Bool := (deq a b).map (!·)

theorem pyEq_run (I : Inv X pins σ H s) (hk : z.K = X.K) (le : LeH G H) {A : Around} (hu : A.units + 64 < cLine) {a b : D} {r : Bool} (e : pyEq a b = some r) {x y : V} {u w : Value} (rx : View z G H x a) (ry : View z G H y b) (ru : RelV x u) (rw' : RelV y w) :
    SeqAt.EqAt A s u w r := by
  unfold pyEq at e
  split at e
  · rename_i p q e1 e2
    split at e
    · rename_i hs
      cases e
      rw [Bool.and_eq_true] at hs
      obtain ⟨as, r1⟩ := Dp.reads I p x u (view_Dp hk le rx e1) ru
      obtain ⟨bs, r2⟩ := Dp.reads I q y w (view_Dp hk le ry e2) rw'
      exact SeqAt.eqAt_reads p q A s u w as bs r1 r2 (SeqAt.canLay_of_shaped hs.1) (SeqAt.canLay_of_shaped hs.2) (SeqAt.room_of_shaped hs.1 hu)
    · cases e
  · cases e
/-- the values of a tracked dict -/
theorem dict_of (I : Inv X pins σ H s) {a : Addr} {vs : List (Key × V)} (h : Rd H a (.dK vs)) : (a == sysModules) = false ∧ ∃ va : List (Key × Value), KV vs va ∧ s.heap.DictOf (mixKind X.prog X.w) a va := by
  obtain ⟨_, hd, va, rel, dd⟩ := dk_rd I.hok h
  exact ⟨hd, va, rel, dd⟩
theorem hits_runD {A : Around} {f : D → D → Option Bool} (hf : ∀ a b r x y u w, f a b = some r → Rep z G x a → Rep z G y b → RelV x u → RelV y w → SeqAt.EqP X.prog X.w A s u w r)
    {ms : List (Key × V)} {m : List (Key × D)} {vb : List (Key × Value)} (rm : RepP z G ms m) (rb : KV ms vb) :
    ∀ {ls : List (Key × V)} {l : List (Key × D)} {va : List (Key × Value)} {r : Bool}, RepP z G ls l → KV ls va → hitsD f m l = some r → PySem.W.KeqHitsP X.prog X.w A s vb va r := by
  intro ls l va r rl ra
  unfold KV at ra
  induction ra generalizing l r with
  | nil =>
    intro e
    have : l = [] := by have := rl.len; simpa using this.symm
    subst this
    cases e
    exact .nil
  | @cons p q ps qs h t ih =>
    intro e
    cases l with
    | nil => have := rl.len; simp at this
    | cons kd l =>
      obtain ⟨k1, rl2⟩ := rl
      simp only [List.map_cons, List.cons.injEq] at k1
      cases rl2 with
      | cons a b =>
        obtain ⟨h1, h2⟩ := h
        obtain ⟨key, v⟩ := q
        have h1 : p.1 = key := h1
        have kk : kd.1 = key := by rw [← k1.1]; exact h1
        unfold hitsD at e
        have rr := rb.val kd.1
        rcases rm.val kd.1 with ⟨n1, n2⟩ | ⟨v1, d1, n1, n2, n3⟩
        · rw [n2] at e
          cases e
          rw [n1] at rr
          refine .miss ?_
          rw [← kk]
          exact RelO.none_of rr
        · rw [n2] at e
          simp only at e
          cases ef : f kd.2 d1 with
          | none => rw [ef] at e; cases e
          | some r1 =>
            cases eh : hitsD f m l with
            | none => rw [ef, eh] at e; cases e
            | some r2 =>
              rw [ef, eh] at e
              cases e
              rw [n1] at rr
              obtain ⟨w1, hw, rw1⟩ := RelO.some_of rr
              exact .hit (by rw [← kk]; exact hw) (hf _ _ _ _ _ _ _ ef a n3 h2 rw1) (ih ⟨k1.2, b⟩ eh)
theorem dict_cmp {neg : Bool} (I : Inv X pins σ H s) {A : Around} (hu : A.units < cLine) {f : D → D → Option Bool} (hf : ∀ a b r x y u w, f a b = some r → Rep z G x a → Rep z G y b → RelV x u → RelV y w → SeqAt.EqP X.prog X.w A.in1 s u w r)
    {a b : Addr} {l m : List (Key × D)} {ls ms : List (Key × V)} (ha : Rd H a (.dK ls)) (hb : Rd H b (.dK ms)) (rl : RepP z G ls l) (rm : RepP z G ms m) {r : Bool} (e : (if l.length = m.length then hitsD f m l else some false) = some r)
    (E Q : Value → Shared → Prop) (q : Q (.bool r) s) : wpAny (model X.prog X.w) A (richCompare .Eq (.ref a) (.ref b)) Q E s := by
  obtain ⟨ya, va, ra, da⟩ := dict_of I ha
  obtain ⟨yb, vb, rb, db⟩ := dict_of I hb
  have l1 : va.length = l.length := by rw [← ra.length]; exact rl.len
  have l2 : vb.length = m.length := by rw [← rb.length]; exact rm.len
  by_cases hl : l.length = m.length
  · rw [if_pos hl] at e
    refine PySem.W.rcP_dicts (knd := mixKind X.prog X.w) (r := r) ya yb da db hu (fun _ => hits_runD hf rm rb rl ra e) E Q ?_
    rw [show (va.length == vb.length && r) = r from by rw [l1, l2, hl]; simp]
    exact q
  · rw [if_neg hl] at e
    cases e
    refine PySem.W.rcP_dicts (knd := mixKind X.prog X.w) (r := false) ya yb da db hu (fun h => absurd (by rw [← l1, ← l2]; exact h) hl) E Q ?_
    rw [Bool.and_false]
    exact q
theorem pyEq_same {d d' : D} {r : Bool} {v : V} (hk : z.K = X.K) (I : Inv X pins σ H s) (le : LeH G H) (r1 : Rep z G v d) (r2 : Rep z G v d') {u : Value} (ru : RelV v u) (e : pyEq d d' = some r) : r = true := by
  unfold pyEq at e
  split at e
  · rename_i p q e1 e2
    split at e
    · rename_i hs
      cases e
      rw [Bool.and_eq_true] at hs
      obtain ⟨as, q1⟩ := Dp.reads I p v u (rep_Dp hk le _ _ _ r1 e1) ru
      obtain ⟨bs, q2⟩ := Dp.reads I q v u (rep_Dp hk le _ _ _ r2 e2) ru
      have h1 := SeqAt.readOf_eq (SeqAt.canLay_of_shaped hs.1) q1
      have h2 := SeqAt.readOf_eq (SeqAt.canLay_of_shaped hs.2) q2
      rw [← h1.symm.trans h2]
      exact SeqAt.eqv_refl p (SeqAt.canLay_of_shaped hs.1)
    · cases e
  · cases e
theorem KV.keys : ∀ {vs : List (Key × V)} {va : List (Key × Value)}, KV vs va → vs.map (·.1) = va.map (·.1)
  | _, _, .nil => rfl
  | p :: vs, q :: va, .cons h t => by
    rw [List.map_cons, List.map_cons, KV.keys t]
    have h1 : p.1 = q.1 := h.1
    rw [h1]
theorem valV_nodup : ∀ {vs : List (Key × V)}, (vs.map (·.1)).Nodup → ∀ p ∈ vs, valV vs p.1 = some p.2
  | [], _, p, h => by simp at h
  | q :: vs, nd, p, h => by
    rw [List.map_cons, List.nodup_cons] at nd
    unfold valV
    rw [List.find?_cons]
    by_cases e : q.1 = p.1
    · rw [decide_eq_true e]
      rcases List.mem_cons.mp h with rfl | h
      · rfl
      · exact absurd (by rw [e]; exact List.mem_map_of_mem h) nd.1
    · rw [decide_eq_false e]
      rcases List.mem_cons.mp h with rfl | h
      · exact absurd rfl e
      · exact valV_nodup nd.2 p h
theorem hits_same (hk : z.K = X.K) (I : Inv X pins σ H s) (le : LeH G H) {vs : List (Key × V)} {va : List (Key × Value)} {m : List (Key × D)} (rv : KV vs va) (nd : (vs.map (·.1)).Nodup) (rm : RepP z G vs m) :
    ∀ {ls : List (Key × V)} {l : List (Key × D)} {la : List (Key × Value)} {r : Bool}, (∀ p ∈ ls, p ∈ vs) → RepP z G ls l → KV ls la → hitsD pyEq m l = some r → r = true := by
  intro ls l la r sub rl ra
  unfold KV at ra
  induction ra generalizing l r with
  | nil =>
    intro e
    have : l = [] := by have := rl.len; simpa using this.symm
    subst this
    cases e
    rfl
  | @cons p q ps qs h t ih =>
    intro e
    cases l with
    | nil => have := rl.len; simp at this
    | cons kd l =>
      obtain ⟨k1, rl2⟩ := rl
      simp only [List.map_cons, List.cons.injEq] at k1
      cases rl2 with
      | cons a b =>
        have hv := valV_nodup nd p (sub p List.mem_cons_self)
        rw [k1.1] at hv
        unfold hitsD at e
        rcases rm.val kd.1 with ⟨n1, _⟩ | ⟨v1, d1, n1, n2, n3⟩
        · rw [hv] at n1; cases n1
        · rw [hv] at n1; cases n1
          rw [n2] at e
          simp only at e
          cases ef : pyEq kd.2 d1 with
          | none => rw [ef] at e; cases e
          | some r1 =>
            cases eh : hitsD pyEq m l with
            | none => rw [ef, eh] at e; cases e
            | some r2 =>
              rw [ef, eh] at e
              cases e
              rw [pyEq_same hk I le a n3 h.2 ef, ih (fun p' hp' => sub p' (List.mem_cons_of_mem _ hp')) ⟨k1.2, b⟩ eh]
              rfl
theorem pyEqP (I : Inv X pins σ H s) (hk : z.K = X.K) (le : LeH G H) {A : Around} (hu : A.units + 64 < cLine) : ∀ a b r x y u w, pyEq a b = some r → Rep z G x a → Rep z G y b → RelV x u → RelV y w → SeqAt.EqP X.prog X.w A s u w r :=
  fun _ _ _ _ _ _ _ e rx ry ru rw' => (pyEq_run I hk le hu e (.inl rx) (.inl ry) ru rw').eqP
theorem eq0P (I : Inv X pins σ H s) (hk : z.K = X.K) (le : LeH G H) {A : Around} (hu : A.units + 65 < cLine) : ∀ a b r x y u w, eq0 a b = some r → Rep z G x a → Rep z G y b → RelV x u → RelV y w → SeqAt.EqP X.prog X.w A s u w r := by
  intro a b r x y u w e rx ry ru rw'
  unfold eq0 at e
  split at e
  · rename_i l m
    cases rx with
    | dct e1 k1 r1 =>
      rename_i p ls
      cases ry with
      | dct e2 k2 r2 =>
        rename_i q ms
        obtain rfl : u = Value.ref p := ru
        obtain rfl : w = Value.ref q := rw'
        by_cases hpq : p = q
        · subst hpq
          rw [e1] at e2
          cases e2
          have hl : l.length = m.length := by rw [← RepP.len (z := z) (G := G) ⟨k1, r1⟩, ← RepP.len (z := z) (G := G) ⟨k2, r2⟩]
          rw [if_pos hl] at e
          obtain ⟨_, va, rv, dd⟩ := dict_of I (le.rd e1)
          have nd : (ls.map (·.1)).Nodup := by
            obtain ⟨_, _, _, _, _, _, _, _, nd⟩ := dd
            rw [KV.keys rv]; exact nd
          rw [hits_same hk I le rv nd ⟨k2, r2⟩ (fun _ h => h) ⟨k1, r1⟩ rv e]
          exact (SeqAt.EqAt.same _).eqP
        · exact SeqAt.eqP_refs hpq fun E Q hq => dict_cmp (neg := false) I (A := A) (by omega) (pyEqP I hk le (by show A.units + 1 + 64 < cLine; omega)) (le.rd e1) (le.rd e2) ⟨k1, r1⟩ ⟨k2, r2⟩ e E Q hq
  · exact pyEqP I hk le (by omega) _ _ _ _ _ _ _ e rx ry ru rw'

theorem allD_get {f : D → D → Option Bool} : ∀ {l m : List D} {rs : List Bool}, allD f l m = some rs → ∀ (j : Nat) a b, l[j]? = some a → m[j]? = some b → ∃ r, rs[j]? = some r ∧ f a b = some r
  | [], _, _, _, j, a, b, h, _ => by simp at h
  | _ :: _, [], _, _, j, a, b, _, h => by simp at h
  | x :: l, y :: m, rs, e, j, a, b, h1, h2 => by
    unfold allD at e
    cases e1 : f x y with
    | none => rw [e1] at e; cases e
    | some r0 =>
      cases e2 : allD f l m with
      | none => rw [e1, e2] at e; cases e
      | some r =>
        rw [e1, e2] at e
        cases e
        cases j with
        | zero => simp at h1 h2; subst h1; subst h2; exact ⟨r0, rfl, e1⟩
        | succ j => exact allD_get e2 j a b (by simpa using h1) (by simpa using h2)
theorem allD_len {f : D → D → Option Bool} : ∀ {l m : List D} {rs : List Bool}, allD f l m = some rs → rs.length = l.length
  | [], [], _, e => by cases e; rfl
  | [], _ :: _, _, e => by cases e
  | _ :: _, [], _, e => by cases e
  | x :: l, y :: m, rs, e => by
    unfold allD at e
    cases e1 : f x y with
    | none => rw [e1] at e; cases e
    | some r0 =>
      cases e2 : allD f l m with
      | none => rw [e1, e2] at e; cases e
      | some r => rw [e1, e2] at e; cases e; rw [List.length_cons, List.length_cons, allD_len e2]
theorem all_ix (rs : List Bool) : (List.range rs.length).all (fun j => rs.getD j true) = rs.all id := by
  rw [Bool.eq_iff_iff, List.all_eq_true, List.all_eq_true]
  constructor
  · intro h b hb
    obtain ⟨j, hj⟩ := List.mem_iff_getElem?.mp hb
    have hl := (List.getElem?_eq_some_iff.mp hj).1
    have q := h j (List.mem_range.mpr hl)
    rw [List.getD_eq_getElem?_getD, hj] at q
    exact q
  · intro h j hj
    have hl := List.mem_range.mp hj
    rw [List.getD_eq_getElem?_getD, List.getElem?_eq_getElem hl]
    exact h _ (List.getElem_mem hl)
/-- the items of two lists, compared -/
theorem items_eqP (I : Inv X pins σ H s) (hk : z.K = X.K) (le : LeH G H) {A : Around} (hu : A.units + 65 < cLine) {xs ys : List V} {l m : List D} {us ws : List Value} {rs : List Bool} (rx : RepL z G xs l) (ry : RepL z G ys m) (ru : Vals xs us) (rw' : Vals ys ws) (e : allD eq0 l m = some rs) :
    ∀ j (h1 : j < us.toArray.size) (h2 : j < ws.toArray.size), SeqAt.EqP X.prog X.w A s us.toArray[j] ws.toArray[j] (rs.getD j true) := by
  intro j h1 h2
  have h1' : j < us.length := by simpa using h1
  have h2' : j < ws.length := by simpa using h2
  have l1 := ru.length
  have l2 := rw'.length
  obtain ⟨a, ea, ra⟩ := rx.got (i := j) (v := xs[j]'(by omega)) (List.getElem?_eq_getElem (by omega))
  obtain ⟨b, eb, rb⟩ := ry.got (i := j) (v := ys[j]'(by omega)) (List.getElem?_eq_getElem (by omega))
  obtain ⟨r, er, ef⟩ := allD_get e j a b ea eb
  obtain ⟨u', eu, ru'⟩ := ru.get (i := j) (x := xs[j]'(by omega)) (List.getElem?_eq_getElem (by omega))
  obtain ⟨w', ew, rw''⟩ := rw'.get (i := j) (x := ys[j]'(by omega)) (List.getElem?_eq_getElem (by omega))
  rw [List.getElem?_eq_getElem h1'] at eu
  rw [List.getElem?_eq_getElem h2'] at ew
  cases eu; cases ew
  rw [List.getD_eq_getElem?_getD, er]
  simpa using eq0P I hk le hu a b r _ _ _ _ ef ra rb ru' rw''

theorem top_dct (I : Inv X pins σ H s) (hk : z.K = X.K) (le : LeH G H) (hu : X.A.units + 70 < cLine) {a b : Addr} {l m : List (Key × D)} {ls ms : List (Key × V)} (ha : Rd H a (.dK ls)) (hb : Rd H b (.dK ms)) (rl : RepP z G ls l) (rm : RepP z G ms m) {r : Bool}
    (e : (if l.length = m.length then hitsD eq0 m l else some false) = some r) (E Q : Value → Shared → Prop) (q : Q (.bool r) s) : wpAny (model X.prog X.w) X.A (richCompare .Eq (.ref a) (.ref b)) Q E s :=
  dict_cmp (neg := false) I (by omega) (eq0P I hk le (by show X.A.units + 1 + 65 < cLine; omega)) ha hb rl rm e E Q q
theorem op_deq (hk : z.K = X.K) (hu : X.A.units + 70 < cLine) : OpR X (compareOp .Eq) (rD2 z (toB deq)) := by
  intro pins s σ H x y v u Q I rx ry hh
  obtain ⟨G, da, db, r, le, va, vb, e, q⟩ := hh
  unfold toB deq at e
  split at e
  · rename_i r0 e0
    cases e
    unfold pyEq at e0
    split at e0
    · rename_i p1 p2 e1 e2
      split at e0
      · rename_i hs
        cases e0
        rw [Bool.and_eq_true] at hs
        exact op_eqD (by omega) pins s σ H x y v u Q I rx ry ⟨p1, p2, view_Dp hk le va e1, view_Dp hk le vb e2, hs.1, hs.2, q.rep le (.bl _)⟩
      · cases e0
    · cases e0
  · split at e
    · rename_i l m _
      cases eh : (if l.length = m.length then hitsD eq0 m l else some false) with
      | none => rw [eh] at e; cases e
      | some r0 =>
        rw [eh] at e
        cases e
        obtain ⟨a, ls, rfl, ha, k1, r1⟩ := va.dct le
        obtain ⟨b, ms, rfl, hb, k2, r2⟩ := vb.dct le
        obtain rfl : v = Value.ref a := rx
        obtain rfl : u = Value.ref b := ry
        exact top_dct I hk le hu ha hb ⟨k1, r1⟩ ⟨k2, r2⟩ eh _ _ ⟨.bl r0, H, I, rfl, q.rep le (.bl _)⟩
    · rename_i l m _
      obtain ⟨a, xs, rfl, ha, r1⟩ := va.lst le
      obtain ⟨b, ys, rfl, hb, r2⟩ := vb.lst le
      obtain rfl : v = Value.ref a := rx
      obtain rfl : u = Value.ref b := ry
      obtain ⟨us, ru, p1, _⟩ := I.list (SqL.of (K := X.K) ha)
      obtain ⟨ws, rw', p2, _⟩ := I.list (SqL.of (K := X.K) hb)
      have l1 : us.toArray.size = l.length := by rw [List.size_toArray, ← ru.length, r1.length]
      have l2 : ws.toArray.size = m.length := by rw [List.size_toArray, ← rw'.length, r2.length]
      by_cases hl : l.length = m.length
      · rw [if_pos hl] at e
        cases ea : allD eq0 l m with
        | none => rw [ea] at e; cases e
        | some rs =>
          rw [ea] at e
          cases e
          refine SeqAt.rcP_lists (e := fun j => rs.getD j true) p1.isList p2.isList (by rw [l1, l2, hl]) (by omega) (items_eqP I hk le (by show X.A.units + 1 + 65 < cLine; omega) r1 r2 ru rw' ea) _ _ ?_
          rw [l1, ← allD_len ea, all_ix]
          exact ⟨.bl _, H, I, rfl, q.rep le (.bl _)⟩
      · rw [if_neg hl] at e
        cases e
        exact SeqAt.RcAt.lists_lengths p1.isList p2.isList (by rw [l1, l2]; simpa using hl) (by omega) X.prog X.w _ _ ⟨.bl false, H, I, rfl, q.rep le (.bl _)⟩
    · cases e

/-! ### != -/
end
end L2.Dl
namespace PySem.SeqAt
open AutoSeq1 (wpAny_loadPart')
open MeetsSeq MeetsSeq2 MeetsSeq3 SeqRoads2
section
variable {prog : Program} {w : World}
/-- the walk of != over two lists of one length, within one model -/
theorem dl_ne_walk (p q : Addr) (us ws : Array Value) (n m : Nat) (du dw : Option Addr) (su sw : Array (Option Value)) (hz : us.size = ws.size) (e : Nat → Bool) : ∀ (left i : Nat), us.size - i = left →
    MeetsIn prog w (Builtin.«list.__eq__.loop» ⟨[.ref p, .ref q, rawInt i, rawInt 3], []⟩) (fun A R s =>
      s.heap.get? p = some { cls := .type "list", dict := du, data := .seq us n, slots := su } ∧ s.heap.get? q = some { cls := .type "list", dict := dw, data := .seq ws m, slots := sw } ∧
      (∀ j (h1 : j < us.size) (h2 : j < ws.size), EqP prog w A.in1 s us[j] ws[j] (e j)) ∧ R (.ok (.ret (.bool (!((List.range us.size).drop i).all e)))) s) := by
  intro left
  induction left with
  | zero =>
    intro i hi A R s h
    obtain ⟨hp, g, d, tk, os⟩ := s
    obtain ⟨h1, h2, _, h3⟩ := h
    wp_walk using wpAny_loadPart' h1, wpAny_loadPart' h2
    have e1 : us[((i : Nat) : Int).toNat]? = none := by simp; omega
    have e2 : ws[((i : Nat) : Int).toNat]? = none := by simp; omega
    rw [show (List.range us.size).drop i = [] from by simp; omega] at h3
    rw [e1, e2]
    wp_walk using wpAny_loadPart' h1, wpAny_loadPart' h2
    show R (.ok (.ret (.bool (us.size != ws.size)))) _
    rw [hz]
    simpa using h3
  | succ left ih =>
    intro i hi A R s h
    obtain ⟨hp, g, d, tk, os⟩ := s
    obtain ⟨h1, h2, he, h3⟩ := h
    wp_walk using wpAny_loadPart' h1, wpAny_loadPart' h2
    have b1 : i < us.size := by omega
    have b2 : i < ws.size := by omega
    have e1 : us[((i : Nat) : Int).toNat]? = some us[i] := by simp [b1]
    have e2 : ws[((i : Nat) : Int).toNat]? = some ws[i] := by simp [b2]
    rw [show (List.range us.size).drop i = i :: (List.range us.size).drop (i + 1) from by simp [List.drop_eq_getElem_cons, b1], List.all_cons] at h3
    rw [e1, e2]
    refine wpAny_bind (he i b1 b2 _ _ ?_)
    cases ei : e i with
    | true =>
      rw [ei] at h3
      wp_walk
      rw [show ((i : Int) + 1) = ((i + 1 : Nat) : Int) from by push_cast; rfl]
      refine ⟨plainId_quiet plain_eq_loop _, codeAny_builtin entry_eq_loop ?_⟩
      rw [Around.under_plainId plain_eq_loop _]
      exact ih (i + 1) (by omega) A R _ ⟨h1, h2, he, by simpa using h3⟩
    | false =>
      rw [ei] at h3
      wp_walk using wpAny_loadPart' h1, wpAny_loadPart' h2
      rw [e1, e2]
      wp_walk
      simpa using h3
theorem dl_ne_list (p q : Addr) (us ws : Array Value) (n m : Nat) (du dw : Option Addr) (su sw : Array (Option Value)) (hz : us.size = ws.size) (e : Nat → Bool) :
    MeetsIn prog w (Builtin.«list.__ne__» ⟨[.ref p, .ref q], []⟩) (fun A R s =>
      s.heap.get? p = some { cls := .type "list", dict := du, data := .seq us n, slots := su } ∧ s.heap.get? q = some { cls := .type "list", dict := dw, data := .seq ws m, slots := sw } ∧
      (∀ j (h1 : j < us.size) (h2 : j < ws.size), EqP prog w A.in1 s us[j] ws[j] (e j)) ∧ R (.ok (.ret (.bool (!(List.range us.size).all e)))) s) := by
  intro A R s h
  obtain ⟨hp, g, d, tk, os⟩ := s
  obtain ⟨h1, h2, he, h3⟩ := h
  have f3 := AutoSeq1.sub_list_list
  have hne : ¬ (us.size != ws.size) = true := by simp [hz]
  wp_walk using wpAny_loadPart' h1, wpAny_loadPart' h2
  refine ⟨plainId_quiet plain_eq_loop _, codeAny_builtin entry_eq_loop ?_⟩
  rw [Around.under_plainId plain_eq_loop _]
  exact dl_ne_walk p q us ws n m du dw su sw hz e _ 0 rfl A R _ ⟨h1, h2, he, by simpa using h3⟩
theorem dl_ne_lists {A : Around} {s : Shared} {p q : Addr} {us ws : Array Value} {e : Nat → Bool} (h1 : s.heap.IsList p us) (h2 : s.heap.IsList q ws) (hz : us.size = ws.size) (hu : A.units < cLine)
    (he : ∀ j (b1 : j < us.size) (b2 : j < ws.size), EqP prog w A.in1 s us[j] ws[j] (e j)) (E Q : Value → Shared → Prop) (k : Q (.bool (!(List.range us.size).all e)) s) : wpAny (model prog w) A (richCompare .NotEq (.ref p) (.ref q)) Q E s := by
  obtain ⟨⟨c1, d1, t1, s1⟩, o1, hc1, n1, hd1⟩ := id h1
  obtain ⟨⟨c2, d2, t2, s2⟩, o2, hc2, n2, hd2⟩ := id h2
  simp only at hc1 hd1 hc2 hd2
  subst hc1 hd1 hc2 hd2
  have ta : s.TypeIs (.ref p) "list" := ⟨_, o1, rfl⟩
  have tb : s.TypeIs (.ref q) "list" := ⟨_, o2, rfl⟩
  refine wpAny_richCompare_same_room (op := .NotEq) ta tb F.slot_list_ne (call_meetsIn F.slot_list_ne ta F.entry_list_ne (F.args_list_ne_2 _ _) (dl_ne_list p q us ws n1 n2 d1 d2 s1 s2 hz e) ⟨o1, o2, he, ?_⟩) hu
  exact show Value.bool (!(List.range us.size).all e) ≠ Value.notImplemented ∧ Q (.bool (!(List.range us.size).all e)) s from ⟨(fun x => nomatch x), k⟩
end
end PySem.SeqAt
namespace PySem.W
open PySem PySem.Calls PyProof.Rows PyProof.V PySem.Spec
section
variable {prog : Program} {w : World} {K : Type} [DecidableEq K] {knd : KeyKind prog w K} {A : Around} {s : Shared}
theorem dl_ne_dicts {a b : Addr} {ka kb : List (K × Value)} {r : Bool} (ha : (a == sysModules) = false) (hb : (b == sysModules) = false) (da : s.heap.DictOf knd a ka) (db : s.heap.DictOf knd b kb) (hu : A.units < cLine)
    (hits : ka.length = kb.length → KeqHitsP prog w A.in1 s kb ka r) (E Q : Value → Shared → Prop) (h : Q (.bool (!(ka.length == kb.length && r))) s) : wpAny (model prog w) A (richCompare .NotEq (.ref a) (.ref b)) Q E s := by
  refine wpAny_richCompare_same_room (op := .NotEq) da.typeIs db.typeIs PySem.F.slot_dict_ne (wpAny_call_entry PySem.F.slot_dict_ne da.typeIs PySem.F.entry_dict_ne ?_ (PySem.F.args_dict_ne_2 _ _)) hu
  show wpAny _ _ (Builtin.Dict.dictSlotArgs "__ne__" ⟨[.ref a, .ref b], []⟩ >>= _) _ _ s
  refine wpAny_bind ?_
  unfold Builtin.Dict.dictSlotArgs
  refine wpAny_bind (wpAny_notOrdered_dict da.typeIs ?_)
  show wpAny _ _ (pure (Value.ref a, Value.ref b)) _ _ s
  refine wpAny_pure (wpAny_bind (wpAny_isInstance (T := "dict") db.typeIs PySem.F.sub_dict_dict ?_))
  simp only [Bool.not_true, Bool.false_eq_true, if_false]
  refine wpAny_bind (wpAny_pure (wpAny_bind (wpAny_pure (wpAny_bind (samePairsP ha hb da db hits ?_)))))
  refine wpAny_pure ⟨_, rfl, ?_, ?_⟩
  · intro x
    exact nomatch x
  · simpa using h
end
end PySem.W
namespace L2.Dl
open PySem PySem.Spec PyProof.Rows
section
variable {X : Cx} {z : Dx} {W : WX} {G H : Hp} {pins : List (Addr × Obj)} {σ : L2.St} {s : Shared}
theorem op_dne (hk : z.K = X.K) (hu : X.A.units + 70 < cLine) : OpR X (compareOp .NotEq) (rD2 z (toB dne)) := by
  intro pins s σ H x y v u Q I rx ry hh
  obtain ⟨G, da, db, r, le, va, vb, e, q⟩ := hh
  unfold toB dne deq at e
  split at e
  · rename_i r0 e0
    cases e
    unfold pyEq at e0
    split at e0
    · rename_i p1 p2 e1 e2
      split at e0
      · rename_i hs
        cases e0
        rw [Bool.and_eq_true] at hs
        exact op_neD (by omega) pins s σ H x y v u Q I rx ry ⟨p1, p2, view_Dp hk le va e1, view_Dp hk le vb e2, hs.1, hs.2, q.rep le (.bl _)⟩
      · cases e0
    · cases e0
  · split at e
    · rename_i l m _
      cases eh : (if l.length = m.length then hitsD eq0 m l else some false) with
      | none => rw [eh] at e; cases e
      | some r0 =>
        rw [eh] at e
        cases e
        obtain ⟨a, ls, rfl, ha, k1, r1⟩ := va.dct le
        obtain ⟨b, ms, rfl, hb, k2, r2⟩ := vb.dct le
        obtain rfl : v = Value.ref a := rx
        obtain rfl : u = Value.ref b := ry
        obtain ⟨ya, wa, ra, dda⟩ := dict_of I ha
        obtain ⟨yb, wb, rb, ddb⟩ := dict_of I hb
        have rl : RepP z G ls l := ⟨k1, r1⟩
        have rm : RepP z G ms m := ⟨k2, r2⟩
        have l1 : wa.length = l.length := by rw [← ra.length]; exact rl.len
        have l2 : wb.length = m.length := by rw [← rb.length]; exact rm.len
        by_cases hl : l.length = m.length
        · rw [if_pos hl] at eh
          refine PySem.W.dl_ne_dicts (knd := mixKind X.prog X.w) (r := r0) ya yb dda ddb (by omega) (fun _ => hits_runD (eq0P I hk le (by show X.A.units + 1 + 65 < cLine; omega)) rm rb rl ra eh) _ _ ?_
          rw [show (wa.length == wb.length && r0) = r0 from by rw [l1, l2, hl]; simp]
          exact ⟨.bl _, H, I, rfl, q.rep le (.bl _)⟩
        · rw [if_neg hl] at eh
          cases eh
          refine PySem.W.dl_ne_dicts (knd := mixKind X.prog X.w) (r := false) ya yb dda ddb (by omega) (fun h => absurd (by rw [← l1, ← l2]; exact h) hl) _ _ ?_
          rw [Bool.and_false]
          exact ⟨.bl _, H, I, rfl, q.rep le (.bl _)⟩
    · rename_i l m _
      obtain ⟨a, xs, rfl, ha, r1⟩ := va.lst le
      obtain ⟨b, ys, rfl, hb, r2⟩ := vb.lst le
      obtain rfl : v = Value.ref a := rx
      obtain rfl : u = Value.ref b := ry
      obtain ⟨us, ru, p1, _⟩ := I.list (SqL.of (K := X.K) ha)
      obtain ⟨ws, rw', p2, _⟩ := I.list (SqL.of (K := X.K) hb)
      have l1 : us.toArray.size = l.length := by rw [List.size_toArray, ← ru.length, r1.length]
      have l2 : ws.toArray.size = m.length := by rw [List.size_toArray, ← rw'.length, r2.length]
      by_cases hl : l.length = m.length
      · rw [if_pos hl] at e
        cases ea : allD eq0 l m with
        | none => rw [ea] at e; cases e
        | some rs =>
          rw [ea] at e
          cases e
          refine SeqAt.dl_ne_lists (e := fun j => rs.getD j true) p1.isList p2.isList (by rw [l1, l2, hl]) (by omega) (items_eqP I hk le (by show X.A.units + 1 + 65 < cLine; omega) r1 r2 ru rw' ea) _ _ ?_
          rw [l1, ← allD_len ea, all_ix]
          exact ⟨.bl _, H, I, rfl, q.rep le (.bl _)⟩
      · rw [if_neg hl] at e
        cases e
        exact SeqAt.RcNeAt.lists_lengths p1.isList p2.isList (by rw [l1, l2]; simpa using hl) (by omega) X.prog X.w _ _ ⟨.bl true, H, I, rfl, q.rep le (.bl _)⟩
    · cases e
end
end L2.Dl
/-! sorted by data. -/
namespace L2.Dl
open PySem PySem.Spec PyProof.Rows

noncomputable def encD (d : D) : PyData := (toPy d).getD .none
def tup1 : PyData → Bool
  | .tuple (_ :: _) => true
  | _ => false
def notNT : PyData → Bool
  | .tuple _ => false
  | .none => false
  | _ => true
/-- what may be sorted -/
def okSort (ps : List PyData) : Bool := ps.all (fun p => ps.all fun q => PySem.W.alike p q) && (ps.all tup1 || ps.all notNT) && ps.all fun p => decide (p.depth ≤ 64)
noncomputable def sortD (l : List D) : List D := l.mergeSort (PySem.W.dataLe false encD)
noncomputable def gSorted : List D → Option R
  | [.lst l] => match toPyL l with
    | none => none
    | some ps => if okSort ps = true then some (.f (.lst (sortD l))) else none
  | [.tup l] => none
  | [.dct l] => match toPyL (l.map fun p => keyD p.1) with
    | none => none
    | some ps => if okSort ps = true then some (.f (.lst (sortD (l.map fun p => keyD p.1)))) else none
  | _ => none
section
variable {X : Cx} {z : Dx} {G H : Hp} {pins : List (Addr × Obj)} {σ : L2.St} {s : Shared}
theorem okSort_alike {ps : List PyData} (h : okSort ps = true) : PySem.W.AllAlike ps := by
  unfold okSort at h
  simp only [Bool.and_eq_true, List.all_eq_true] at h
  exact fun p hp q hq => h.1.1 p hp q hq
theorem okSort_able {ps : List PyData} (h : okSort ps = true) : PySem.W.Sortable ps := by
  unfold okSort at h
  simp only [Bool.and_eq_true, Bool.or_eq_true, List.all_eq_true] at h
  rcases h.1.2 with h | h
  · refine .inl fun d hd => ?_
    have q := h d hd
    unfold tup1 at q
    split at q
    · exact ⟨_, _, rfl⟩
    · cases q
  · refine .inr fun d hd => ?_
    have q := h d hd
    unfold notNT at q
    split at q
    · cases q
    · cases q
    · rename_i n1 n2
      exact ⟨fun e => n2 e, fun xs e => n1 xs e⟩
theorem okSort_depth {ps : List PyData} (h : okSort ps = true) {p : PyData} (hp : p ∈ ps) : p.depth ≤ 64 := by
  unfold okSort at h
  simp only [Bool.and_eq_true, List.all_eq_true] at h
  exact of_decide_eq_true (h.2 p hp)
theorem toPyL_enc : ∀ {l : List D} {ps : List PyData}, toPyL l = some ps → l.map encD = ps
  | [], _, e => by cases e; rfl
  | d :: l, ps, e => by
    unfold toPyL at e
    cases e1 : toPy d with
    | none => rw [e1] at e; cases e
    | some p =>
      cases e2 : toPyL l with
      | none => rw [e1, e2] at e; cases e
      | some r =>
        rw [e1, e2] at e; cases e
        rw [List.map_cons, toPyL_enc e2]
        unfold encD
        rw [e1]
        rfl
theorem toPyL_mem : ∀ {l : List D} {ps : List PyData}, toPyL l = some ps → ∀ d ∈ l, ∃ p, toPy d = some p
  | [], _, _, d, h => by simp at h
  | x :: l, ps, e, d, h => by
    unfold toPyL at e
    cases e1 : toPy x with
    | none => rw [e1] at e; cases e
    | some p =>
      cases e2 : toPyL l with
      | none => rw [e1, e2] at e; cases e
      | some r =>
        rcases List.mem_cons.mp h with rfl | h
        · exact ⟨p, e1⟩
        · exact toPyL_mem e2 d h
/-- a value that stands for data -/
def StandsFor (z : Dx) (G : Hp) (u : Value) (d : D) : Prop := ∃ x, RelV x u ∧ Rep z G x d
theorem stands_all : ∀ {xs : List V} {us : List Value} {l : List D}, Vals xs us → RepL z G xs l → PySem.W.EachIs (StandsFor z G) us l
  | _, _, [], .nil, r => .nil
  | _, _, [], .cons _ _, r => by cases r
  | _, _, d :: l, .nil, r => by cases r
  | _, _, d :: l, .cons a t, r => by
    cases r with
    | cons b q => exact .cons ⟨_, a, b⟩ (stands_all t q)
theorem stands_back : ∀ {us : List Value} {l : List D}, PySem.W.EachIs (StandsFor z G) us l → ∃ xs, Vals xs us ∧ RepL z G xs l
  | _, _, .nil => ⟨[], .nil, .nil⟩
  | _, _, .cons ⟨x, a, b⟩ t => by
    obtain ⟨xs, h1, h2⟩ := stands_back t
    exact ⟨x :: xs, .cons a h1, .cons b h2⟩
theorem stands_reads (I : Inv X pins σ H s) (hk : z.K = X.K) (le : LeH G H) : ∀ {xs : List V} {us : List Value} {l : List D} {ps : List PyData}, Vals xs us → RepL z G xs l → toPyL l = some ps → PySem.W.EachIs (fun v b => ∃ as, Reads s.heap v (encD b) as) us l
  | _, _, [], _, .nil, r, _ => .nil
  | _, _, [], _, .cons _ _, r, _ => by cases r
  | _, _, d :: l, _, .nil, r, _ => by cases r
  | _, _, d :: l, ps, .cons a t, r, e => by
    cases r with
    | cons b q =>
      unfold toPyL at e
      cases e1 : toPy d with
      | none => rw [e1] at e; cases e
      | some p =>
        cases e2 : toPyL l with
        | none => rw [e1, e2] at e; cases e
        | some r =>
          refine .cons ?_ (stands_reads I hk le t q e2)
          unfold encD
          rw [e1]
          exact Dp.reads I p _ _ (rep_Dp hk le d _ p b e1) a
theorem cr_sortedD (hk : z.K = X.K) (hc : X.calm = true) (hu : X.A.units + 70 < cLine) : CallR X (.builtin "sorted") (rDL z gSorted) := by
  intro pins s σ H xs us Q I rs hh
  obtain ⟨G, ds, r, le, vw, e, q⟩ := hh
  unfold gSorted at e
  split at e
  · rename_i l
    cases ep : toPyL l with
    | none => rw [ep] at e; cases e
    | some ps =>
      rw [ep] at e
      simp only at e
      split at e
      · rename_i hok
        cases e
        obtain ⟨x, rfl, v⟩ := view1 vw
        obtain ⟨a, ys, rfl, ha, rl⟩ := v.lst le
        obtain ⟨its, rv, pl, hz⟩ := I.list (SqL.of (K := X.K) ha)
        rw [Vals.ref1 rs]
        have hen := toPyL_enc ep
        refine PySem.W.sorted_data (bs := l) (enc := encD) pl.isList (stands_all rv rl) (stands_reads I hk le rv rl ep) (by rw [hen]; exact okSort_alike hok) (by rw [hen]; exact okSort_able hok) (by rw [← rl.length]; exact hz)
          (fun b hb => ?_) fun out hlen hE => ?_
        · have := okSort_depth hok (p := encD b) (by rw [← hen]; exact List.mem_map_of_mem hb)
          omega
        · obtain ⟨ws, h1, h2⟩ := stands_back hE
          obtain ⟨ep', he'⟩ := PyProof.Rows.sortedAll_at s.heap its out.toArray
          have hl : ws.length ≤ sizeLine := by rw [h1.length, hlen, ← rl.length]; exact hz
          exact ⟨.ref _, upd H (s.heap.objs.size + 1) (.lst ws), I.laid (t' := s.toks) (fun _ _ => PyProof.Rows.sortedAll_old) (Nat.le_succ _) ⟨hl, out, ep', h1, he'⟩, rfl, q.new le (I.hok.fresh (Nat.le_succ _)) ⟨ws, upd_same, h2⟩⟩
      · cases e
  · cases e
  · rename_i l
    cases ep : toPyL (l.map fun p => keyD p.1) with
    | none => rw [ep] at e; cases e
    | some ps =>
      rw [ep] at e
      simp only at e
      split at e
      · rename_i hok
        cases e
        obtain ⟨x, rfl, v⟩ := view1 vw
        obtain ⟨a, vs, rfl, ha, kk, rl⟩ := v.dct le
        obtain ⟨u, rfl, rx⟩ := vals1 rs
        cases rx
        obtain ⟨hz, lo, va, rel, dd⟩ := dk_rd I.hok ha
        obtain ⟨ep0, hat⟩ := dd.dictAt
        have h16 : va.length ≤ sizeLine := by rw [← rel.length]; exact hz
        have rk : RepL z G (vs.map fun kv => kV kv.1) (l.map fun p => keyD p.1) := keysL_rep kk
        refine Calls.call_function_entry PyProof.Rows.kind_sorted PyProof.Rows.plain_sorted PyProof.Rows.entry_sorted (PyProof.Rows.args_sorted1 _) ?_
        unfold Builtin.«sorted»
        refine wpAny_bind (m := checkCount "sorted" 1 1 _) (wpAny_pure ?_)
        refine wpAny_bind (PySem.W.kdu_collect (A := X.A.in1) (PySem.W.kdl_dict (knd := mixKind X.prog X.w) (kvs := va) (ep := ep0) lo) (I.ok.hd hc) hat h16 fun h' tk acc hkp hacc => ?_)
        have hal : acc.toList.length = (vs.map fun kv => kV kv.1).length := by rw [Array.length_toList, hacc.1, List.length_map, ← rel.length]
        have ekeys : (vs.map fun kv => kV kv.1) = va.map fun p => kV p.1 := by
          have e := congrArg (List.map kV) (KV.keys rel)
          rw [List.map_map, List.map_map] at e
          exact e
        have hv : Vals (vs.map fun kv => kV kv.1) acc.toList := by
          rw [ekeys]
          exact keys_at (by rw [Array.length_toList]; exact hacc.1) fun j v e => hacc.2 j v (by rw [← Array.getElem?_toList]; exact e)
        have I1 : Inv X pins σ H { s with heap := h', toks := tk } := I.kept hkp
        have hz1 : acc.toList.length ≤ sizeLine := by rw [Array.length_toList, hacc.1]; exact h16
        refine wpAny_bind (wpAny_newList ?_ hz1)
        have hoL : (h'.push (seqObj "list" acc.toList.toArray 0)).get? h'.objs.size = some (seqObj "list" acc.toList.toArray 0) := Heap.get?_push_size _ rfl
        show wpAny _ _ _ _ _ { s with heap := h'.push (seqObj "list" acc.toList.toArray 0), toks := tk }
        have hen := toPyL_enc ep
        have hkeep : ∀ b o, h'.get? b = some o → (PySem.W.sortingHeap (h'.push (seqObj "list" acc.toList.toArray 0)) h'.objs.size acc.toList).get? b = some o := fun b o e =>
          PySem.W.sortingHeap_old (Nat.ne_of_lt (Heap.lt_size e)) (Heap.get?_push_of_some _ e)
        have er := (stands_reads I1 hk le hv rk ep).mono fun v b ⟨as, r⟩ => (⟨as, PyProof.Rows.Reads.keeps hkeep r⟩ : ∃ as, Reads (PySem.W.sortingHeap (h'.push (seqObj "list" acc.toList.toArray 0)) h'.objs.size acc.toList) v (encD b) as)
        have lenl : (l.map fun p => keyD p.1).length = acc.toList.length := by rw [← rk.length]; exact hal.symm
        refine wpAny_bind (wpAny_holding (wpAny_call_entry PyProof.Rows.slot_list_sort ⟨_, hoL, rfl⟩ PyProof.Rows.entry_list_sort
          (PySem.W.list_sort_vals (κ := PySem.W.dataKind (PySem.W.sortingHeap (h'.push (seqObj "list" acc.toList.toArray 0)) h'.objs.size acc.toList) ((l.map fun p => keyD p.1).map encD)) (s := { s with heap := h'.push (seqObj "list" acc.toList.toArray 0), toks := tk }) hoL
            (PySem.W.SortsAt.data (s := { s with heap := PySem.W.sortingHeap (h'.push (seqObj "list" acc.toList.toArray 0)) h'.objs.size acc.toList, toks := tk })
              (PySem.W.each_map (R := fun v d => ∃ as, Reads (PySem.W.sortingHeap (h'.push (seqObj "list" acc.toList.toArray 0)) h'.objs.size acc.toList) v d as) encD er)
              (by rw [hen]; exact okSort_alike hok) (by rw [hen]; exact okSort_able hok) (fun d hd => ?_)) hz1 ⟨.none, rfl, ?_⟩)
          (PyProof.Rows.args_list_sort _)))
        · have := okSort_depth hok (p := d) (by rw [← hen]; exact hd)
          show X.A.units + 1 + 1 + d.depth < cLine
          omega
        · have hE := PySem.W.sortVals_data false (stands_all hv rk) er (by rw [hen]; exact okSort_alike hok)
          obtain ⟨ws, h1, h2⟩ := stands_back hE
          obtain ⟨e', he'⟩ := PyProof.Rows.sortedHeap_at (vs := acc.toList) (out := (PySem.W.sortVals (PySem.W.dataKind (PySem.W.sortingHeap (h'.push (seqObj "list" acc.toList.toArray 0)) h'.objs.size acc.toList) ((l.map fun p => keyD p.1).map encD)) false acc.toList acc.toList).toArray) hoL
          have hl : ws.length ≤ sizeLine := by rw [h1.length, PySem.W.sortVals_length false rfl]; exact hz1
          refine wpAny_pure ⟨_, rfl, .ref h'.objs.size, upd H h'.objs.size (.lst ws), I1.laid (t' := tk) (fun b u e => ?_) (Nat.le_refl _)
            (show ObjOk X.prog X.w _ _ _ (.lst ws) from ⟨hl, _, e', h1, he'⟩), rfl, q.new le (I1.hok.fresh (Nat.le_refl _)) ⟨ws, upd_same, h2⟩⟩
          have hb : b < h'.objs.size := Heap.lt_size e
          rw [PyProof.Rows.sortedHeap_old (Nat.ne_of_lt hb) (by rw [size_push']; exact Nat.lt_succ_of_lt hb)]
          exact Heap.get?_push_of_some _ e
      · cases e
  · cases e
end
end L2.Dl
/-! len(set(xs)): whole numbers and texts, any number of them. -/
namespace L2.Dl
open PySem PySem.Spec PyProof.Rows

/-- the different keys among the first i -/
def inK (l : List Key) (k : Key) : Bool := l.any fun x => decide (x = k)
def metK (val : Nat → Key) : Nat → List Key
  | 0 => []
  | i + 1 => if inK (metK val i) (val i) = true then metK val i else metK val i ++ [val i]
theorem metK_le (val : Nat → Key) : ∀ i, (metK val i).length ≤ i
  | 0 => Nat.le_refl _
  | i + 1 => by
    have ih := metK_le val i
    unfold metK
    split
    · omega
    · rw [List.length_append, List.length_singleton]; omega
section
variable {prog : Program} {w : World} {A : Around} {R : Result → Shared → Prop} {I : Addr} {fp wr : List Addr} {GG : Array GenState → Array GenState → Prop} {n : Nat} {P : Nat → Value → Prop} {St : Nat → Shared → Prop}
theorem setOf_eq {h : Heap} {a : Addr} {S S' : Key → Bool} {n n' : Nat} (hS : h.SetOf (mixKind prog w) a S n) (e : ∀ k, S k = S' k) (en : n = n') : h.SetOf (mixKind prog w) a S' n' := by
  obtain rfl : S = S' := funext e
  obtain rfl := en
  exact hS
theorem setOf_get {h h' : Heap} {a : Addr} {S : Key → Bool} {n : Nat} (hS : h.SetOf (mixKind prog w) a S n) (k : ∀ o, h.get? a = some o → h'.get? a = some o) : h'.SetOf (mixKind prog w) a S n := by
  obtain ⟨o, es, ep, t, ho, r⟩ := hS
  exact ⟨o, es, ep, t, k o ho, r⟩
theorem dl_set_loop (Wk : WalksS prog w A.in1 I fp wr GG n P St) (S : Addr) (nS : S ∉ fp) (val : Nat → Key) (hv : ∀ i v, P i v → (mixKind prog w).is (val i) v = true ∧ v.scannable = true) (hn : n + 1 < scanBound) :
    ∀ (left i : Nat) (s : Shared), n - i = left → i ≤ n → St i s → s.heap.SetOf (mixKind prog w) S (inK (metK val i)) (metK val i).length →
      (∀ s', Moved (S :: wr) GG s s' → s'.heap.SetOf (mixKind prog w) S (inK (metK val n)) (metK val n).length → R (.ok (.ret .none)) s') → codeAny (model prog w) A (.builtin "set.update.loop" ⟨[.ref S, .ref I], []⟩) R s := by
  have nW : S ∉ wr := fun h => nS (Wk.sub _ h)
  have more : ∀ b ∈ wr, b ∈ S :: wr := fun b hb => List.mem_cons_of_mem _ hb
  intro left
  induction left with
  | zero =>
    intro i s hl hi st hS hR
    obtain rfl : i = n := by omega
    refine codeAny_builtin PyProof.Rows.F.entry_set_update_loop ?_
    rw [Around.under_plainId PyProof.Rows.F.plain_set_update_loop _]
    show wpAny _ A.in1 (pyNext (.ref I) >>= _) _ _ s
    refine wpAny_bind (Wk.done s _ _ st fun s' m => ?_)
    show wpAny _ A.in1 (ret Value.none) _ _ s'
    exact wpAny_pure (hR s' (m.mono more) (setOf_get hS fun o e => m.heap S o nW e))
  | succ left ih =>
    intro i s hl hi st hS hR
    have hlt : i < n := by omega
    refine codeAny_builtin PyProof.Rows.F.entry_set_update_loop ?_
    rw [Around.under_plainId PyProof.Rows.F.plain_set_update_loop _]
    show wpAny _ A.in1 (pyNext (.ref I) >>= _) _ _ s
    refine wpAny_bind (Wk.item i s _ _ hlt st fun v s' p st' m => ?_)
    obtain ⟨hk, hc⟩ := hv i v p
    show wpAny _ A.in1 (holding [v] (setAdd S v) >>= _) _ _ s'
    refine wpAny_bind (wpAny_holding ?_)
    unfold setAdd
    refine wpAny_holding (wpAny_bind ((mixKind prog w).pyHash (k := val i) hk ?_))
    have room : (metK val i).length + 1 < scanBound := Nat.lt_of_le_of_lt (Nat.succ_le_succ (Nat.le_trans (metK_le val i) (Nat.le_of_lt hlt))) hn
    have hS1 : ({ s' with toks := s'.toks + 1 } : Shared).heap.SetOf (mixKind prog w) S (inK (metK val i)) (metK val i).length := setOf_get hS fun o e => m.heap S o nW e
    refine wpAny_setAddHashed_of (knd := mixKind prog w) (s := { s' with toks := s'.toks + 1 }) hk hc hS1 room fun h' sb hS2 => ?_
    have hS3 : h'.SetOf (mixKind prog w) S (inK (metK val (i + 1))) (metK val (i + 1)).length := by
      refine setOf_eq hS2 (fun k => ?_) ?_
      · show (inK (metK val i) k || decide (k = val i)) = inK (if inK (metK val i) (val i) = true then metK val i else metK val i ++ [val i]) k
        by_cases hm : inK (metK val i) (val i) = true
        · rw [if_pos hm]
          by_cases e : k = val i
          · subst e; rw [hm]; rfl
          · rw [decide_eq_false e, Bool.or_false]
        · rw [if_neg hm]
          unfold inK
          rw [List.any_append]
          by_cases e : k = val i
          · subst e; simp
          · have e2 : ¬ val i = k := fun h => e h.symm
            simp [e, e2]
      · show (if inK (metK val i) (val i) = true then (metK val i).length else (metK val i).length + 1) = (if inK (metK val i) (val i) = true then metK val i else metK val i ++ [val i]).length
        by_cases hm : inK (metK val i) (val i) = true
        · rw [if_pos hm, if_pos hm]
        · rw [if_neg hm, if_neg hm]; simp
    refine wpAny_pure ⟨plainId_quiet PyProof.Rows.F.plain_set_update_loop _, ih (i + 1) _ (by omega) hlt (Wk.frame _ s' _ _ st' (Nat.le_succ _) fun b hb o e => ?_) hS3 fun s2 m2 hS4 => ?_⟩
    · exact (sb.2 b (fun h : b = S => nS (by rw [← h]; exact hb))).trans e
    · exact hR s2 (Moved.trans Wk.gtrans ((m.mono more).then_heap (Nat.le_succ _) fun b o hb e => (sb.2 b (fun h : b = S => hb (by rw [h]; exact List.mem_cons_self))).trans e) m2) hS4
end
end L2.Dl
namespace PySem
section
open L2 L2.Dl
variable {prog : Program} {w : World} {A : Around} {E : Value → Shared → Prop} {s : Shared}
theorem dl_call_set {l : Addr} {items : Array Value} {ks : List Key} {Q : Value → Shared → Prop} (hh : A.handled = none) (hl : s.heap.IsList l items) (hk : ∀ (i : Nat) (v : Value), items[i]? = some v → (mixKind prog w).is (ks.getD i (.inl 0)) v = true ∧ v.scannable = true) (hb : items.size + 1 < scanBound)
    (h : ∀ (h' : Heap) (tk : Nat), h'.SetOf (mixKind prog w) s.heap.objs.size (inK (metK (fun i => ks.getD i (.inl 0)) items.size)) (metK (fun i => ks.getD i (.inl 0)) items.size).length →
      (∀ b o, b < s.heap.objs.size → s.heap.get? b = some o → h'.get? b = some o) → Q (.ref s.heap.objs.size) { s with heap := h', toks := tk }) :
    wpAny (model prog w) A (call (.type "set") [.ref l]) Q E s := by
  obtain ⟨c, tl, hmro⟩ := F.called_set.mro
  have hmade := F.called_set.made
  have hsub := F.called_set.sub
  refine wpAny_call (codeAny_of_tree ?_)
  show wpAny _ _ (callAny (.type "set") _) _ _ _
  refine wpAny_pure ⟨Code.quiet_builtin _ (by decide +kernel), codeAny_builtin F.entry_type_call ?_⟩
  rw [Around.under_plain (weight_type_call_type "set" [.ref l] []) rfl]
  have h1 := F.called_set.notType
  have h2 := F.called_set.canCreate
  have hct := F.typeCall_set_1 (.ref l)
  repeat (any_goals (first | assumption | wp_step))
  refine codeAny_mono (code_set_new_1 (.ref l) (E := E) (Q₁ := fun obj s₁ => ∃ led : Bool, obj = .ref s.heap.objs.size ∧ s₁ = { s with heap := s.heap.push { cls := .type "set", dict := none, data := .set #[] 0 (.fresh 0 0 led) } }) fun led => ⟨led, rfl, rfl⟩) fun r s₁ hr => ?_
  cases r with
  | error e => exact hr
  | ok fl =>
    cases fl with
    | ret obj =>
      obtain ⟨led, rfl, rfl⟩ := hr
      have hS : (s.heap.push { cls := .type "set", dict := none, data := .set #[] 0 (.fresh 0 0 led) }).get? s.heap.objs.size = some { cls := .type "set", dict := none, data := .set #[] 0 (.fresh 0 0 led) } := Heap.get?_push_size _ rfl
      have hT : Shared.TypeIs { s with heap := s.heap.push { cls := .type "set", dict := none, data := .set #[] 0 (.fresh 0 0 led) } } (.ref s.heap.objs.size) "set" := ⟨_, hS, rfl⟩
      have hli := F.called_set.init.lookup
      have hbi := F.called_set.init.bind (.ref s.heap.objs.size)
      repeat (any_goals (first | assumption | wp_step))
      refine codeAny_mono (codeAny_call_builtin (R := wants (fun r s₂ => r = .none ∧ ∃ h' tk, s₂ = { s with heap := h', toks := tk } ∧
          h'.SetOf (mixKind prog w) s.heap.objs.size (inK (metK (fun i => ks.getD i (.inl 0)) items.size)) (metK (fun i => ks.getD i (.inl 0)) items.size).length ∧
          (∀ b o, b < s.heap.objs.size → s.heap.get? b = some o → h'.get? b = some o)) E) F.called_set.init.plain F.entry_set_init (check_set_init_1 hT ?_)) fun r₂ s₂ hr₂ => ?_
      · obtain ⟨⟨cls, dd, data, sl⟩, hol, hcl, nl, hdl⟩ := hl
        simp only at hcl hdl
        subst hcl; subst hdl
        have hol' : (s.heap.push { cls := .type "set", dict := none, data := .set #[] 0 (.fresh 0 0 led) }).get? l = some { cls := .type "list", dict := dd, data := .seq items nl, slots := sl } := Heap.get?_push_of_some _ hol
        have hsls := F.sub_list_set
        have hslf := F.sub_list_frozenset
        have hne : (Value.type "list" == Value.type "dict") = false := by decide
        have hl1 : (s.heap.push { cls := .type "set", dict := none, data := .set #[] 0 (.fresh 0 0 led) }).IsList l items := ⟨_, hol', rfl, nl, rfl⟩
        unfold Builtin.«set.__init__» noKeywords Builtin.Frozenset.updateFrom
        generalize hPI : pyIter = PI
        wp_walk
        subst hPI
        refine wpAny_pyIter_list hl1 (wpAny_bind (wpAny_runValue ?_))
        have hlS : l < s.heap.objs.size := Heap.lt_size hol
        have hh3 : A.in1.in1.in1.handled = none := by simp [hh]
        have hneI : l ≠ (s.heap.push { cls := .type "set", dict := none, data := .set #[] 0 (.fresh 0 0 led) }).objs.size := by
          rw [Heap.size_push]; exact Nat.ne_of_lt (Nat.lt_succ_of_lt hlS)
        have hSf : s.heap.objs.size ∉ [(s.heap.push { cls := .type "set", dict := none, data := .set #[] 0 (.fresh 0 0 led) }).objs.size, l] := by
          rw [Heap.size_push]; simp only [List.mem_cons, List.mem_singleton, List.not_mem_nil, or_false, not_or]
          exact ⟨Nat.ne_of_lt (Nat.lt_succ_self _), Nat.ne_of_gt hlS⟩
        refine dl_set_loop ((Walks.list hh3 _ l hneI items).toS) s.heap.objs.size hSf (fun i => ks.getD i (.inl 0)) hk hb (items.size - 0) 0 _ (by omega) (Nat.zero_le _) ⟨⟨_, Heap.get?_push_size _ rfl, rfl, rfl⟩, (hl1.push _)⟩ ?hS0 ?hR
        case hS0 =>
          have hget : ((s.heap.push { cls := .type "set", dict := none, data := .set #[] 0 (.fresh 0 0 led) }).push { cls := .type "list_iterator", data := .fields #[.ref l, .int 0 0] }).get? s.heap.objs.size
              = some { cls := .type "set", dict := none, data := .set #[] 0 (.fresh 0 0 led) } := Heap.get?_push_of_some _ hS
          letI : BEq Key := instBEqOfDecidableEq
          exact setOf_eq ((PyProof.Rows.setObjOf_fresh (knd := mixKind prog w) led).setOf hget (by unfold scanBound; omega)) (fun _ => rfl) rfl
        case hR =>
          intro s' hm hS'
          obtain ⟨h', g', d', tk', os'⟩ := s'
          have eg : g' = s.gens := hm.gens
          have ed : d' = s.drawn := hm.drawn
          have eo : os' = s.os := hm.os
          subst eg; subst ed; subst eo
          show wpAny _ _ _ _ _ _
          refine wpAny_pure ?_
          show wpAny _ _ (ret Value.none) _ _ _
          refine wpAny_pure ⟨rfl, h', tk', rfl, hS', fun b o hb e => ?_⟩
          have hb1 : b ≠ s.heap.objs.size := Nat.ne_of_lt hb
          have hb2 : b ≠ (s.heap.push { cls := .type "set", dict := none, data := .set #[] 0 (.fresh 0 0 led) }).objs.size := by
            rw [Heap.size_push]; exact Nat.ne_of_lt (Nat.lt_succ_of_lt hb)
          exact hm.heap b o (by simp only [List.mem_cons, List.mem_singleton, List.not_mem_nil, or_false, not_or]; exact ⟨hb1, hb2⟩) (Heap.get?_push_of_some _ (Heap.get?_push_of_some _ e))
      · cases r₂ with
        | error e => exact hr₂
        | ok fl₂ =>
          cases fl₂ with
          | ret r =>
            obtain ⟨rfl, h', tk, rfl, hS', hk'⟩ := hr₂
            repeat (any_goals (first | assumption | wp_step))
            exact h _ _ hS' hk'
          | next => exact hr₂.elim
          | brk => exact hr₂.elim
          | cont => exact hr₂.elim
    | next => exact hr.elim
    | brk => exact hr.elim
    | cont => exact hr.elim
end
end PySem
/-! len(set(xs)); and, or as values; chains; isinstance; slices; texts. -/
namespace L2.Dl
open PySem PySem.Spec PyProof.Rows

def keyCount (ks : List Key) : Nat := (metK (fun i => ks.getD i (.inl 0)) ks.length).length
theorem inK_iff {l : List Key} {k : Key} : inK l k = true ↔ k ∈ l := by
  unfold inK
  rw [List.any_eq_true]
  constructor
  · rintro ⟨x, h, e⟩
    rw [← of_decide_eq_true e]; exact h
  · intro h
    exact ⟨k, h, decide_eq_true rfl⟩
theorem metK_take {ks : List Key} (nd : ks.Nodup) : ∀ i, i ≤ ks.length → metK (fun i => ks.getD i (.inl 0)) i = ks.take i
  | 0, _ => rfl
  | i + 1, h => by
    unfold metK
    rw [metK_take nd i (by omega)]
    have hi : i < ks.length := h
    have e : ks.getD i (.inl 0) = ks[i] := by rw [List.getD_eq_getElem?_getD, List.getElem?_eq_getElem hi]; rfl
    have no : ¬ inK (ks.take i) (ks.getD i (.inl 0)) = true := by
      rw [inK_iff, e]
      intro hm
      obtain ⟨j, hj, ej⟩ := List.mem_iff_getElem.mp hm
      rw [List.getElem_take] at ej
      rw [List.length_take] at hj
      have := (List.getElem_inj nd).mp ej
      omega
    rw [if_neg no, e, List.take_add_one, List.getElem?_eq_getElem hi]
    rfl
theorem keyCount_nodup {ks : List Key} (nd : ks.Nodup) : keyCount ks = ks.length := by
  unfold keyCount
  rw [metK_take nd _ (Nat.le_refl _), List.take_length]
section
variable {X : Cx} {z : Dx} {W : WX} {G H : Hp} {pins : List (Addr × Obj)} {σ : L2.St} {s : Shared}
def gLenSet : D → Option R
  | .lst l => match keysOf l with
    | some ks => if ks.length ≤ 4000 then some (.v (.int (keyCount ks))) else none
    | none => none
  | _ => none
theorem key_vals : ∀ {ks : List Key} {us : List Value}, Vals (ks.map kV) us → ∀ (i : Nat) (v : Value), us[i]? = some v → (mixKind X.prog X.w).is (ks.getD i (.inl 0)) v = true ∧ v.scannable = true
  | [], _, .nil, i, v, h => by simp at h
  | k :: ks, _, .cons r t, 0, v, h => by
    simp at h
    subst h
    exact ⟨kV_is r, key_scan r⟩
  | k :: ks, _, .cons r t, i + 1, v, h => by
    simp only [List.getElem?_cons_succ] at h
    exact key_vals t i v h
theorem E_lenSet {a : Expr} {p p2 q pos : Pos} {fa : M R} (hc : X.calm = true) (hm : X.mg "len" = none) (hm2 : X.mg "set" = none) (ha : E X z W a fa) (hg : Gl X "len" := by rfl) (hg2 : Gl X "set" := by rfl)
    (na : starEach [a] X.env = (false, eval a X.env) :: starEach [] X.env := by rfl) : E X z W (.Call (.Name "len" p) [.Call (.Name "set" p2) [a] [] q] [] pos) (sUn gLenSet fa) := by
  refine ⟨⟨fun pins s σ H Q I ⟨S, G, si, h⟩ => ?_⟩, ha.k⟩
  refine Call_ (ld_blt I hg hm boot_len ?_)
  refine PyProof.Rows.callWith_builtin1 (PyProof.Rows.args_cons ?_ rfl) rfl rfl
  refine Call_ (ld_blt I hg2 hm2 boot_set ?_)
  refine PyProof.Rows.callWith_type1 (PyProof.Rows.args_cons (thn (ha.pe.run pins s σ H _ I (sUn_run si h)) fun v s1 ⟨x, H1, I1, r1, G1, d, r, le, vw, e, k⟩ => PyProof.Rows.args_nil ?_) na) na rfl
  unfold gLenSet at e
  split at e
  · rename_i l
    cases ek : keysOf l with
    | none => rw [ek] at e; cases e
    | some ks =>
      rw [ek] at e
      simp only at e
      split at e
      · rename_i hz
        cases e
        obtain ⟨a1, xs, rfl, h1, rl⟩ := vw.lst le
        cases r1
        have ex := keysOf_rep rl ek
        subst ex
        obtain ⟨its, rv, pl, _⟩ := I1.list (SqL.of (K := X.K) h1)
        have hl : its.toArray.size = ks.length := by rw [List.size_toArray, ← rv.length, List.length_map]
        refine dl_call_set (ks := ks) (I1.ok.hd hc) pl.isList (fun i v hv => key_vals rv i v (by simpa using hv)) (by rw [hl]; unfold scanBound; omega) fun h' tk hS hkp => ?_
        show wpAny (model X.prog X.w) X.A (spliced (backTo pos (starEach [] X.env))) _ _ _
        refine PyProof.Rows.args_nil ?_
        rw [hl] at hS
        obtain ⟨o, es, ep, t, ho, hex, hd, _, _, _, hf, hn⟩ := hS
        have I2 : Inv X pins σ H1 { s1 with heap := h', toks := tk } := I1.kept fun b o e => hkp b o (Heap.lt_size e) e
        have hle : (metK (fun i => ks.getD i (.inl 0)) ks.length).length ≤ 4000 := Nat.le_trans (metK_le _ _) hz
        exact call_len_set ho hex hd hf (by rw [hn]; omega) ⟨.int (keyCount ks : Nat), H1, I2.tok _, ⟨_, by rw [hn]; rfl⟩, k.rep le (.int _)⟩
      · cases e
  · cases e

/-! ### and, or as values -/
def R.sh : R → R
  | .f d => .v d
  | r => r
def sAndV (fa fb : M R) : M R := fun S => (fa S).bind fun ra S1 => match lookB S1 ra with
  | none => .no
  | some true => fb S1
  | some false => .ok ra.sh S1
def sOrV (fa fb : M R) : M R := fun S => (fa S).bind fun ra S1 => match lookB S1 ra with
  | none => .no
  | some true => .ok ra.sh S1
  | some false => fb S1
variable {a b c : Expr} {rest : List Expr} {pos : Pos} {fa fb fc : M R}
theorem dens_den {S1 : SS} {H0 H1 G1 : Hp} {x : V} {r : R} (h : DenS z σ G1 x r) : Den z S1 σ H0 H1 G1 x r.sh := by
  cases r with
  | v d => exact h
  | f d => exact h
  | «at» i => exact h
theorem lookB_run {S1 : SS} {H1 G1 : Hp} {x : V} {v : Value} {s1 : Shared} {r : R} {k : Bool} (hk : z.K = X.K) (I1 : Inv X pins σ H1 s1) (r1 : RelV x v) (si : SI z S1 σ H1 G1) (dn : DenS z σ G1 x r) (e : lookB S1 r = some k)
    {Q : Bool → Shared → Prop} (q : ∀ s2, Inv X pins σ H1 s2 → Q k s2) : wpAny (model X.prog X.w) X.A (truthy v) Q X.xe s1 := by
  unfold lookB at e
  cases el : look S1 r with
  | none => rw [el] at e; cases e
  | some d =>
    rw [el] at e
    refine thn (tru_dl hk pins s1 σ H1 x v (fun c H2 => c = k ∧ H2 = H1) I1 r1 ⟨G1, d, k, si.le, dn.view si el, e, rfl, rfl⟩) fun c s2 ⟨H2, I2, e1, e2⟩ => ?_
    subst e1 e2
    exact q s2 I2
theorem E_one {op : BoolOp} (ha : E X z W a fa) : E X z W (.BoolOp op [a] pos) fa := ⟨pe_one ha.pe, ha.k⟩
theorem E_and (ha : E X z W a fa) (hb : E X z W (.BoolOp .And (b :: rest) pos) fb) : E X z W (.BoolOp .And (a :: b :: rest) pos) (sAndV fa fb) := by
  refine ⟨⟨fun pins s σ H Q I ⟨S, G, si, h⟩ => ?_⟩, ha.k⟩
  refine BoolOp_and (thn (ha.pe.run pins s σ H _ I (step si h)) fun v s1 ⟨x, H1, I1, r1, ra, S1, G1, si1, g1, dn, h1⟩ => ?_)
  cases e : lookB S1 ra with
  | none => rw [e] at h1; exact h1.elim
  | some k =>
    rw [e] at h1
    refine lookB_run ha.k I1 r1 si1 dn e fun s2 I2 => ?_
    cases k with
    | true => exact hb.pe.run pins s2 σ H1 Q I2 ⟨S1, G1, si1, h1⟩
    | false => exact ⟨x, H1, I2, r1, h1 x H1 G1 si1 .refl (dens_den dn)⟩
theorem E_or (ha : E X z W a fa) (hb : E X z W (.BoolOp .Or (b :: rest) pos) fb) : E X z W (.BoolOp .Or (a :: b :: rest) pos) (sOrV fa fb) := by
  refine ⟨⟨fun pins s σ H Q I ⟨S, G, si, h⟩ => ?_⟩, ha.k⟩
  refine BoolOp_or (thn (ha.pe.run pins s σ H _ I (step si h)) fun v s1 ⟨x, H1, I1, r1, ra, S1, G1, si1, g1, dn, h1⟩ => ?_)
  cases e : lookB S1 ra with
  | none => rw [e] at h1; exact h1.elim
  | some k =>
    rw [e] at h1
    refine lookB_run ha.k I1 r1 si1 dn e fun s2 I2 => ?_
    cases k with
    | false => exact hb.pe.run pins s2 σ H1 Q I2 ⟨S1, G1, si1, h1⟩
    | true => exact ⟨x, H1, I2, r1, h1 x H1 G1 si1 .refl (dens_den dn)⟩
/-! ### a op b op c -/
def lift2 (g : D → D → Option Bool) (S : SS) (ra rb : R) : Option Bool := do let da ← look S ra; let db ← look S rb; g da db
def sChain (g g' : D → D → Option Bool) (fa fb fc : M R) : M R := fun S => (fa S).bind fun ra S1 => (fb S1).bind fun rb S2 => match lift2 g S2 ra rb with
  | none => .no
  | some false => .ok (.v (.bl false)) S2
  | some true => (fc S2).bind fun rc S3 => match lift2 g' S3 rb rc with
    | none => .no
    | some k => .ok (.v (.bl k)) S3
theorem lift2_eq {g : D → D → Option Bool} {S : SS} {ra rb : R} {k : Bool} (h : lift2 g S ra rb = some k) : ∃ da db, look S ra = some da ∧ look S rb = some db ∧ g da db = some k := by
  unfold lift2 at h
  cases e1 : look S ra with
  | none => rw [e1] at h; cases h
  | some da =>
    cases e2 : look S rb with
    | none => rw [e1, e2] at h; cases h
    | some db => rw [e1, e2] at h; exact ⟨da, db, rfl, rfl, h⟩
theorem E_chain {op op' : CmpOp} {g g' : D → D → Option Bool} (ho : OpR X (compareOp op) (rD2 z (toB g))) (ho' : OpR X (compareOp op') (rD2 z (toB g'))) (ha : E X z W a fa) (hb : E X z W b fb) (hc : E X z W c fc)
    (hm : lastMarks [op, op'] [b, c] = false := by with_unfolding_all rfl) : E X z W (.Compare a [op, op'] [b, c] pos) (sChain g g' fa fb fc) := by
  refine ⟨PE.le (pe_chain ho ho' ha.pe hb.pe hc.pe hm) fun σ H Q ⟨S, G, si, h⟩ => ?_, ha.k⟩
  refine (step si h).mono fun x H1 ⟨ra, S1, G1, si1, _, da, h1⟩ => (step si1 h1).mono fun y H2 ⟨rb, S2, G2, si2, g2, db, h2⟩ => ?_
  cases e : lift2 g S2 ra rb with
  | none => rw [e] at h2; exact h2.elim
  | some k =>
    rw [e] at h2
    obtain ⟨d1, d2, l1, l2, eg⟩ := lift2_eq e
    refine ⟨G2, d1, d2, .v (.bl k), si2.le, (da.mono g2.ge).view si2 l1, db.view si2 l2, by unfold toB; rw [eg]; rfl, fun v H' G' xx dn => ?_⟩
    cases dn
    refine ⟨k, rfl, ?_⟩
    have si3 := si2.ext xx
    cases k with
    | false =>
      rw [if_neg Bool.false_ne_true]
      exact (Post.from h2 xx.go) (.bl false) H' G' si3 .refl (.bl false)
    | true =>
      rw [if_pos rfl]
      refine (step si3 (Post.from h2 xx.go)).mono fun w H4 ⟨rc, S4, G4, si4, g4, dc, h4⟩ => ?_
      cases e' : lift2 g' S4 rb rc with
      | none => rw [e'] at h4; exact h4.elim
      | some k' =>
        rw [e'] at h4
        obtain ⟨d3, d4, l3, l4, eg'⟩ := lift2_eq e'
        exact ⟨G4, d3, d4, .v (.bl k'), si4.le, ((db.mono xx.ge).mono g4.ge).view si4 l3, dc.view si4 l4, by unfold toB; rw [eg']; rfl, VP.fin si4 h4⟩

/-! ### isinstance of built-in types -/
def tyD : D → Option String
  | .non => some "NoneType"
  | .bl _ => some "bool"
  | .int _ => some "int"
  | .str _ => some "str"
  | .lst _ => some "list"
  | .tup _ => some "tuple"
  | .dct _ => some "dict"
  | .dtt _ => none
  | .scr _ => some "list"
  | .ins _ _ => none
def isTy (t T : String) : Bool := t == T || (t == "bool" && T == "int")
theorem kit_tab : (["NoneType", "bool", "int", "str", "list", "tuple", "dict"].all fun t => ["bool", "int", "str", "list", "tuple", "dict"].all fun T => decide (kitB t T = some (isTy t T))) = true := by decide +kernel
def okTy (T : String) : Bool := ["bool", "int", "str", "list", "tuple", "dict"].contains T
theorem tyD_mem {d : D} {t : String} (h : tyD d = some t) : t ∈ ["NoneType", "bool", "int", "str", "list", "tuple", "dict"] := by
  cases d <;> simp [tyD] at h <;> subst h <;> decide
theorem kit_is {K : PySem.W.Frag} {d : D} {t T : String} (h : tyD d = some t) (hT : okTy T = true) : PySem.W.kitOne K (.type t) (.type T) = some (isTy t T) := by
  refine kit_ty ?_
  have q := List.all_eq_true.mp (List.all_eq_true.mp kit_tab t (tyD_mem h)) T (by simpa [okTy] using hT)
  exact of_decide_eq_true q
theorem tyX_view (hk : z.K = X.K) {x : V} {d : D} {t : String} (le : LeH G H) (vw : View z G H x d) (h : tyD d = some t) : TyX X.K H x (.type t) := by
  cases d with
  | non => cases h; obtain rfl := vw.non; exact .base .non
  | bl b => cases h; obtain rfl := vw.bl; exact .base (.bl _)
  | int b => cases h; obtain rfl := vw.int; exact .base (.int _)
  | str b => cases h; obtain rfl := vw.str; exact .base (.str _)
  | lst l => cases h; obtain ⟨a, xs, rfl, ha, _⟩ := vw.lst le; exact .base (.lst ha)
  | tup l =>
    cases h
    obtain ⟨a, xs, rfl, ha, _⟩ := vw.tup le
    rw [hk] at ha
    rcases ha with (ha | ⟨o, ha⟩) | ⟨o, its, n, ha, hc, _⟩
    · exact .base (.tup ha)
    · exact .fTuple ha
    · exact .kTuple ha hc
  | dct l =>
    cases h
    obtain ⟨a, xs, rfl, ha, _⟩ := vw.dct le
    rcases ha with ha | ⟨o, ha⟩
    · exact .base (.dK ha)
    · exact .fDict ha
  | dtt l => cases h
  | scr l =>
    cases h
    obtain ⟨a, rfl, ha⟩ := vw.scr le
    rw [hk] at ha
    rcases ha with (ha | ⟨o, ha⟩) | ⟨o, its, n, ha, hc, _⟩
    · exact .base (.lst ha)
    · exact .base (.frz ha)
    · exact .kList ha hc
  | ins c l => cases h

theorem kit_any {K : PySem.W.Frag} {d : D} {t : String} (h : tyD d = some t) : ∀ {Ts : List String}, Ts.all okTy = true → PySem.W.kitAny K (.type t) (Ts.map Value.type) = some (Ts.any (isTy t))
  | [], _ => rfl
  | T :: Ts, hT => by
    simp only [List.all_cons, Bool.and_eq_true] at hT
    rw [List.map_cons, List.any_cons]
    refine kitAny_cons (kit_is h hT.1) (fun e => ?_) (fun e => ?_)
    · rw [e, Bool.false_or]; exact kit_any h hT.2
    · rw [e, Bool.true_or]
def sIsi (Ts : List String) (fa : M R) : M R := fun S => (fa S).bind fun ra S1 => match look S1 ra with
  | none => .no
  | some d => match tyD d with
    | none => .no
    | some t => .ok (.v (.bl (Ts.any (isTy t)))) S1
theorem E_isi {e : Expr} {T : String} {x : Str} {p p2 pos : Pos} (hm : X.mg "isinstance" = none) (hmT : X.mg x = none) (he : E X z W e fa) (hT : okTy T = true := by decide) (hv : bootBuiltins x = some (.type T) := by rfl)
    (hg : Gl X "isinstance" := by rfl) (hgT : Gl X x := by rfl) (hn : x ≠ "__name__" := by decide) (hdb : (x == ("__debug__" : Str)) = false := by decide)
    (hs : starEach [e, .Name x p2] X.env = (false, eval e X.env) :: starEach [.Name x p2] X.env := by rfl) (hs2 : starEach [.Name x p2] X.env = (false, eval (.Name x p2) X.env) :: starEach [] X.env := by rfl)
    (hpl : (backTo pos (starEach [.Name x p2] X.env)).any (·.1) = false := by rfl) : E X z W (.Call (.Name "isinstance" p) [e, .Name x p2] [] pos) (sIsi [T] fa) := by
  refine ⟨PE.le (pe_callB call_isi hg hm boot_isinstance (pa_cons he.pe (pa_cons (pe_bltn hgT hmT hv (v := .ty T) rfl hn hdb) pa_nil hs2) hs) (by decide) (by decide) hs hpl) fun σ H Q ⟨S, G, si, h⟩ => ?_, he.k⟩
  refine (step si h).mono fun y H1 ⟨ra, S1, G1, si1, _, da, h1⟩ => ?_
  cases el : look S1 ra with
  | none => rw [el] at h1; exact h1.elim
  | some d =>
    rw [el] at h1
    simp only at h1
    cases et : tyD d with
    | none => rw [et] at h1; exact h1.elim
    | some t =>
      rw [et] at h1
      simp only at h1
      have hk := kit_is (K := X.K) et hT
      refine ⟨y, .ty T, .type t, .type T, isTy t T, rfl, .ty T, tyX_view he.k si1.le (da.view si1 el) et, hk, ?_⟩
      have q := (VP.fin si1 h1).rep si1.le (.bl _)
      rw [List.any_cons, List.any_nil, Bool.or_false] at q
      exact q
/-- isinstance(e, (T1, T2)) -/
theorem E_isi2 {e : Expr} {T1 T2 : String} {x1 x2 : Str} {kk : Nat} {p p1 p2 pt pos : Pos} (hm : X.mg "isinstance" = none) (hm1 : X.mg x1 = none) (hm2 : X.mg x2 = none) (he : E X z W e fa) (hT1 : okTy T1 = true := by decide) (hT2 : okTy T2 = true := by decide)
    (hv1 : bootBuiltins x1 = some (.type T1) := by rfl) (hv2 : bootBuiltins x2 = some (.type T2) := by rfl) (hg : Gl X "isinstance" := by rfl) (hg1 : Gl X x1 := by rfl) (hg2 : Gl X x2 := by rfl)
    (hn1 : x1 ≠ "__name__" := by decide) (hdb1 : (x1 == ("__debug__" : Str)) = false := by decide) (hn2 : x2 ≠ "__name__" := by decide) (hdb2 : (x2 == ("__debug__" : Str)) = false := by decide)
    (hs : starEach [e, .Tuple [.Name x1 p1, .Name x2 p2] kk pt] X.env = (false, eval e X.env) :: starEach [.Tuple [.Name x1 p1, .Name x2 p2] kk pt] X.env := by rfl)
    (hs2 : starEach [.Tuple [.Name x1 p1, .Name x2 p2] kk pt] X.env = (false, eval (.Tuple [.Name x1 p1, .Name x2 p2] kk pt) X.env) :: starEach [] X.env := by rfl)
    (hs3 : starEach [.Name x1 p1, .Name x2 p2] X.env = (false, eval (.Name x1 p1) X.env) :: starEach [.Name x2 p2] X.env := by rfl) (hs4 : starEach [.Name x2 p2] X.env = (false, eval (.Name x2 p2) X.env) :: starEach [] X.env := by rfl)
    (hpl : (backTo pos (starEach [.Tuple [.Name x1 p1, .Name x2 p2] kk pt] X.env)).any (·.1) = false := by rfl) :
    E X z W (.Call (.Name "isinstance" p) [e, .Tuple [.Name x1 p1, .Name x2 p2] kk pt] [] pos) (sIsi [T1, T2] fa) := by
  refine ⟨PE.le (pe_callB call_isiT hg hm boot_isinstance (pa_cons he.pe (pa_cons (pe_tup (pa_cons (pe_bltn hg1 hm1 hv1 (v := .ty T1) rfl hn1 hdb1) (pa_cons (pe_bltn hg2 hm2 hv2 (v := .ty T2) rfl hn2 hdb2) pa_nil hs4) hs3)) pa_nil hs2) hs) (by decide) (by decide) hs hpl) fun σ H Q ⟨S, G, si, h⟩ => ?_, he.k⟩
  refine (step si h).mono fun y H1 ⟨ra, S1, G1, si1, _, da, h1⟩ => ?_
  cases el : look S1 ra with
  | none => rw [el] at h1; exact h1.elim
  | some d =>
    rw [el] at h1
    simp only at h1
    cases et : tyD d with
    | none => rw [et] at h1; exact h1.elim
    | some t =>
      rw [et] at h1
      simp only at h1
      refine ⟨by show (2 : Nat) ≤ sizeLine; rw [sizeLine_eq]; decide, fun tp hp => ?_⟩
      have x0 : Ext H1 (upd H1 tp (.tup [.ty T1, .ty T2])) G1 G1 := .own si1.le hp
      have si2 := si1.ext x0
      refine ⟨y, tp, [.ty T1, .ty T2], .type t, [.type T1, .type T2], [T1, T2].any (isTy t), rfl, upd_same, .cons (.ty T1) (.cons (.ty T2) .nil), tyX_view he.k si2.le (da.view si2 el) et, kit_any (Ts := [T1, T2]) et (by simp [hT1, hT2]), ?_⟩
      exact h1 (.bl _) _ G1 si2 x0.go (.bl _)
/-! ### slices -/
def cutD (l : List D) (lo hi : Option Int) : List D := (l.drop (HT.sIx l.length 0 lo)).take (HT.sIx l.length l.length hi - HT.sIx l.length 0 lo)
theorem cut_rep {xs : List V} {l : List D} (r : RepL z G xs l) (lo hi : Option Int) : RepL z G (cutV xs lo hi) (cutD l lo hi) := by
  unfold cutV cutD
  rw [r.length]
  exact (r.drop _).take _
def gSl : D → Option Int → Option Int → Option R
  | .lst l, lo, hi => some (.f (.lst (cutD l lo hi)))
  | .tup l, lo, hi => if HT.sIx l.length 0 lo = 0 ∧ HT.sIx l.length l.length hi = l.length then none else some (.v (.tup (cutD l lo hi)))
  | _, _, _ => none
def rSlD (z : Dx) : V → Option Int → Option Int → Hp → VK → Prop := fun x lo hi H Q => ∃ G d r, LeH G H ∧ View z G H x d ∧ gSl d lo hi = some r ∧ VP z H G Q r
theorem sl_D (hk : z.K = X.K) : SlR X (rSlD z) := by
  intro pins s σ H x v vl vu lo hi sl Q I rx hs pl pu h
  obtain ⟨G, d, r, le, vw, e, q⟩ := h
  unfold gSl at e
  split at e
  · cases e
    obtain ⟨a, xs, rfl, ha, rl⟩ := vw.lst le
    exact sl_list pins s σ H _ v vl vu _ _ sl Q I rx hs pl pu ⟨a, xs, rfl, SqL.of ha, fun p hp => q.new le hp ⟨_, upd_same, cut_rep rl _ _⟩⟩
  · split at e
    · cases e
    · rename_i hw
      cases e
      obtain ⟨a, xs, rfl, ha, rl⟩ := vw.tup le
      rw [hk] at ha
      exact sl_tup pins s σ H _ v vl vu _ _ sl Q I rx hs pl pu ⟨a, xs, rfl, ha, by rw [rl.length]; exact hw, fun p hp => q.newV le hp (.tup (SqT.of upd_same) ((cut_rep rl _ _).mono (upd_le (le.none hp))))⟩
  · cases e
/-- a part of a slice -/
def partD (S : SS) (r : R) : Option Int := match look S r with
  | some (.int i) => some i
  | _ => none
def sSlLo (fa fl : M R) : M R := fun S => (fa S).bind fun ra S1 => (fl S1).bind fun rl S2 => match partD S2 rl, look S2 ra with
  | some lo, some d => lift (gSl d (some lo) none) S2
  | _, _ => .no
def sSlHi (fa fu : M R) : M R := fun S => (fa S).bind fun ra S1 => (fu S1).bind fun ru S2 => match partD S2 ru, look S2 ra with
  | some hi, some d => lift (gSl d none (some hi)) S2
  | _, _ => .no
def sSlLH (fa fl fu : M R) : M R := fun S => (fa S).bind fun ra S1 => (fl S1).bind fun rl S2 => match partD S2 rl with
  | none => .no
  | some lo => (fu S2).bind fun ru S3 => match partD S3 ru, look S3 ra with
    | some hi, some d => lift (gSl d (some lo) (some hi)) S3
    | _, _ => .no
theorem part_view {S : SS} {y : V} {r : R} {i : Int} (si : SI z S σ H G) (dn : DenS z σ G y r) (e : partD S r = some i) : y = .int i := by
  unfold partD at e
  split at e
  · rename_i j el
    cases e
    exact (dn.view si el).int
  · cases e
theorem sl_fin {S1 : SS} {G1 H1 : Hp} {Q : VK} {x : V} {ra : R} {d : D} {lo hi : Option Int} (si1 : SI z S1 σ H1 G1) (dn : DenS z σ G1 x ra) (el : look S1 ra = some d) (h : Post z W S1 G1 H1 σ Q (lift (gSl d lo hi) S1)) : rSlD z x lo hi H1 Q := by
  cases e : gSl d lo hi with
  | none => rw [e] at h; exact h.elim
  | some r => rw [e] at h; exact ⟨G1, d, r, si1.le, dn.view si1 el, e, VP.fin si1 h⟩
theorem E_slLo {e l : Expr} {p2 : Pos} {fl : M R} (ha : E X z W e fa) (hl : E X z W l fl) : E X z W (.Subscript e (.Slice (some l) none none p2) pos) (sSlLo fa fl) := by
  refine ⟨PE.le (pe_slice (sl_D ha.k) ha.pe (po_some hl.pe) po_none) fun σ H Q ⟨S, G, si, h⟩ => ?_, ha.k⟩
  refine (step si h).mono fun x H1 ⟨ra, S1, G1, si1, _, da, h1⟩ => (step si1 h1).mono fun y H2 ⟨rl, S2, G2, si2, g2, dl, h2⟩ => ?_
  cases ep : partD S2 rl with
  | none => rw [ep] at h2; exact h2.elim
  | some i =>
    cases el : look S2 ra with
    | none => rw [ep, el] at h2; exact h2.elim
    | some d =>
      rw [ep, el] at h2
      exact ⟨i, part_view si2 dl ep, sl_fin si2 (da.mono g2.ge) el h2⟩
theorem E_slHi {e u : Expr} {p2 : Pos} {fu : M R} (ha : E X z W e fa) (hu : E X z W u fu) : E X z W (.Subscript e (.Slice none (some u) none p2) pos) (sSlHi fa fu) := by
  refine ⟨PE.le (pe_slice (sl_D ha.k) ha.pe po_none (po_some hu.pe)) fun σ H Q ⟨S, G, si, h⟩ => ?_, ha.k⟩
  refine (step si h).mono fun x H1 ⟨ra, S1, G1, si1, _, da, h1⟩ => (step si1 h1).mono fun y H2 ⟨rl, S2, G2, si2, g2, dl, h2⟩ => ?_
  cases ep : partD S2 rl with
  | none => rw [ep] at h2; exact h2.elim
  | some i =>
    cases el : look S2 ra with
    | none => rw [ep, el] at h2; exact h2.elim
    | some d =>
      rw [ep, el] at h2
      exact ⟨i, part_view si2 dl ep, sl_fin si2 (da.mono g2.ge) el h2⟩
theorem E_slLH {e l u : Expr} {p2 : Pos} {fl fu : M R} (ha : E X z W e fa) (hl : E X z W l fl) (hu : E X z W u fu) : E X z W (.Subscript e (.Slice (some l) (some u) none p2) pos) (sSlLH fa fl fu) := by
  refine ⟨PE.le (pe_slice (sl_D ha.k) ha.pe (po_some hl.pe) (po_some hu.pe)) fun σ H Q ⟨S, G, si, h⟩ => ?_, ha.k⟩
  refine (step si h).mono fun x H1 ⟨ra, S1, G1, si1, _, da, h1⟩ => (step si1 h1).mono fun y H2 ⟨rl, S2, G2, si2, g2, dl, h2⟩ => ?_
  cases ep : partD S2 rl with
  | none => rw [ep] at h2; exact h2.elim
  | some i =>
    rw [ep] at h2
    simp only at h2
    refine ⟨i, part_view si2 dl ep, (step si2 h2).mono fun w H3 ⟨ru, S3, G3, si3, g3, du, h3⟩ => ?_⟩
    cases ep2 : partD S3 ru with
    | none => rw [ep2] at h3; exact h3.elim
    | some j =>
      cases el : look S3 ra with
      | none => rw [ep2, el] at h3; exact h3.elim
      | some d =>
        rw [ep2, el] at h3
        exact ⟨j, part_view si3 du ep2, sl_fin si3 ((da.mono g2.ge).mono g3.ge) el h3⟩
end
end L2.Dl
/-! sorted(xs, key=f): f any function whose calls keep a promise. -/
namespace L2.Dl
open PySem PySem.Spec PySem.Calls PyProof.Rows

section
variable {X : Cx} {pins : List (Addr × Obj)} {σ : L2.St} {H : Hp} {s : Shared}
/-- an untracked object of ours is tracked from now on -/
theorem Inv.track {a : Addr} {ob : HO} (I : Inv X pins σ H s) (f : FpOk X pins H a) (new : ObjOk X.prog X.w (upd H a ob) s.heap a ob) : Inv X pins σ (upd H a ob) s := by
  obtain ⟨f0, f1, f2, f3, f4, f5⟩ := f
  have ne : ∀ b u, H b = some u → b ≠ a := fun b u e z => by rw [z, f0] at e; cases e
  refine I.step (g' := s.gens) (d' := s.drawn) (t' := s.toks) (h' := s.heap) (ch := [a]) (fun b hb => ?_) (fun b o _ _ _ e _ => e) (fun b o _ _ _ e _ => ⟨o.slots, e⟩) (fun b o hc e n => ?_) (fun b o _ e => ⟨o, e⟩) (fun b xs e => ?_) (fun b o u e => ?_) (fun b ps e => ⟨#[], ?_⟩) (fun m hm => hm) (fun b u e => ?_) I.bare
  · have e : b = a := by simpa using hb
    subst e
    exact ⟨f3, f1, f4, f5⟩
  · have hb : b ≠ a := fun z => hc (by rw [z]; exact List.mem_cons_self)
    rw [upd_ne hb]; exact n
  · rw [upd_ne (ne b _ e)]; exact e
  · rw [upd_ne (ne b _ e)]; exact e
  · rw [upd_ne (ne b _ e), e]; simp
  · by_cases hb : b = a
    · subst hb; rw [upd_same] at e; cases e; exact new
    · rw [upd_ne hb] at e
      refine (I.hok b u e).stay (fun c v hc q => q) (fun c q => ?_) fun c xs q => ?_
      · rw [upd_ne (ne c _ q)]; exact q
      · rw [upd_ne (ne c _ q)]; exact q
end

/-- the items in the order of their keys -/
noncomputable def sortK (l : List D) (ds : List PyData) : List D := ((l.zip ds).mergeSort (PySem.W.dataLe false Prod.snd)).map Prod.fst
theorem each_fst {R : Value → D → Prop} : ∀ {us : List Value} {bs : List (D × PyData)}, PySem.W.EachIs (fun v b => R v b.1) us bs → PySem.W.EachIs R us (bs.map Prod.fst)
  | _, _, .nil => .nil
  | _, _, .cons a t => .cons a (each_fst t)
theorem each_zip {R : Value → D → Prop} : ∀ {us : List Value} {l : List D} {ds : List PyData}, PySem.W.EachIs R us l → ds.length = l.length → PySem.W.EachIs (fun v b => R v b.1) us (l.zip ds)
  | _, _, [], .nil, _ => .nil
  | _, _, _ :: _, .nil, h => by simp at h
  | _, _, [], .cons _ _, h => by simp at h
  | _, _, d :: ds, .cons a t, h => .cons a (each_zip t (by simpa using h))
theorem zip_snd : ∀ {l : List D} {ds : List PyData}, ds.length = l.length → (l.zip ds).map Prod.snd = ds
  | [], [], _ => rfl
  | [], _ :: _, h => by simp at h
  | _ :: _, [], h => by simp at h
  | a :: l, d :: ds, h => by rw [List.zip_cons_cons, List.map_cons, zip_snd (by simpa using h)]
theorem DpAll.len {K : PySem.W.Frag} {H : Hp} : ∀ {vs : List V} {ds : List PyData}, DpAll K H vs ds → vs.length = ds.length
  | _, _, .nil => rfl
  | _, _, .cons _ t => congrArg (· + 1) (DpAll.len t)
theorem reads_each {h : Heap} : ∀ {vs : List Value} {ds : List PyData} {as : List Addr}, ReadsAll h vs ds as → PySem.W.EachIs (fun v d => ∃ as, Reads h v d as) vs ds
  | _, _, _, .nil => .nil
  | _, _, _, .cons a t => .cons ⟨_, a⟩ (reads_each t)

section
variable {X : Cx} {z : Dx} {G : Hp} {pins : List (Addr × Obj)} {σ : L2.St} {H : Hp} {s : Shared}
theorem sortK_run (I : Inv X pins σ H s) (hu : X.A.units + 70 < cLine) {l0 : Addr} {us : List Value} {l : List D} {f : Value} {Q : VK} (hl : s.heap.IsList l0 us.toArray) (hz : us.length ≤ sizeLine) (e : PySem.W.EachIs (StandsFor z G) us l)
    (ha1 : argsOk "sorted" ⟨[.ref l0], [(Str.ofString "key", f)]⟩) (ha2 : ∀ x, argsOk "list.sort" ⟨[.ref x], [(Str.ofString "key", f)]⟩) (ht : ∀ x, Builtin.«list.sort» ⟨[.ref x], [(Str.ofString "key", f)]⟩ = ksk_tree x f false)
    (P : Nat → Hp → List V → Prop) (p0 : P 0 H [])
    (turn : ∀ (i : Nat) (u : Value) (H1 : Hp) (ks : List V) (s1 : Shared) (pins1 : List (Addr × Obj)), us[i]? = some u → P i H1 ks → (∀ p ∈ pins, p ∈ pins1) → Inv X pins1 σ H1 s1 →
      wpAny (model X.prog X.w) X.A.in1.in1 (call f [u]) (fun k s2 => ∃ v H2, Inv X pins1 σ H2 s2 ∧ RelV v k ∧ P (i + 1) H2 (ks ++ [v])) (fun _ _ => False) s1)
    (fin : ∀ H1 ks, P us.length H1 ks → ∃ ds, DpAll X.K H1 ks ds ∧ ks.length = us.length ∧ okSort ds = true ∧ ∀ p xs, H1 p = none → RepL z G xs (sortK l ds) → Q (.ref p) (upd H1 p (.lst xs))) :
    wpAny (model X.prog X.w) X.A (call (.builtin "sorted") [.ref l0] [(Str.ofString "key", f)]) (EP X pins σ Q) X.xe s := by
  refine PySem.W.sorted_of_sort hl hz ha1 ha2 fun E' => ?_
  rw [ht]
  have ho := PySem.W.copyHeap_at s.heap us
  -- the list that is sorted, the store of its keys
  have hA : s.heap.objs.size + 1 < (PySem.W.copyHeap s.heap us).objs.size := Heap.lt_size ho
  obtain ⟨e1, ho1⟩ : ∃ e1, ((PySem.W.copyHeap s.heap us).update (s.heap.objs.size + 1) (Obj.mapSeq fun _ => (#[] : Array Value))).get? (s.heap.objs.size + 1) = some (seqObj "list" #[] e1) := ⟨_, get?_update_seq ho fun _ => #[]⟩
  unfold ksk_tree
  refine wpAny_bind (listItems_at ho rfl ?_)
  refine wpAny_bind (listUpdate_at ho rfl ?_ (by rw [List.size_toArray]; exact hz) (Nat.zero_le _))
  refine wpAny_bind (seqEpoch_at ho1 rfl ?_)
  refine wpAny_bind (wpAny_newTuple ?_ (by show us.length ≤ _; exact hz))
  refine wpAny_bind (wpAny_newList ?_ (Nat.zero_le _))
  refine wpAny_holding ?_
  have kS_eq : (((PySem.W.copyHeap s.heap us).update (s.heap.objs.size + 1) (Obj.mapSeq fun _ => (#[] : Array Value))).push (seqObj "tuple" us.toArray 0)).objs.size = (PySem.W.copyHeap s.heap us).objs.size + 1 := by rw [size_push', Heap.size_update]
  generalize hkS : (((PySem.W.copyHeap s.heap us).update (s.heap.objs.size + 1) (Obj.mapSeq fun _ => (#[] : Array Value))).push (seqObj "tuple" us.toArray 0)).objs.size = kS
  rw [hkS] at kS_eq
  have hka : kS ≠ s.heap.objs.size + 1 := by omega
  show wpAny (model X.prog X.w) X.A.in1.in1 (ksk_rest (s.heap.objs.size + 1) f false us.toArray e1 (.ref kS)) _ E' { s with heap := PySem.W.sortingHeap (PySem.W.copyHeap s.heap us) (s.heap.objs.size + 1) us }
  have old : ∀ b o, s.heap.get? b = some o → (PySem.W.sortingHeap (PySem.W.copyHeap s.heap us) (s.heap.objs.size + 1) us).get? b = some o := fun b o q => PySem.W.sorting_copy_old q
  have I0 : Inv X pins σ H { s with heap := PySem.W.sortingHeap (PySem.W.copyHeap s.heap us) (s.heap.objs.size + 1) us } := I.kept (t' := s.toks) old
  have na0 : (PySem.W.sortingHeap (PySem.W.copyHeap s.heap us) (s.heap.objs.size + 1) us).get? (s.heap.objs.size + 1) = some (seqObj "list" #[] e1) := Heap.get?_push_of_some _ (Heap.get?_push_of_some _ ho1)
  have nk0 : (PySem.W.sortingHeap (PySem.W.copyHeap s.heap us) (s.heap.objs.size + 1) us).get? kS = some (seqObj "list" #[] 0) := by
    rw [← hkS]; exact Heap.get?_push_size _ rfl
  have szk : s.heap.objs.size ≤ kS := by omega
  have fpA : ∀ {H1 : Hp}, H1 (s.heap.objs.size + 1) = none → FpOk X pins H1 (s.heap.objs.size + 1) := fun h => I.fpOk (Nat.le_succ _) h
  have fpK : ∀ {H1 : Hp}, H1 kS = none → FpOk X pins H1 kS := fun h => I.fpOk szk h
  unfold ksk_rest
  refine wpAny_bind (wpAny_rule ?_)
  first
    | rw [List.forIn_toArray]
    | (rw [← Array.forIn_toList]; simp only [List.toList_toArray])
    | rw [← Array.forIn_toList]
  refine wpAny_bind (ksk_fold (fun i s1 => ∃ H1 ks kA ep, Inv X pins σ H1 s1 ∧ H1 (s.heap.objs.size + 1) = none ∧ H1 kS = none ∧ s1.heap.get? kS = some (seqObj "list" kA ep) ∧ s1.heap.get? (s.heap.objs.size + 1) = some (seqObj "list" #[] e1) ∧ Vals ks kA.toList ∧ ks.length = i ∧ P i H1 ks) us 0 _
    ⟨H, [], #[], 0, I0, I.hok.fresh (Nat.le_succ _), I.hok.fresh szk, nk0, na0, .nil, rfl, p0⟩ ?step ?done)
  case step =>
    rintro j u s1 hx ⟨H1, ks, kA, ep, I1, hA1, hK1, nk, na, rk, lk, p1⟩
    simp only [Nat.zero_add] at lk p1 ⊢
    have hj : j < us.length := (List.getElem?_eq_some_iff.mp hx).1
    have I2 := I1.pinned (fp := [s.heap.objs.size + 1, kS]) (fun b hb => by
      rcases List.mem_cons.mp hb with rfl | hb
      · exact fpA hA1
      · rcases List.mem_cons.mp hb with rfl | hb
        · exact fpK hK1
        · simp at hb) (fun b hb => by
      rcases List.mem_cons.mp hb with rfl | hb
      · exact ⟨_, na, fun v q => nomatch q⟩
      · rcases List.mem_cons.mp hb with rfl | hb
        · exact ⟨_, nk, fun v q => nomatch q⟩
        · simp at hb)
    refine wpAny_bind (wpAny_attempt (wpAny_mono (turn j u H1 ks s1 _ hx p1 (fun p hp => List.mem_append_left _ hp) I2) (fun v s2 he => ?_) fun _ _ hF => hF.elim))
    obtain ⟨w, H2, I3, rw', p2⟩ := he
    have pinA := I3.pin (s.heap.objs.size + 1, seqObj "list" #[] e1) (List.mem_append_right _ (List.mem_append_right _ (mem_pinsAt List.mem_cons_self na)))
    have pinK := I3.pin (kS, seqObj "list" kA ep) (List.mem_append_right _ (List.mem_append_right _ (mem_pinsAt (List.mem_cons_of_mem _ List.mem_cons_self) nk)))
    have I4 := I3.unpinned
    try dsimp only
    have nk2 := pinK.1
    have na2 := pinA.1
    have kz : kA.size ≤ us.length := by
      have q1 : ks.length = kA.toList.length := Vals.length rk
      have q2 : kA.toList.length = kA.size := Array.length_toList
      rw [← q2, ← q1, lk]
      first | exact Nat.le_of_lt hj | rfl
    have sb := Heap.SameBut.update s2.heap kS (Obj.mapSeq (·.push v))
    obtain ⟨c2, hc2⟩ : ∃ c2, (s2.heap.update kS (Obj.mapSeq (·.push v))).get? kS = some (seqObj "list" (kA.push v) c2) := ⟨_, get?_update_seq nk2 (·.push v)⟩
    refine wpAny_bind (listUpdate_at nk2 rfl ?_ (Nat.le_trans kz hz) (Nat.le_trans (Nat.le_of_eq (Array.size_push ..)) (Nat.succ_le_succ (Nat.le_trans kz hz))))
    refine wpAny_pure ⟨rfl, H2, ks ++ [w], kA.push v, c2, ?_, pinA.2.1, pinK.2.1, hc2, (sb.2 _ hka.symm).trans na2, ?_, by rw [List.length_append, lk]; rfl, p2⟩
    · exact I4.turnedL (t' := s2.toks) (ch := [kS]) (fun b o hb q => (sb.2 b (fun z => hb (by rw [z]; exact List.mem_cons_self))).trans q) fun b hb => by
        obtain rfl : b = kS := by simpa using hb
        exact fpK pinK.2.1
    · rw [Array.toList_push]; exact rk.append (.cons rw' .nil)
  case done =>
    rintro s1 ⟨H1, ks, kA, ep, I1, hA1, hK1, nk, na, rk, lk, p1⟩
    rw [Nat.zero_add] at p1 lk
    try dsimp only
    refine wpAny_bind (listItems_at nk rfl ?_)
    obtain ⟨ds, dp, _, hok, kfin⟩ := fin H1 ks p1
    obtain ⟨as, rd⟩ := Dp.readsAll I1 ds ks kA.toList dp rk
    have ksz : kA.size = us.length := by
      have q1 : ks.length = kA.toList.length := Vals.length rk
      have q2 : kA.toList.length = kA.size := Array.length_toList
      rw [← q2, ← q1, lk]
    have lds : ds.length = l.length := by rw [← DpAll.len dp, lk]; exact e.length
    -- all but the two objects
    have hidOld : ∀ b o, (hidT s1.heap fun b => if b = kS then some (.lst []) else none).get? b = some o → s1.heap.get? b = some o := fun b o q => of_hidT q |>.1
    have hidNo : (hidT s1.heap fun b => if b = kS then some (HO.lst []) else none).get? kS = none := by
      cases q : (hidT s1.heap fun b => if b = kS then some (HO.lst []) else none).get? kS with
      | none => rfl
      | some o => exact absurd (of_hidT q).2 (by simp)
    have hidGet : ∀ b o, b ≠ kS → s1.heap.get? b = some o → (hidT s1.heap fun b => if b = kS then some (HO.lst []) else none).get? b = some o := fun b o hb q => hidT_get q (by simp [hb])
    refine PySem.W.keyH_end (κ := PySem.W.dataKind s1.heap ds) (h₁ := hidT s1.heap fun b => if b = kS then some (HO.lst []) else none) (fun b o _ q => hidOld b o q) hidNo nk na hka
      (PySem.W.SortsAt.data (s := s1) (reads_each rd) (okSort_alike hok) (okSort_able hok) fun d hd => ?_) (by rw [ksz]) hz fun h3 tk3 c3 k3 n3 => ?_
    · have := okSort_depth hok hd
      show X.A.units + 1 + 1 + d.depth < cLine
      omega
    · refine ⟨rfl, ?_⟩
      have I2 : Inv X pins σ H1 { s1 with heap := h3, toks := tk3 } := I1.turnedL (t' := tk3) (ch := [s.heap.objs.size + 1, kS]) (fun b o hb q => k3 b o (fun z => hb (by rw [z]; exact List.mem_cons_self)) (hidGet b o (fun z => hb (by rw [z]; exact List.mem_cons_of_mem _ List.mem_cons_self)) q)) fun b hb => by
        rcases List.mem_cons.mp hb with rfl | hb
        · exact fpA hA1
        · obtain rfl : b = kS := by simpa using hb
          exact fpK hK1
      have hE : PySem.W.EachIs (StandsFor z G) (PySem.W.sortVals (PySem.W.dataKind s1.heap ds) false kA.toList us) (sortK l ds) := by
        have ko : PySem.W.KeyedOut false ds us (PySem.W.sortVals (PySem.W.dataKind s1.heap ds) false kA.toList us) := ⟨s1.heap, kA.toList, okSort_alike hok, rfl, reads_each rd⟩
        have q := PySem.W.keyedOut_each (bs := l.zip ds) (R := fun v b => StandsFor z G v b.1) Prod.snd (by rw [zip_snd lds]; exact ko) (each_zip e lds)
        exact each_fst q
      obtain ⟨xs, r1, r2⟩ := stands_back hE
      have hl3 : xs.length ≤ sizeLine := by rw [r1.length, PySem.W.sortVals_length false (by rw [Array.length_toList]; exact ksz)]; exact hz
      exact ⟨.ref (s.heap.objs.size + 1), upd H1 (s.heap.objs.size + 1) (.lst xs), Inv.track I2 (fpA hA1) ⟨hl3, _, c3, r1, n3⟩, rfl, kfin _ xs hA1 r2⟩
end
end L2.Dl
/-! sorted(xs, key=f): f a def of the text; key=lambda x: .. -/
namespace L2.Dl
open PySem PySem.Spec PyProof.Rows LamX NdefX

/-! ### keys by a def -/
def keysBy (Fn : List D → FR) : List D → Option (List D)
  | [] => some []
  | d :: l => match Fn [d], keysBy Fn l with
    | .ret k fr [], some ks => some (k :: ks)
    | _, _ => none
noncomputable def sortR (l ks : List D) : Option R := match toPyL ks with
  | some ds => if okSort ds = true then some (.f (.lst (sortK l ds))) else none
  | none => none
def lookLst (S : SS) (r : R) : Option (List D) := match look S r with
  | some (.lst l) => some l
  | _ => none
noncomputable def sortFk (Fn : List D → FR) (ra : R) (S1 : SS) : Res R := match lookLst S1 ra with
  | none => .no
  | some l => match keysBy Fn l with
    | none => .no
    | some ks => lift (sortR l ks) S1
noncomputable def sSortF (Fn : List D → FR) (fa : M R) : M R := fun S => (fa S).bind (sortFk Fn)
section
variable {X : Cx} {z : Dx} {W : WX} {S S1 : SS} {G G1 H H1 : Hp} {pins : List (Addr × Obj)} {σ : L2.St} {s : Shared}
theorem lookLst_eq {r : R} {l : List D} (h : lookLst S r = some l) : look S r = some (.lst l) := by
  unfold lookLst at h
  split at h
  · rename_i l' e; cases h; exact e
  · cases h
theorem keysBy_at {Fn : List D → FR} : ∀ {l ks : List D}, keysBy Fn l = some ks → ks.length = l.length ∧ ∀ (i : Nat) d, l[i]? = some d → ∃ k fr, ks[i]? = some k ∧ Fn [d] = .ret k fr []
  | [], _, e => by cases e; exact ⟨rfl, fun i d h => by simp at h⟩
  | d :: l, ks, e => by
    unfold keysBy at e
    split at e
    · rename_i k fr ks' e1 e2
      cases e
      obtain ⟨h1, h2⟩ := keysBy_at e2
      refine ⟨by simp [h1], fun i d' h => ?_⟩
      cases i with
      | zero => simp at h; subst h; exact ⟨k, fr, rfl, e1⟩
      | succ i => simpa using h2 i d' (by simpa using h)
    · cases e
/-- what is between the key calls -/
def KeyP (z : Dx) (W : WX) (S : SS) (σ : L2.St) (H0 G0 : Hp) (ks : List D) (R : Hp → Prop) (i : Nat) (H : Hp) (vs : List V) : Prop :=
  ∃ G, SI z S σ H G ∧ Go S S σ σ H0 H G0 G ∧ RepL z G vs (ks.take i) ∧ R H
theorem sort_fin {Q : VK} {l ks : List D} {n : Nat} {RR : Hp → Prop} (hk : z.K = X.K) (hn : n = ks.length) (h : Post z W S G H σ Q (lift (sortR l ks) S)) :
    ∀ H1 vs, KeyP z W S σ H G ks RR n H1 vs → ∃ ds, DpAll X.K H1 vs ds ∧ vs.length = n ∧ okSort ds = true ∧ ∀ p xs, H1 p = none → RepL z G xs (sortK l ds) → Q (.ref p) (upd H1 p (.lst xs)) := by
  intro H1 vs ⟨G1, si, g, rl, _⟩
  unfold sortR at h
  split at h
  · rename_i ds ep
    split at h
    · rename_i hok
      rw [List.take_of_length_le (Nat.le_of_eq hn.symm)] at rl
      refine ⟨ds, repL_Dp hk si.le _ _ _ rl ep, by rw [rl.length, hn], hok, fun p xs hp rx => ?_⟩
      have h : Post z W S G H σ Q (.ok (.f (.lst (sortK l ds))) S) := h
      have x0 : Ext H1 (upd H1 p (.lst xs)) G1 G1 := .own si.le hp
      have hp0 : H p = none := g.th p hp
      refine h (.ref p) _ G1 (si.ext x0) (g.trans x0.go) ⟨p, rfl, hp0, si.le.none hp, fun o => ?_, xs, upd_same, rx.mono g.ge⟩
      obtain ⟨_, u, hu⟩ := si.ownFree o
      rw [hp] at hu; cases hu
    · exact h.elim
  · exact h.elim
/-- a call that may have laid new things alone -/
theorem key_after {H2 G2 : Hp} (si : SI z S σ H1 G1) (ar : Around' [] H1 H2 G1 G2) : SI z S σ H2 G2 ∧ Go S S σ σ H1 H2 G1 G2 := by
  have h := around_si (io := []) (iod := []) si ar .nil (by simp) .nil
  have e : setIO S [] [] = S := by unfold setIO; rfl
  rw [e] at h
  exact h
/-- a fresh result is shared -/
theorem key_val {H2 G2 : Hp} {v : V} {d : D} {fr : Bool} (si : SI z S σ H1 G1) (ar : Around' [] H1 H2 G1 G2) (dn : DenR z H1 H2 G2 v d fr) : ∃ G3, SI z S σ H2 G3 ∧ Go S S σ σ H1 H2 G1 G3 ∧ Rep z G3 v d := by
  obtain ⟨s2, g2⟩ := key_after si ar
  cases fr with
  | false => exact ⟨G2, s2, g2, dn⟩
  | true =>
    obtain ⟨p, rfl, e1, e2, e3⟩ := dn
    have no : ¬ Owns S σ p := fun o => by
      obtain ⟨_, u, hu⟩ := si.ownFree o
      rw [e1] at hu; cases hu
    obtain ⟨G3, s3, g3, _, r3⟩ := settle (r := .f d) s2 g2 ⟨p, rfl, e1, e2, no, e3⟩
    exact ⟨G3, s3, g3, r3⟩
/-- a key call of a def -/
theorem keyF_turn {k : Nat} {f : Addr} {fd : FuncData} {x : Str} {Fn : List D → FR} {cl : Brings} (F : FnOk X.prog X.w X.K X.mg X.base (L2.CX X.prog X.w) k f fd [x] (spD cl X.K [false] Fn)) (hcl : z.cl = cl) (hk : z.K = X.K) (hr : Room (k + 2) X.A) (hb : Binds X.K fd [x] []) (H0 G0 : Hp) {l ks : List D} (hks : keysBy Fn l = some ks)
    {us : List Value} {xs : List V} (rv : Vals xs us) (rl : RepL z G0 xs l) :
    ∀ (i : Nat) (u : Value) (H1 : Hp) (vs : List V) (s1 : Shared) (pins1 : List (Addr × Obj)), us[i]? = some u → KeyP z W S σ H0 G0 ks (fun _ => True) i H1 vs → Inv X pins1 σ H1 s1 →
      wpAny (model X.prog X.w) X.A.in1.in1 (call (.ref f) [u]) (fun k s2 => ∃ v H2, Inv X pins1 σ H2 s2 ∧ RelV v k ∧ KeyP z W S σ H0 G0 ks (fun _ => True) (i + 1) H2 (vs ++ [v])) (fun _ _ => False) s1 := by
  intro i u H1 vs s1 pins1 hu ⟨G1, si, g, rk, _⟩ I1
  subst hcl
  -- the item
  obtain ⟨x0, hx0, rx0⟩ : ∃ x0, xs[i]? = some x0 ∧ RelV x0 u := by
    have hi := (List.getElem?_eq_some_iff.mp hu).1
    have hl := rv.length
    obtain ⟨u', e1, e2⟩ := rv.get (i := i) (x := xs[i]'(by omega)) (List.getElem?_eq_getElem (by omega))
    rw [hu] at e1; cases e1
    exact ⟨_, List.getElem?_eq_getElem (by omega), e2⟩
  obtain ⟨d, hd, rd⟩ := rl.got hx0
  obtain ⟨_, hat⟩ := keysBy_at hks
  obtain ⟨kd, fr, hkd, hFn⟩ := hat i d hd
  refine wpAny_call (codeAny_mono (F.run X.A.in1.in1 X.stack s1 H1 ⟨[u], []⟩ [u] [x0] (fun v H2 => ∃ G2, Around' [] H1 H2 G1 G2 ∧ DenR z H1 H2 G2 v kd fr) (fun _ _ _ => False) (hr.in1.in1) I1.env0.in1.in1 ?_ (.cons rx0 .nil) ?_) fun r s' hq => ?_)
  · have b := hb s1 [u] I1.kIn rfl
    rw [List.append_nil] at b
    exact b
  · refine ⟨G1, [d], si.le, si.tab, .shr (Rep.to (z := z) (z' := ⟨X.K, z.cl, [], fun _ => none⟩) hk rfl (rd.mono g.ge)) .nil, List.nodup_nil, ?_⟩
    rw [hFn]
    intro v H2 G2 ar _ dn
    refine ⟨G2, ar, ?_⟩
    cases fr with
    | false => exact Rep.to (z := ⟨X.K, z.cl, [], fun _ => none⟩) (z' := z) hk.symm rfl dn
    | true =>
      obtain ⟨p, q1, q2, q3, q4⟩ := dn
      exact ⟨p, q1, q2, q3, OwnAt.to (z := ⟨X.K, z.cl, [], fun _ => none⟩) (z' := z) hk.symm rfl q4⟩
  · cases r with
    | error e =>
      obtain ⟨_, _, _, _, _, _, _, _, _, _, _, _, zz⟩ := hq
      exact zz.elim
    | ok fl =>
      cases fl with
      | ret w =>
        obtain ⟨v, H2, I2, rv2, G2, ar, dn⟩ := I1.after hq
        obtain ⟨G3, s3, g3, r3⟩ := key_val si ar dn
        refine ⟨v, H2, I2, rv2, G3, s3, g.trans g3, ?_, trivial⟩
        have et : ks.take (i + 1) = ks.take i ++ [kd] := by rw [List.take_add_one, hkd]; rfl
        rw [et]
        exact (rk.mono g3.ge).append (.cons r3 .nil)
      | next => exact False.elim hq
      | brk => exact False.elim hq
      | cont => exact False.elim hq
theorem E_sortF {k : Nat} {f : Addr} {fd : FuncData} {x y : Str} {a : Expr} {fa : M R} {Fn : List D → FR} {cl : Brings} {nm : Option Str} {p fp kpos pos : Pos} (F : FnOk X.prog X.w X.K X.mg X.base (L2.CX X.prog X.w) k f fd [x] (spD cl X.K [false] Fn)) (hcl : z.cl = cl) (hr : Room (k + 2) X.A) (hb : Binds X.K fd [x] []) (hmf : X.mg y = some (.ref f))
    (hm : X.mg "sorted" = none) (ha : E X z W a fa) (hg : Gl X "sorted" := by rfl) (hgf : Gl X y := by rfl) (hdb : (y == ("__debug__" : Str)) = false := by decide)
    (hs : starEach [a] X.env = (false, eval a X.env) :: starEach [] X.env := by rfl)
    (he : backTo pos (starEach [a] X.env) = (false, eval a X.env) :: backTo pos (starEach [] X.env) := by rfl) (hpl : (backTo pos (starEach [a] X.env)).any (·.1) = false := by rfl)
    (hall : (backToKw pos (keywordEach [⟨nm, .Name y fp, kpos⟩] X.env)).all (·.1.isSome) = true := by rfl) (hnone : (backToKw pos (keywordEach [⟨nm, .Name y fp, kpos⟩] X.env)).any (·.1.isNone) = false := by rfl)
    (hks : (backToKw pos (keywordEach [⟨nm, .Name y fp, kpos⟩] X.env)).filterMap (·.1) = [Str.ofString "key"] := by rfl) :
    E X z W (.Call (.Name "sorted" p) [a] [⟨nm, .Name y fp, kpos⟩] pos) (sSortF Fn fa) := by
  refine ⟨⟨fun pins s σ H Q I ⟨S, G, si, h⟩ => ?_⟩, ha.k⟩
  refine wpAny_Call_Name_kw (ld_blt I hg hm boot_sorted ?_ (by decide) (by decide))
  refine PyProof.Rows.callWith_kw (thn ((pa_cons ha.pe pa_nil hs).run pos pins s σ H (fun vs H1 => ∃ x, vs = [x] ∧ ∃ ra S1 G1, SI z S1 σ H1 G1 ∧ Go S S1 σ σ H H1 G G1 ∧ DenS z σ G1 x ra ∧ Post z W S1 G1 H1 σ Q (sortFk Fn ra S1)) I ((step si h).mono fun x H1 q => ⟨x, rfl, q⟩)) fun us s1 ⟨vs, H1, I1, r1, q1⟩ => ?_) he hpl hall hnone
  obtain ⟨x0, rfl, ra, S1, G1, si1, g1, dn, h1⟩ := q1
  unfold sortFk at h1
  refine thn ((pk_cons (pe_glob hgf hmf (v := .ref f) rfl hdb) pk_nil).run pos pins s1 σ H1 (fun zs H2 => zs = [.ref f] ∧ H2 = H1) I1 ⟨rfl, rfl⟩) fun ws s2 ⟨zs, H2, I2, r2, e1, e2⟩ => ?_
  subst e1 e2
  rw [hks]
  obtain ⟨w0, rfl, e3⟩ := vals1 r2
  obtain rfl : w0 = Value.ref f := e3
  cases el : lookLst S1 ra with
  | none => rw [el] at h1; exact h1.elim
  | some l =>
    rw [el] at h1
    simp only at h1
    cases ek : keysBy Fn l with
    | none => rw [ek] at h1; exact h1.elim
    | some ks =>
      rw [ek] at h1
      simp only at h1
      obtain ⟨a0, xs, rfl, ha0, rl⟩ := (dn.view si1 (lookLst_eq el)).lst si1.le
      obtain ⟨its, rv, pl, hz⟩ := I2.list (SqL.of (K := X.K) ha0)
      obtain rfl := Vals.ref1 r1
      have hu := hr.un
      have hkl : its.length = ks.length := by rw [← rv.length, rl.length, (keysBy_at ek).1]
      exact sortK_run I2 (by omega) pl.isList (by rw [← rv.length]; exact hz) (stands_all rv rl) (PyProof.Rows.ksk_s1 _ _) (fun _ => PyProof.Rows.ksk_l1 _ _) (fun a => PyProof.Rows.ksk_t1 f a) (KeyP z W S1 σ H2 G1 ks (fun _ => True)) ⟨G1, si1, .refl, by rw [List.take_zero]; exact .nil, trivial⟩
        (fun i u H3 vs s3 pins3 hi hp _ I3 => keyF_turn F hcl ha.k hr hb H2 G1 ek rv rl i u H3 vs s3 pins3 hi hp I3) (sort_fin ha.k hkl h1)
end
end L2.Dl
/-! sorted(xs, key=lambda x: ..). -/
namespace L2.Dl
open PySem PySem.Spec PyProof.Rows LamX NdefX

section
variable {X : Cx} {pins : List (Addr × Obj)} {σ : L2.St} {H : Hp} {s : Shared}
/-- what making a lambda does to the tracked things: nothing, or the table grows by a new code object -/
def Made (H : Hp) (P : Addr) (q : Str) (H1 : Hp) : Prop := H1 = H ∨ ∃ ps ps' c', H P = some (.tbl ps) ∧ H c' = none ∧ H1 = upd (upd H P (.tbl ps')) c' (CodeO c' q)
theorem lam_makeX {c P : Addr} {params : Arguments} {body : Expr} {scope : Scope} {pos : Pos} {E : Value → Shared → Prop} {Q : Value → Shared → Prop} (I : Inv X pins σ H s) (TB : TabB X.base X.mg c P) (hcode : X.env.code = .ref c) (hT : TabS H P (X.env.qual ++ "<lambda>"))
    (hdef : defaultsOf params X.env = ([], [])) (hfree : ∀ y ∈ scope.names, y.2 = .free → ∃ c, X.env.cells.lookup y.1 = some c)
    (h : ∀ (f c' : Addr) (pm ctv : Value) (H1 : Hp) (s' : Shared), Inv X pins σ H1 s' → Made H P (X.env.qual ++ "<lambda>") H1 → TabS H1 P (X.env.qual ++ "<lambda>") →
      s'.heap.get? f = some (PySem.W.kla_obj "<lambda>" (X.env.qual ++ "<lambda>") params body scope (cloFrom X.env.cells scope.names []) pm c' ctv) → H1 f = none → s.heap.objs.size ≤ f → H1 c' = some (CodeO c' (X.env.qual ++ "<lambda>")) → Q (.ref f) s') :
    wpAny (model X.prog X.w) X.A (eval (.Lambda params body scope pos) X.env) Q E s := by
  obtain ⟨ps, hP, ht, ha⟩ := id hT
  refine PySem.W.kla_eval hdef ?_
  have bP : s.heap.BuiltinsAt X.mg P := TB.bm.keeps I.bk
  have hP' : s.heap.get? P = some { cls := .none, data := .fields ps } := I.hok P _ hP
  cases hc : codeAmong pos ps.toList with
  | some cv =>
    obtain ⟨c', rfl, hco⟩ := ha pos cv hc
    refine PySem.W.kla_makeFunctionHit (mg := X.mg) (c := c) (P := P) (ps := ps) (closure_ok hfree) I.ok.glob (I.mod.glob.keeps I.bk) hcode (TB.code.keeps I.bk) hP' ht hc bP fun ctv h' tk hx hsz => ?_
    exact h h'.objs.size c' ((X.mg "__name__").getD .none) ctv H _ (I.kept fun b o e => Heap.get?_push_of_some _ (hx b o e)) (.inl rfl) hT (Heap.get?_push_size _ rfl) (I.hok.fresh hsz) hsz hco
  | none =>
    refine PySem.W.kla_makeFunction (mg := X.mg) (c := c) (P := P) (ps := ps) (closure_ok hfree) I.ok.glob (I.mod.glob.keeps I.bk) hcode (TB.code.keeps I.bk) hP' ht hc TB.gP bP fun c' ctv h' tk hx hge hlt hrec htb => ?_
    obtain ⟨c2, oc, vs, t, e2, hoc, hd, hv⟩ := hrec
    cases e2
    have hsz : s.heap.objs.size ≤ h'.objs.size := Nat.le_trans hge (Nat.le_of_lt hlt)
    have nC : H c' = none := I.hok.fresh hge
    have I1 := inv_table (t' := tk) (more := #[rawInt pos.line, rawInt pos.col, .ref c']) (h' := h'.push (PySem.W.kla_obj "<lambda>" (X.env.qual ++ "<lambda>") params body scope (cloFrom X.env.cells scope.names []) ((X.mg "__name__").getD .none) c' ctv)) I hP
      (fun b o hb e => Heap.get?_push_of_some _ (hx b o hb e)) (Heap.get?_push_of_some _ htb) hge ⟨oc, vs, t, Heap.get?_push_of_some _ hoc, hd, hv⟩
    have eL : (ps ++ #[rawInt pos.line, rawInt pos.col, .ref c']).toList = ps.toList ++ [rawInt pos.line, rawInt pos.col, .ref c'] := by simp
    refine h h'.objs.size c' ((X.mg "__name__").getD .none) ctv _ _ I1 (.inr ⟨ps, _, c', hP, nC, rfl⟩) ?_ (Heap.get?_push_size _ rfl) ?_ hsz upd_same
    · refine ⟨_, by rw [upd_ne (ne_of_none hP nC), upd_same], by rw [eL]; exact PySem.TriplesOk_snoc _ _ _ _ ht, fun p' cv hcv => ?_⟩
      rw [eL] at hcv
      rcases among_app _ ht hcv with q | q
      · obtain ⟨c0, e1, e2⟩ := ha p' cv q
        refine ⟨c0, e1, ?_⟩
        have n1 : c0 ≠ c' := ne_of_none e2 nC
        have n2 : c0 ≠ P := fun z => by
          rw [z, hP] at e2
          exact codeO_ne ps (Option.some.inj e2).symm
        rw [upd_ne n1, upd_ne n2]; exact e2
      · exact ⟨c', q, upd_same⟩
    · have n1 : h'.objs.size ≠ c' := Nat.ne_of_gt hlt
      have n2 : h'.objs.size ≠ P := Nat.ne_of_gt (Nat.lt_of_lt_of_le (Heap.lt_size hP') hsz)
      rw [upd_ne n1, upd_ne n2]
      exact I.hok.fresh hsz
end
section
variable {X : Cx} {z : Dx} {W : WX} {S S1 : SS} {G G1 H H1 : Hp} {pins : List (Addr × Obj)} {σ : L2.St} {s : Shared}
theorem tab_at {p : Addr × Str} (si : SI z S σ H G) (hp : p ∈ z.cl.T) : TabS H p.1 p.2 := by
  obtain ⟨t, e⟩ := si.tab p hp
  rcases si.le p.1 _ e with q | ⟨k, _⟩ | ⟨q, t', e2, h⟩
  · exact q.2.elim
  · exact k.elim
  · cases e2
    exact h

theorem made_si {p : Addr × Str} {H1 : Hp} (si : SI z S σ H G) (hp : p ∈ z.cl.T) (m : Made H p.1 p.2 H1) (t : TabS H1 p.1 p.2) : SI z S σ H1 G ∧ Go S S σ σ H H1 G G := by
  obtain ⟨tk, eG⟩ := si.tab p hp
  rcases m with rfl | ⟨ps, ps', c', hP, hc, rfl⟩
  · exact ⟨si, .refl⟩
  · have nPc : p.1 ≠ c' := ne_of_none hP hc
    have at_ : ∀ b, b ≠ p.1 → b ≠ c' → upd (upd H p.1 (.tbl ps')) c' (CodeO c' p.2) b = H b := fun b h1 h2 => by rw [upd_ne h2, upd_ne h1]
    have keep : ∀ b o, H b = some o → (∀ q, o ≠ .tbl q) → upd (upd H p.1 (.tbl ps')) c' (CodeO c' p.2) b = some o := fun b o e n => by
      rw [at_ b (fun z => by rw [z, hP] at e; exact n ps (Option.some.inj e).symm) (ne_of_none e hc)]; exact e
    have atP : upd (upd H p.1 (.tbl ps')) c' (CodeO c' p.2) p.1 = some (.tbl ps') := by rw [upd_ne nPc, upd_same]
    have none_ : ∀ b, upd (upd H p.1 (.tbl ps')) c' (CodeO c' p.2) b = none → H b = none := fun b e => NdefX.upd_none (NdefX.upd_none e)
    refine ⟨⟨si.len, fun a u e => ?_, si.shr, fun i t d e => ?_, si.sep, fun a e => si.dom a (none_ a e), si.tab⟩, .refl _, fun a o e n => ?_, fun _ h => .inl h, fun _ _ h => .inl h, fun a e => none_ a e⟩
    · rcases si.le a u e with q | ⟨k, o, q⟩ | ⟨q', t', e2, q⟩
      · exact .inl ⟨keep a u q.1 (fun ps z => by subst z; exact q.2), q.2⟩
      · exact .inr (.inl ⟨k, o, keep a _ q (fun ps z => nomatch z)⟩)
      · refine .inr (.inr ⟨q', t', e2, ?_⟩)
        by_cases ha : a = p.1
        · subst ha
          rw [eG] at e
          cases e
          cases e2
          exact t
        · obtain ⟨qs, g1, g2, g3⟩ := q
          refine ⟨qs, ?_, g2, fun pos cv hcv => ?_⟩
          · rw [at_ a ha (ne_of_none g1 hc)]; exact g1
          · obtain ⟨c0, g4, g5⟩ := g3 pos cv hcv
            exact ⟨c0, g4, keep c0 _ g5 codeO_ne⟩
    · obtain ⟨a, q, ga, ow, t1, t2⟩ := si.own i t d e
      exact ⟨a, q, ga, ow.mono (.refl _) fun o ho => keep a o ho (fun ps z => by subst z; exact own_not_tbl ow ho), t1, t2⟩
    · by_cases ha : a = p.1
      · subst ha
        rw [hP] at e; cases e
        exact .inr (.inr ⟨⟨_, eG⟩, ps, ps', rfl, atP⟩)
      · refine .inl ?_
        rw [at_ a ha (ne_of_none e hc)]; exact e

/-! ### the keys by the lambda -/
def capsD (S : SS) : List Nat → Option SS
  | [] => some []
  | j :: js => match S[j]?, capsD S js with
    | some (.shr d), some r => some (.shr d :: r)
    | some .un, some r => some (.un :: r)
    | _, _ => none
def lamS (n : Nat) (cs : SS) (d : D) : SS := .shr d :: (cs ++ List.replicate (n - 1 - cs.length) .un)
def keyL (n : Nat) (fb : M R) (cs : SS) (d : D) : Option D := match fb (lamS n cs d) with
  | .ok r S' => match valR S' r with
    | some (k, _) => some k
    | none => none
  | _ => none
def keysL (n : Nat) (fb : M R) (cs : SS) : List D → Option (List D)
  | [] => some []
  | d :: l => match keyL n fb cs d, keysL n fb cs l with
    | some k, some ks => some (k :: ks)
    | _, _ => none
theorem keysL_at {n : Nat} {fb : M R} {cs : SS} : ∀ {l ks : List D}, keysL n fb cs l = some ks → ks.length = l.length ∧ ∀ (i : Nat) d, l[i]? = some d → ∃ k, ks[i]? = some k ∧ keyL n fb cs d = some k
  | [], _, e => by cases e; exact ⟨rfl, fun i d h => by simp at h⟩
  | d :: l, ks, e => by
    unfold keysL at e
    split at e
    · rename_i k ks' e1 e2
      cases e
      obtain ⟨h1, h2⟩ := keysL_at e2
      refine ⟨by simp [h1], fun i d' h => ?_⟩
      cases i with
      | zero => simp at h; subst h; exact ⟨k, rfl, e1⟩
      | succ i => simpa using h2 i d' (by simpa using h)
    · cases e
theorem capsD_at : ∀ {js : List Nat} {cs : SS}, capsD S js = some cs → cs.length = js.length ∧ ∀ (i : Nat) w, cs[i]? = some w → (w = .un ∨ ∃ d, w = .shr d) ∧ ∃ j, js[i]? = some j ∧ S[j]? = some w
  | [], _, e => by cases e; exact ⟨rfl, fun i w h => by simp at h⟩
  | j :: js, cs, e => by
    unfold capsD at e
    split at e
    · rename_i d r e1 e2
      cases e
      obtain ⟨h1, h2⟩ := capsD_at e2
      refine ⟨by simp [h1], fun i w h => ?_⟩
      cases i with
      | zero => simp at h; subst h; exact ⟨.inr ⟨d, rfl⟩, j, rfl, e1⟩
      | succ i => simpa using h2 i w (by simpa using h)
    · rename_i r e1 e2
      cases e
      obtain ⟨h1, h2⟩ := capsD_at e2
      refine ⟨by simp [h1], fun i w h => ?_⟩
      cases i with
      | zero => simp at h; subst h; exact ⟨.inl rfl, j, rfl, e1⟩
      | succ i => simpa using h2 i w (by simpa using h)
    · cases e
noncomputable def sortLk (n : Nat) (js : List Nat) (fb : M R) (ra : R) (S1 : SS) : Res R := match lookLst S1 ra, capsD S1 js with
  | some l, some cs => match keysL n fb cs l with
    | none => .no
    | some ks => lift (sortR l ks) S1
  | _, _ => .no
noncomputable def sSortL (n : Nat) (js : List Nat) (fb fa : M R) : M R := fun S => (fa S).bind (sortLk n js fb)
theorem startF_at {N : List Str} {v : V} {ws : List (Option V)} {i : Nat} : (startF N [v] ws)[i]? = if i = 0 then some (some v) else if i < 1 + ws.length then ws[i - 1]? else if i < 1 + (ws.length + (N.length - 1 - ws.length)) then some none else none := by
  unfold startF
  cases i with
  | zero => rfl
  | succ i =>
    show (ws ++ List.replicate (N.length - 1 - ws.length) none)[i]? = _
    rw [if_neg (by omega)]
    by_cases h1 : i < ws.length
    · rw [List.getElem?_append_left h1, if_pos (by omega)]; rfl
    · rw [List.getElem?_append_right (by omega), if_neg (by omega), List.getElem?_replicate]
      by_cases h2 : i - ws.length < N.length - 1 - ws.length
      · rw [if_pos h2, if_pos (by omega)]
      · rw [if_neg h2, if_neg (by omega)]
/-- the slots at the lambda's start -/
theorem lam_si {n : Nat} {cs : SS} {js : List Nat} {N : List Str} {d : D} {v : V} (si : SI z S σ H G) (hn : N.length = n) (hc : capsD S js = some cs) (rv : Rep z G v d) : SI ⟨z.K, z.cl, [], H⟩ (lamS n cs d) (startF N [v] (js.map (NdefX.slotAt σ))) H G := by
  obtain ⟨l1, hat⟩ := capsD_at hc
  have lw : (js.map (NdefX.slotAt σ)).length = cs.length := by rw [List.length_map, l1]
  have get : ∀ (i : Nat) w, (lamS n cs d)[i]? = some w → (i = 0 ∧ w = .shr d) ∨ (0 < i ∧ w = .un) ∨ (0 < i ∧ i - 1 < cs.length ∧ cs[i - 1]? = some w) := fun i w h => by
    cases i with
    | zero => exact .inl ⟨rfl, (Option.some.inj h).symm⟩
    | succ i =>
      have h : (cs ++ List.replicate (n - 1 - cs.length) AV.un)[i]? = some w := h
      by_cases hi : i < cs.length
      · rw [List.getElem?_append_left hi] at h
        exact .inr (.inr ⟨Nat.succ_pos _, hi, h⟩)
      · rw [List.getElem?_append_right (by omega), List.getElem?_replicate] at h
        split at h
        · exact .inr (.inl ⟨Nat.succ_pos _, (Option.some.inj h).symm⟩)
        · cases h
  have noown : ∀ (i : Nat) t d', (lamS n cs d)[i]? ≠ some (.own t d') := fun i t d' h => by
    rcases get i _ h with ⟨_, e⟩ | ⟨_, e⟩ | ⟨_, _, e⟩
    · cases e
    · cases e
    · rcases (hat _ _ e).1 with z | ⟨_, z⟩ <;> cases z
  refine ⟨?_, si.le, fun i d' h => ?_, fun i t d' h => absurd h (noown i t d'), fun i j ti di tj dj a h => absurd h (noown i ti di), fun a h => h, si.tab⟩
  · unfold lamS startF
    simp [lw, hn]
  · rcases get i _ h with ⟨rfl, e⟩ | ⟨_, e⟩ | ⟨h0, h1, e⟩
    · cases e
      exact ⟨v, by rw [startF_at, if_pos rfl], Rep.ab rv⟩
    · cases e
    · obtain ⟨_, j, hj, hS⟩ := hat _ _ e
      obtain ⟨v', hv, r⟩ := si.shr j d' hS
      refine ⟨v', ?_, Rep.ab r⟩
      rw [startF_at, if_neg (by omega), if_pos (by omega), List.getElem?_map, hj]
      show some (NdefX.slotAt σ j) = _
      rw [NdefX.slotAt_of hv]

/-- a key call of the lambda -/
theorem keyL_turn {k : Nat} {F : NF} {f : Addr} {N fr : List Str} {xp : Str} {js : List Nat} {params : Arguments} {body : Expr} {pm ctv : Value} {n : Nat} {fb : M R} {cs : SS} (SC : NScope N [xp] fr F.scope) (hn : N.length = n) (cp : X.Ok → Caps X F.cl fr js) (hk : z.K = X.K) (hr : Room (k + 3) X.A)
    (hbind : ∀ u : Value, bindArgs (PySem.W.kla_fn "<lambda>" F.qual params body F.scope F.cl pm (.ref F.c) ctv) ⟨[u], []⟩ = pure [(xp, u)])
    (hb : ∀ (A : Around) (outer : List Env) (s : Shared) (H : Hp) (z' : Dx), z'.cl = z.cl → Room k (A.deeper (envF F f s.heap.objs.size)) → Ct (ncx L2.CX0 X.prog X.w X.K X.mg X.base N F f A outer s H L2.E0) z' W0 → E (ncx L2.CX0 X.prog X.w X.K X.mg X.base N F f A outer s H L2.E0) z' W0 body fb)
    (H0 G0 : Hp) {l ks : List D} (hks : keysL n fb cs l = some ks) (hcs : capsD S js = some cs) {us : List Value} {xs : List V} (rv : Vals xs us) (rl : RepL z G0 xs l) (pins0 : List (Addr × Obj)) :
    ∀ (i : Nat) (u : Value) (H1 : Hp) (vs : List V) (s1 : Shared) (pins1 : List (Addr × Obj)), us[i]? = some u → KeyP z W S σ H0 G0 ks (fun H => H F.c = some (CodeO F.c F.qual)) i H1 vs → (∀ p ∈ pins0 ++ [(f, PySem.W.kla_obj "<lambda>" F.qual params body F.scope F.cl pm F.c ctv)], p ∈ pins1) → Inv X pins1 σ H1 s1 →
      wpAny (model X.prog X.w) X.A.in1.in1 (call (.ref f) [u]) (fun kv s2 => ∃ v H2, Inv X pins1 σ H2 s2 ∧ RelV v kv ∧ KeyP z W S σ H0 G0 ks (fun H => H F.c = some (CodeO F.c F.qual)) (i + 1) H2 (vs ++ [v])) (fun _ _ => False) s1 := by
  intro i u H1 vs s1 pins1 hu ⟨G1, si, g, rk, hco⟩ hp I1
  obtain ⟨x0, hx0, rx0⟩ : ∃ x0, xs[i]? = some x0 ∧ RelV x0 u := by
    have hi := (List.getElem?_eq_some_iff.mp hu).1
    have hl := rv.length
    obtain ⟨u', e1, e2⟩ := rv.get (i := i) (x := xs[i]'(by omega)) (List.getElem?_eq_getElem (by omega))
    rw [hu] at e1; cases e1
    exact ⟨_, List.getElem?_eq_getElem (by omega), e2⟩
  obtain ⟨d, hd, rd⟩ := rl.got hx0
  obtain ⟨_, hat⟩ := keysL_at hks
  obtain ⟨kd, hkd, hF⟩ := hat i d hd
  have of := (I1.pin _ (List.mem_append_right _ (hp _ (List.mem_append_right _ List.mem_cons_self)))).1
  have of : s1.heap.get? f = some (PySem.W.kla_obj "<lambda>" F.qual params body F.scope F.cl pm F.c ctv) := of
  have hr2 : Room (k + 1) X.A.in1.in1 := hr.in1.in1
  have e0 := I1.env0.in1.in1
  have C := cells_of I1 (cp I1.ok)
  refine wpAny_call (codeAny_mono (R := CR L2.CX0 X.stack X.prog X.w H1 s1 (fun v H2 => ∃ G2, Around' [] H1 H2 G1 G2 ∧ Rep z G2 v kd) L2.E0) ?_ fun r s' hq => ?_)
  · refine PySem.W.kla_callFunE hr2.depth of rfl SC.co SC.gen rfl (codeO_at I1.hok hco) ?_
    rw [hbind]
    refine wpAny_pure (wpAny_newFunctionEnv (binds := [(xp, u)]) SC.nocell (fun ⟨n', u'⟩ hy => SC.par n' (List.of_mem_zip (show (n', u') ∈ [xp].zip [u] from hy)).1) (fun h₁ hns hsb => ⟨I1.nolimit.fresh _ hsb, ?_⟩) SC.kind)
    show codeAny _ _ (.expr body (envF F f s1.heap.objs.size)) _ _
    have kp : ∀ b o, s1.heap.get? b = some o → h₁.get? b = some o := fun b o e => hsb.extBut b o (Nat.ne_of_lt (Heap.lt_size e)) (Heap.get?_push_of_some _ e)
    have J : Inv (ncx L2.CX0 X.prog X.w X.K X.mg X.base N F f X.A.in1.in1 X.stack s1 H1 L2.E0) [] (startF N [x0] (js.map (NdefX.slotAt σ))) H1 { s1 with heap := h₁, toks := s1.toks + ([(xp, u)] : List (Str × Value)).length } :=
      inv_startN (ps := [xp]) (us := [u]) SC hr2.hd e0 rfl (.cons rx0 .nil) C hns kp
    have hct : Ct (ncx L2.CX0 X.prog X.w X.K X.mg X.base N F f X.A.in1.in1 X.stack s1 H1 L2.E0) ⟨z.K, z.cl, [], H1⟩ W0 := ⟨hk, rfl, passes_of rfl, takes0, SC.nd⟩
    have bd := hb X.A.in1.in1 X.stack s1 H1 ⟨z.K, z.cl, [], H1⟩ rfl (hr2.deeper _) hct
    have sl := lam_si (n := n) (N := N) si hn hcs (rd.mono g.ge)
    unfold keyL at hF
    refine PySem.W.kla_codeExpr (wpAny_mono (bd.pe.run [] _ _ H1 (fun v H2 => ∃ G2, Around' [] H1 H2 G1 G2 ∧ Rep z G2 v kd) J ⟨lamS n cs d, G1, sl, ?_⟩) (fun v s' hq => ?_) fun e s' hq => hq)
    · split at hF
      · rename_i r S' er
        rw [er]
        intro v H2 G2 si2 g2 dn
        cases ev : valR S' r with
        | none => rw [ev] at hF; cases hF
        | some q =>
          obtain ⟨k', S2⟩ := q
          rw [ev] at hF
          cases hF
          obtain ⟨G3, si3, g3, r3⟩ := valR_go si2 g2 dn ev
          have no : ∀ a, ¬ Owns (lamS n cs d) (startF N [x0] (js.map (NdefX.slotAt σ))) a := fun a ⟨j, t, d', e1, e2⟩ => by
            obtain ⟨b, e3, _⟩ := sl.own j t d' e1
            obtain ⟨ga, o, ho⟩ := sl.ownFree ⟨j, t, d', e1, e2⟩
            obtain ⟨_, _, _, _, _, t2⟩ := sl.own j t d' e1
            cases t with
            | none =>
              obtain ⟨b', e4, _, _, _, t3⟩ := sl.own j none d' e1
              rw [e2] at e4; cases e4
              have := t3 rfl
              rw [show (⟨z.K, z.cl, [], H1⟩ : Dx).B a = H1 a from rfl] at this
              rw [this] at ho; cases ho
            | some m =>
              obtain ⟨b', e4, _, _, t3, _⟩ := sl.own j (some m) d' e1
              have := t3 m rfl
              simp at this
          exact ⟨G3, ⟨g3.ge, si3.le, fun a o e _ => g3.fr a o e (no a), g3.th, fun a u e => (g3.nw a u e).imp id fun q => q.elim id fun q => absurd q (no a)⟩, Rep.ab r3⟩
      · cases hF
    · obtain ⟨w, H2, J2, rw', q⟩ := hq
      exact ⟨w, H2, J2.os, J2.bare, J2.base, J2.hok, rw', q⟩
  · cases r with
    | error e => exact (show False from hq).elim
    | ok fl =>
      cases fl with
      | ret w =>
        obtain ⟨v, H2, I2, rv2, G2, ar, dn⟩ := I1.after hq
        obtain ⟨s3, g3⟩ := key_after si ar
        refine ⟨v, H2, I2, rv2, G2, s3, g.trans g3, ?_, (ar.fr _ _ hco (by simp)).eq fun z => z⟩
        have et : ks.take (i + 1) = ks.take i ++ [kd] := by rw [List.take_add_one, hkd]; rfl
        rw [et]
        exact (rk.mono g3.ge).append (.cons dn .nil)
      | next => exact False.elim hq
      | brk => exact False.elim hq
      | cont => exact False.elim hq
end
end L2.Dl
/-! sorted(xs, key=lambda x: ..), the rule. -/
namespace L2.Dl
open PySem PySem.Spec PyProof.Rows LamX NdefX
section
variable {X : Cx} {z : Dx} {W : WX}
theorem E_sortL {k : Nat} {cc P : Addr} {N fr : List Str} {xp : Str} {js : List Nat} {params : Arguments} {body a : Expr} {scope : Scope} {n : Nat} {fa fb : M R} {nm : Option Str} {p lpos kpos pos : Pos} (ha : E X z W a fa) (TB : TabB X.base X.mg cc P) (hcode : X.env.code = .ref cc) (hT : (P, X.env.qual ++ "<lambda>") ∈ z.cl.T)
    (hm : X.mg "sorted" = none) (hr : Room (k + 3) X.A) (SC : NScope N [xp] fr scope) (hn : N.length = n) (hjs : js.map (fun j => X.N[j]?) = fr.map some)
    (hfS : ∀ y ∈ scope.names, y.2 = .free → X.env.scope.names.lookup y.1 = some .cell ∨ X.env.scope.names.lookup y.1 = some .free) (hfr : ∀ y ∈ fr, (y, NameKind.free) ∈ scope.names)
    (hb : ∀ (c' f : Addr) (A : Around) (outer : List Env) (s : Shared) (H : Hp) (z' : Dx), z'.cl = z.cl → Room k (A.deeper (envF ⟨"<lambda>", X.env.qual ++ "<lambda>", params, [], scope, cloFrom X.env.cells scope.names [], c'⟩ f s.heap.objs.size)) →
      Ct (ncx L2.CX0 X.prog X.w X.K X.mg X.base N ⟨"<lambda>", X.env.qual ++ "<lambda>", params, [], scope, cloFrom X.env.cells scope.names [], c'⟩ f A outer s H L2.E0) z' W0 →
      E (ncx L2.CX0 X.prog X.w X.K X.mg X.base N ⟨"<lambda>", X.env.qual ++ "<lambda>", params, [], scope, cloFrom X.env.cells scope.names [], c'⟩ f A outer s H L2.E0) z' W0 body fb)
    (hbind : ∀ (cl : List (Str × Addr)) (c' : Addr) (pm ctv u : Value), bindArgs (PySem.W.kla_fn "<lambda>" (X.env.qual ++ "<lambda>") params body scope cl pm (.ref c') ctv) ⟨[u], []⟩ = pure [(xp, u)] := by intro _ _ _ _ _; rfl)
    (hdef : defaultsOf params X.env = ([], []) := by rfl) (hg : Gl X "sorted" := by rfl)
    (hs : starEach [a] X.env = (false, eval a X.env) :: starEach [] X.env := by rfl)
    (he : backTo pos (starEach [a] X.env) = (false, eval a X.env) :: backTo pos (starEach [] X.env) := by rfl) (hpl : (backTo pos (starEach [a] X.env)).any (·.1) = false := by rfl)
    (hall : (backToKw pos (keywordEach [⟨nm, .Lambda params body scope lpos, kpos⟩] X.env)).all (·.1.isSome) = true := by rfl) (hnone : (backToKw pos (keywordEach [⟨nm, .Lambda params body scope lpos, kpos⟩] X.env)).any (·.1.isNone) = false := by rfl)
    (hks : (backToKw pos (keywordEach [⟨nm, .Lambda params body scope lpos, kpos⟩] X.env)).filterMap (·.1) = [Str.ofString "key"] := by rfl) :
    E X z W (.Call (.Name "sorted" p) [a] [⟨nm, .Lambda params body scope lpos, kpos⟩] pos) (sSortL n js fb fa) := by
  refine ⟨⟨fun pins s σ H Q I ⟨S, G, si, h⟩ => ?_⟩, ha.k⟩
  refine wpAny_Call_Name_kw (ld_blt I hg hm boot_sorted ?_ (by decide) (by decide))
  refine PyProof.Rows.callWith_kw (thn ((pa_cons ha.pe pa_nil hs).run pos pins s σ H (fun vs H1 => ∃ x, vs = [x] ∧ ∃ ra S1 G1, SI z S1 σ H1 G1 ∧ Go S S1 σ σ H H1 G G1 ∧ DenS z σ G1 x ra ∧ Post z W S1 G1 H1 σ Q (sortLk n js fb ra S1)) I ((step si h).mono fun x H1 q => ⟨x, rfl, q⟩)) fun us s1 ⟨vs, H1, I1, r1, q1⟩ => ?_) he hpl hall hnone
  obtain ⟨x0, rfl, ra, S1, G1, si1, g1, dn, h1⟩ := q1
  show wpAny _ _ (evalAll ((do let v ← eval (.Lambda params body scope lpos) X.env; standAt pos; pure v) :: (backToKw pos (keywordEach [] X.env)).map (·.2))) _ _ s1
  have hfree : ∀ y ∈ scope.names, y.2 = .free → ∃ c, X.env.cells.lookup y.1 = some c := fun y hy e => (hfS y hy e).elim (fun q => I1.ok.has _ (.inl q)) fun q => I1.ok.has _ (.inr q)
  refine wpAny_evalAll_cons (wpAny_bind (lam_makeX I1 TB hcode (tab_at si1 hT) hdef hfree fun f c' pm ctv H2 s2 I2 md tb of hf hge hco => wpAny_bind (wpAny_standAt (wpAny_pure ?_))))
  refine wpAny_evalAll_nil ?_
  rw [hks]
  show wpAny (model X.prog X.w) X.A (call (.builtin "sorted") us [(Str.ofString "key", .ref f)]) (EP X pins σ Q) X.xe s2
  obtain ⟨si2, g2⟩ := made_si si1 hT md tb
  unfold sortLk at h1
  cases el : lookLst S1 ra with
  | none => rw [el] at h1; exact h1.elim
  | some l =>
    cases ec : capsD S1 js with
    | none => rw [el, ec] at h1; exact h1.elim
    | some cs =>
      rw [el, ec] at h1
      simp only at h1
      cases ek : keysL n fb cs l with
      | none => rw [ek] at h1; exact h1.elim
      | some ks =>
        rw [ek] at h1
        simp only at h1
        obtain ⟨a0, xs, rfl, ha0, rl⟩ := ((dn.mono g2.ge).view si2 (lookLst_eq el)).lst si2.le
        obtain ⟨its, rv, pl, hz⟩ := I2.list (SqL.of (K := X.K) ha0)
        obtain rfl := Vals.ref1 r1
        have hu := hr.un
        have hkl : its.length = ks.length := by rw [← rv.length, rl.length, (keysL_at ek).1]
        obtain ⟨f0, f1, f2, f3, f4, f5⟩ := I1.fpOk hge hf
        have I3 : Inv X (pins ++ [(f, PySem.W.kla_obj "<lambda>" (X.env.qual ++ "<lambda>") params body scope (cloFrom X.env.cells scope.names []) pm c' ctv)]) σ H2 s2 := I2.pins_of fun q hq => (List.mem_append.mp hq).elim (fun w => I2.pin q (List.mem_append_right _ w)) fun w => by
          obtain rfl : q = _ := List.mem_singleton.mp w
          exact ⟨of, f0, f1, f2, fun v e => nomatch e⟩
        refine thn (sortK_run I3 (by omega) pl.isList (by rw [← rv.length]; exact hz) (stands_all rv rl) (PyProof.Rows.ksk_s1 _ _) (fun _ => PyProof.Rows.ksk_l1 _ _) (fun a => PyProof.Rows.ksk_t1 f a)
          (KeyP z W S1 σ H2 G1 ks (fun H => H c' = some (CodeO c' (X.env.qual ++ "<lambda>")))) ⟨G1, si2, .refl, by rw [List.take_zero]; exact .nil, hco⟩
          (keyL_turn (F := ⟨"<lambda>", X.env.qual ++ "<lambda>", params, [], scope, cloFrom X.env.cells scope.names [], c'⟩) SC hn (fun ok => Caps.made ok hfS hfr hjs) ha.k hr (fun u => hbind _ _ _ _ u) (fun A outer s H z' hcl hrr ct => hb c' f A outer s H z' hcl hrr ct) H2 G1 ek ec rv rl pins)
          (sort_fin ha.k hkl (Post.from h1 g2))) fun v s3 ⟨w, H3, I4, rw', q⟩ => ⟨w, H3, I4.unpinned, rw', q⟩
end
end L2.Dl
/-! What the printed derivations use: calls by name, stores of comprehensions. -/
namespace L2.Dl
open PySem PySem.Spec PyProof.Rows

section
variable {X : Cx} {z : Dx} {W : WX}
theorem sw_trueD {kx vx : Expr} {gs : List Comprehension} {scope : Scope} {pos py : Pos} {y : Str} {l : Nat} {env : Env} (hk : env.scope.kind = .function) (hy : env.scope.names.lookup y = some .local) (hl : (py.line == pos.line) = true)
    (ha : (scope.names.any fun (n, k) => n == y && (k == .local || k == .cell)) = false) : swapsWith (.DictComp kx vx gs scope pos) (some (.Name y py)) l env = pure true := by
  have ky : env.kindOf y = some .local := hy
  have hb : env.blockKind = .function := by unfold Env.blockKind; rw [hk]; rfl
  unfold swapsWith
  simp only [hb, ky, ha, Expr.pos, hl]
  rfl
theorem ps_setDc {i : Nat} {y : Str} {py : Pos} {kx vx tg iter : Expr} {ifs : List Expr} {scope : Scope} {own : List (Str × Nat)} {pos spos : Pos} {wi : TI} {g : TG} {tt : TT} {tk te : TE} (hc : X.calm = true) (hN : X.N.Nodup) (hy : X.N[i]? = some y) (hyl : X.env.scope.names.lookup y = some .local)
    (hsw : swapsWith (.DictComp kx vx [⟨tg, iter, ifs, 0⟩] scope pos) (some (.Name y py)) spos.line X.env = pure true) (hi : PI X tg iter wi) (ok : BlkOk X.N X.env.scope scope own)
    (hg : ∀ (s : Shared) (H : Hp) (C : Addr) (cl : List (Str × Addr)) (fp : List Addr), PG (X.blk s H scope (compEnvC scope cl C X.env) fp) tg g) (ht : ∀ (s : Shared) (H : Hp) (C : Addr) (cl : List (Str × Addr)) (fp : List Addr), PTs (X.blk s H scope (compEnvC scope cl C X.env) fp) ifs tt)
    (hk : ∀ (s : Shared) (H : Hp) (C : Addr) (cl : List (Str × Addr)) (fp : List Addr), PE (X.blk s H scope (compEnvC scope cl C X.env) fp) kx tk)
    (he : ∀ (s : Shared) (H : Hp) (C : Addr) (cl : List (Str × Addr)) (fp : List Addr), PE (X.blk s H scope (compEnvC scope cl C X.env) fp) vx te) (hs : ∀ x, foldedSetIterable iter X.env x = pure x := by intro _; rfl) :
    PS X (.Assign [.Name y py] (.DictComp kx vx [⟨tg, iter, ifs, 0⟩] scope pos) spos) (tAsg (tDc wi g tt tk te (own.map (·.2))) (gName i)) := by
  refine ⟨fun pins s σ H D I h => ?_⟩
  rw [exec_Assign_Name_used _ _ _ _ hsw]
  refine wpAny_bind (wpAny_standAt (wpAny_bind ?_))
  show wpAny _ X.A (do let _ ← comprehension (.DictComp kx vx [⟨tg, iter, ifs, 0⟩] scope pos) scope X.env (firstIterPos [⟨tg, iter, ifs, 0⟩] pos) newDict false (eval iter X.env) (some (assign (.Name y py) X.env))) _ _ s
  have h : tDc wi g tt tk te (own.map (·.2)) σ H (fun x H1 => gName i x σ H1 D.nx) := h
  refine wpAny_bind (thn (dc_core (Qf := fun _ s' => SP X pins D .next s') hc hN I hi ok hg ht hk he hs h fun L C s' m H' I' q hn f => ?_) fun _ s' hq => wpAny_pure (wpAny_pure hq))
  show wpAny _ _ (assign (.Name y py) X.env (.ref L)) _ _ _
  refine wpAny_assign_Name (store_ok2 (v := V.ref L) I' hN hy (.inl hyl) rfl (fun s2 I2 ⟨a, sb, ha⟩ => ?_) (.inr hyl))
  obtain ⟨f0, f1, f2, f3, f4, f5⟩ := f
  have haC : C ≠ a := by
    rcases ha with w | w
    · rw [w]; exact f1
    · exact fun e => f4 y a w e.symm
  exact ⟨m, hn.sameBut sb haC, fun h3 sb3 => ⟨_, H', I2.turned (t' := s2.toks) (fun b o hb e => (sb3.2 b hb).trans e) f0 f1 f3 f4 f5, q⟩⟩
theorem S_setDc {i : Nat} {y : Str} {py : Pos} {kx vx tg iter : Expr} {ifs : List Expr} {scope : Scope} {own : List (Str × Nat)} {pos spos : Pos} {fi : M (List D)} {ix : List Nat} {g : D → SS → Option SS} {ft : M Bool} {fk fe : M R} (c : Ct X z W) (hi : IT X z W tg iter fi) (ok : BlkOk X.N X.env.scope scope own)
    (hix : ∀ i ∈ ix, i ∈ own.map (·.2)) (hg : ∀ (s : Shared) (H : Hp) (C : Addr) (cl : List (Str × Addr)) (fp : List Addr), Tg (X.blk s H scope (compEnvC scope cl C X.env) fp) z tg ix g)
    (ht : ∀ (s : Shared) (H : Hp) (C : Addr) (cl : List (Str × Addr)) (fp : List Addr), Ts (X.blk s H scope (compEnvC scope cl C X.env) fp) z W0 ifs ft)
    (hk : ∀ (s : Shared) (H : Hp) (C : Addr) (cl : List (Str × Addr)) (fp : List Addr), E (X.blk s H scope (compEnvC scope cl C X.env) fp) z W0 kx fk)
    (he : ∀ (s : Shared) (H : Hp) (C : Addr) (cl : List (Str × Addr)) (fp : List Addr), E (X.blk s H scope (compEnvC scope cl C X.env) fp) z W0 vx fe)
    (hy : X.N[i]? = some y := by rfl) (hyl : X.env.scope.names.lookup y = some .local := by rfl) (hkk : X.env.scope.kind = .function := by rfl) (hl : (py.line == pos.line) = true := by rfl)
    (ha : (scope.names.any fun (n, k) => n == y && (k == .local || k == .cell)) = false := by rfl) (hs : ∀ x, foldedSetIterable iter X.env x = pure x := by intro _; rfl) :
    Sm X z W (.Assign [.Name y py] (.DictComp kx vx [⟨tg, iter, ifs, 0⟩] scope pos) spos) (sAsg i (sDc (own.map (·.2)) fi g ft fk fe)) :=
  ⟨PS.le (ps_setDc c.calm c.nd hy hyl (sw_trueD hkk hyl hl ha) hi.pi ok (fun s H C cl fp => (hg s H C cl fp).pg) (fun s H C cl fp => (ht s H C cl fp).pt) (fun s H C cl fp => (hk s H C cl fp).pe) (fun s H C cl fp => (he s H C cl fp).pe) hs) fun D σ H ⟨S, G, si, h⟩ => dc_run hix (sAsg_run si h)⟩
theorem S_setLcN {i : Nat} {y : Str} {py : Pos} {elt tg iter : Expr} {ifs : List Expr} {scope : Scope} {own : List (Str × Nat)} {pos spos : Pos} {fi : M (List D)} {ix : List Nat} {g : D → SS → Option SS} {ft : M Bool} {fe : M R} (c : Ct X z W) (hi : IT X z W tg iter fi) (ok : BlkOk X.N X.env.scope scope own)
    (hix : ∀ i ∈ ix, i ∈ own.map (·.2)) (hg : ∀ (s : Shared) (H : Hp) (C : Addr) (cl : List (Str × Addr)) (fp : List Addr), Tg (X.blk s H scope (compEnvC scope cl C X.env) fp) z tg ix g)
    (ht : ∀ (s : Shared) (H : Hp) (C : Addr) (cl : List (Str × Addr)) (fp : List Addr), Ts (X.blk s H scope (compEnvC scope cl C X.env) fp) z W0 ifs ft)
    (he : ∀ (s : Shared) (H : Hp) (C : Addr) (cl : List (Str × Addr)) (fp : List Addr), E (X.blk s H scope (compEnvC scope cl C X.env) fp) z W0 elt fe)
    (hy : X.N[i]? = some y := by rfl) (hyl : X.env.scope.names.lookup y = some .local := by rfl) (hkk : X.env.scope.kind = .function := by rfl) (hl : (py.line == pos.line) = true := by rfl)
    (ha : (scope.names.any fun (n, k) => n == y && (k == .local || k == .cell)) = false := by rfl) (hs : ∀ x, foldedSetIterable iter X.env x = pure x := by intro _; rfl) :
    Sm X z W (.Assign [.Name y py] (.ListComp elt [⟨tg, iter, ifs, 0⟩] scope pos) spos) (sAsg i (sLc (own.map (·.2)) fi g ft fe)) :=
  S_setLc c hy hyl (sw_true hkk hyl hl ha) hi ok hix hg ht he hs
/-- a def that is called by its name: its promise by data -/
structure Cl (P : Program) (w : World) (K : PySem.W.Frag) (mg : Str → Option Value) (base : Heap) (br : Brings) (x : Str) (ps : List Str) (md : List Bool) (k : Nat) (Fn : List D → FR) : Prop where
  ex : ∃ f fd, FnOk P w K mg base (L2.CX P w) k f fd ps (spD br K md Fn) ∧ mg x = some (.ref f) ∧ PySem.W.keepIn K (.ref f) = true ∧ Binds K fd ps []
section
variable {br : Brings} {ps : List Str} {md : List Bool} {j k : Nat} {Fn : List D → FR} {x : Str} {e : Expr} {es : List Expr} {p pos : Pos} {fl : M (List R)}
theorem E_cl (c : Ct X z W) (h : Cl X.prog X.w X.K X.mg X.base br x ps md j Fn) (hcl : z.cl = br) (hr : Room k X.A) (hl : L X z W (e :: es) fl) (hj : j ≤ k := by decide) (hg : Gl X x := by rfl) (hdb : (x == ("__debug__" : Str)) = false := by decide)
    (he : starEach (e :: es) X.env = (false, eval e X.env) :: starEach es X.env := by rfl) (hpl : (backTo pos (starEach es X.env)).any (·.1) = false := by rfl) : E X z W (.Call (.Name x p) (e :: es) [] pos) (callM md Fn fl) := by
  obtain ⟨f, fd, F, hm, hk, hb⟩ := h.ex
  exact E_call c F hcl (hr.mono hj) hg hm hk hb hl hdb he hpl
theorem E_cl0 (c : Ct X z W) (h : Cl X.prog X.w X.K X.mg X.base br x ps md j Fn) (hcl : z.cl = br) (hr : Room k X.A) (hj : j ≤ k := by decide) (hg : Gl X x := by rfl) (hdb : (x == ("__debug__" : Str)) = false := by decide) : E X z W (.Call (.Name x p) [] [] pos) (callM md Fn sNil) := by
  obtain ⟨f, fd, F, hm, hk, hb⟩ := h.ex
  exact E_call0 c F hcl (hr.mono hj) hg hm hk hb hdb
end
theorem E_gintX {x : Str} {n : Int} {pos : Pos} (hk : z.K = X.K) (hm : ∃ t, X.mg x = some (.int n t)) (hg : Gl X x := by rfl) (hd : (x == ("__debug__" : Str)) = false := by decide) : E X z W (.Name x pos) (sV (.int n)) := by
  obtain ⟨t, h⟩ := hm
  exact E_gint hk hg h hd
theorem E_gstrX {x n : Str} {pos : Pos} (hk : z.K = X.K) (hm : ∃ t, X.mg x = some (.str n t)) (hg : Gl X x := by rfl) (hd : (x == ("__debug__" : Str)) = false := by decide) : E X z W (.Name x pos) (sV (.str n)) := by
  obtain ⟨t, h⟩ := hm
  exact E_gstr hk hg h hd
theorem hu1 {k : Nat} {A : Around} (r : Room k A) : A.units + 1 < cLine := by have := r.un; omega
theorem hu70 {k : Nat} {A : Around} (r : Room k A) : A.units + 70 < cLine := by have := r.un; omega
/-- the built-ins stand free -/
def Free (mg : Str → Option Value) (xs : List Str) : Prop := ∀ x ∈ xs, mg x = none
end
/-- not, as a value -/
noncomputable def notD (d : D) : Option R := d.truth.map fun k => .v (.bl (!k))
theorem capS_by {sc scope : Scope} (h : ∀ y ∈ scope.names, y.2 = .free → sc.names.lookup y.1 = some .cell ∨ sc.names.lookup y.1 = some .free) :
    ∀ y ∈ scope.names, y.2 = .free → sc.names.lookup y.1 = some .cell ∨ sc.names.lookup y.1 = some .free := h
end L2.Dl
/-! The end of a law: the promise of its def by data, the head's tables. -/
namespace L2.Dl
open PySem PySem.Spec PyProof.Rows LamX
/-- a def's code object -/
theorem code_of {K : PySem.W.Frag} {x qual : Str} {params : Arguments} {body : List Stmt} {scope : Scope} {dvs : List V} {kws : List (Str × V)} {p : He.Defn} {fd : FuncData} (F : FunD K x qual params body scope dvs kws (He.fAd K p) fd) :
    fd.code = .ref (He.cT K p).1 := by
  obtain ⟨oc, od, dV, kV, doc, pm, an, cdv, ct, osl, rfl, lk, hcd, _, _⟩ := F.ex
  obtain ⟨c, rfl⟩ := He.codeIn_ref hcd
  have e := He.codeOf_eq lk (c := c) rfl
  show Value.ref c = .ref (He.codeOf K p)
  rw [e]
/-- what the text brings: its classes by name, the tables of the defs tf -/
def brOf (K : PySem.W.Frag) (cls : List Str) (tf : List (He.Defn × Str)) : Brings := ⟨fun i => He.ga K (cls.getD i ""), tf.map fun p => ((He.cT K p.1).2, p.2)⟩
theorem lookup_some {T : List (Addr × Str)} {p : Addr × Str} (nd : (T.map (·.1)).Nodup) (h : p ∈ T) : T.lookup p.1 = some p.2 := by
  induction T with
  | nil => cases h
  | cons q T ih =>
    obtain ⟨a, s⟩ := q
    rcases List.mem_cons.mp h with e | e
    · rw [e]; simp [List.lookup]
    · have ne : (p.1 == a) = false := by
        rw [beq_eq_false_iff_ne]
        intro z
        have := (List.nodup_cons.mp nd).1
        exact this (z ▸ List.mem_map.mpr ⟨p, e, rfl⟩)
      simp only [List.lookup, ne]
      exact ih (List.nodup_cons.mp nd).2 e
theorem mem_of_lookup {T : List (Addr × Str)} {a : Addr} {q : Str} (h : T.lookup a = some q) : (a, q) ∈ T := by
  induction T with
  | nil => cases h
  | cons p T ih =>
    obtain ⟨b, s⟩ := p
    simp only [List.lookup] at h
    split at h
    · rename_i e
      cases h
      rw [beq_iff_eq.mp e]
      exact List.mem_cons_self
    · exact List.mem_cons_of_mem _ (ih h)
/-- the shared heap at the law's entry -/
def G0 (T : List (Addr × Str)) (a : Addr) (u : Option HO) : Hp := fun b => match T.lookup b with
  | some q => some (.tbl #[.str q 0])
  | none => if b = a then u else none
theorem G0_le {T : List (Addr × Str)} {a : Addr} {u : Option HO} {H : Hp} (hT : ∀ p ∈ T, H p.1 = some (.tbl #[])) (hu : ∀ o, u = some o → H a = some o ∧ NT o) : LeH (G0 T a u) H := by
  intro b o h
  unfold G0 at h
  cases e : T.lookup b with
  | some q =>
    rw [e] at h
    cases h
    refine .inr (.inr ⟨q, 0, rfl, #[], hT _ (mem_of_lookup e), ?_, fun pos cv z => ?_⟩)
    · simp [TriplesOk]
    · simp [codeAmong] at z
  | none =>
    rw [e] at h
    simp only at h
    split at h
    · rename_i eb
      rw [eb]
      exact .inl (hu o h)
    · cases h
theorem law_spD {K : PySem.W.Frag} {br : Brings} {Fn : List D → FR} {H : Hp} {a : Addr} {ns : List Int} {io : List D} (nd : (br.T.map (·.1)).Nodup) (hT : ∀ p ∈ br.T, H p.1 = some (.tbl #[])) (hS : SqL K H a (ns.map V.int)) (hF : Fn [.scr ns] = .ret (.bl true) false io) :
    spD br K [false] Fn [.ref a] H (fun v _ => v = .bl true) fun _ _ _ => False := by
  have key : ∃ u : Option HO, (∀ o, u = some o → H a = some o ∧ NT o) ∧ SqL K (G0 br.T a u) a (ns.map V.int) := by
    have off : ∀ o, H a = some o → (∀ x, o ≠ .tbl x) → br.T.lookup a = none := fun o h n => by
      cases e : br.T.lookup a with
      | none => rfl
      | some q =>
        have z := hT _ (mem_of_lookup e)
        rw [h] at z
        exact absurd (Option.some.inj z) (n _)
    rcases hS with (h | ⟨o, h⟩) | h
    · refine ⟨H a, fun o z => ?_, .inl (.inl ?_)⟩
      · rw [h] at z; cases z; exact ⟨h, trivial⟩
      · unfold G0
        rw [off _ h (fun _ z => by cases z)]
        simp only [if_true]
        exact h
    · refine ⟨H a, fun o z => ?_, .inl (.inr ⟨o, ?_⟩)⟩
      · rw [h] at z; cases z; exact ⟨h, trivial⟩
      · unfold G0
        rw [off _ h (fun _ z => by cases z)]
        simp only [if_true]
        exact h
    · exact ⟨none, ⟨fun o z => (nomatch z), Or.inr h⟩⟩
  obtain ⟨u, hu, hs⟩ := key
  refine ⟨G0 br.T a u, [.scr ns], G0_le hT hu, fun p hp => ⟨0, ?_⟩, .shr (.scr hs) .nil, .nil, ?_⟩
  · unfold G0
    rw [lookup_some nd hp]
  · rw [hF]
    intro v H' G' _ _ d
    cases d
    rfl
/-- THE END of a law by data -/
theorem law_atD {l : PySem.W.OpenLaw} {w : World} {K : PySem.W.Frag} {mg : Str → Option Value} {fa : Addr} {h : Heap} {fd : FuncData} {n k : Nat} {tf : List He.Defn} {br : Brings} {Fn : List D → FR} (KX : K.In h)
    (hb : ∀ (s : Shared) (u : Value), BindsTo s fd ⟨[u], []⟩ [("script", u)]) (hd : ∀ p ∈ tf, PySem.W.codeHdIn K (He.cT K p).1 (He.cT K p).2 = true) (out : ∀ p ∈ tf, K.lookup (He.cT K p).2 = none)
    (empty : ∀ p ∈ tf, h.get? (He.cT K p).2 = some { cls := .none, data := .fields #[] }) (hbr : br.T.map (·.1) = tf.map fun p => (He.cT K p).2) (nd : (tf.map fun p => (He.cT K p).2).Nodup)
    (law : ∀ ns : List Int, ns.length ≤ n → ∃ io, Fn [.scr ns] = .ret (.bl true) false io)
    (F : ∀ base : Heap, K.In base → base.Ns mainGlobals mg → (∀ p ∈ tf, TabB base mg (He.cT K p).1 (He.cT K p).2) → FnOk l.prog w K mg base (L2.CX l.prog w) k fa fd ["script"] (spD br K [false] Fn)) :
    LawAtS l w K (L2.CX l.prog w) k n "script" mg fa h := by
  refine ⟨fd, tf.map (He.cT K), spD br K [false] Fn, ?_, ?_, ?_, hb, fun H a ns hl _ hT hS => ?_, fun base k1 k2 TB => F base k1 k2 fun p hp => TB _ (List.mem_map.mpr ⟨p, hp, rfl⟩)⟩
  · intro p hp
    obtain ⟨q, hq, rfl⟩ := List.mem_map.mp hp
    exact empty q hq
  · intro p hp
    obtain ⟨q, hq, rfl⟩ := List.mem_map.mp hp
    exact out q hq
  · intro p hp
    obtain ⟨q, hq, rfl⟩ := List.mem_map.mp hp
    exact PySem.W.codeHd_of_K KX (hd q hq)
  · obtain ⟨io, e⟩ := law ns hl
    refine law_spD (by rw [hbr]; exact nd) (fun p hp => ?_) hS e
    have : p.1 ∈ tf.map fun p => (He.cT K p).2 := by rw [← hbr]; exact List.mem_map.mpr ⟨p, hp, rfl⟩
    obtain ⟨q, hq, eq⟩ := List.mem_map.mp this
    rw [← eq]
    exact hT _ (List.mem_map.mpr ⟨q, hq, rfl⟩)
/-- the tables stand apart -/
def exT (tf : List He.Defn) (K : PySem.W.Frag) : Bool := decide ((tf.map fun p => (He.cT K p).2).Nodup)
theorem hCX0 (P : Program) (w : World) (H : Hp) (s : Shared) (e : Value) (s' : Shared) (h : L2.CX P w [] H s (fun _ _ _ => False) e s') : False := by
  obtain ⟨_, _, _, _, _, _, _, _, _, _, _, _, h⟩ := h
  exact h
end L2.Dl
/-! Rules to reckon what the semantics gives: comprehensions, loops. -/
namespace L2.Dl
open PySem PySem.Spec PyProof.Rows
theorem set_set {S : SS} {v : Nat} {a b : AV} : (S.set v a).set v b = S.set v b := by
  simp [List.set_set]
theorem set_same {S : SS} {v : Nat} {w : AV} (h : S[v]? = some w) : S.set v w = S := by
  apply List.ext_getElem?
  intro i
  rw [List.getElem?_set]
  split
  · rename_i e
    subst e
    split
    · exact h.symm
    · rename_i hl
      rw [List.getElem?_eq_none (by omega)] at h
      cases h
  · rfl
theorem lcL_pure {v : Nat} {ft : M Bool} {fe : M R} {S0 : SS} (hv : S0[v]? = some .un) (T : D → Bool) (Y : D → D) : ∀ (ds : List D)
    (h : ∀ d ∈ ds, ft (S0.set v (.shr d)) = .ok (T d) (S0.set v (.shr d)) ∧ (T d = true → ∃ r, fe (S0.set v (.shr d)) = .ok r (S0.set v (.shr d)) ∧ valR (S0.set v (.shr d)) r = some (Y d, S0.set v (.shr d)))),
    lcL [v] (tNm v) ft fe ds S0 = .ok ((ds.filter T).map Y) S0
  | [], _ => rfl
  | d :: ds, h => by
    obtain ⟨h1, h2⟩ := h d List.mem_cons_self
    have ih := lcL_pure hv T Y ds fun d' hd => h d' (List.mem_cons_of_mem _ hd)
    have hw : wipeS (S0.set v (.shr d)) [v] = S0 := by
      show (S0.set v (.shr d)).set v .un = S0
      rw [set_set, set_same hv]
    unfold lcL
    simp only [tNm, h1, noEx, Res.bind]
    cases hT : T d with
    | false => simp only [hw, ih, hT, Bool.false_eq_true, if_false, List.filter_cons]
    | true =>
      obtain ⟨r, h3, h4⟩ := h2 hT
      simp only [if_true, h3, h4, hw, ih, hT, List.filter_cons, List.map_cons]
/-- [e(x) for x in it if t(x)], nothing changed -/
theorem sLc_pure {v : Nat} {fi : M (List D)} {ft : M Bool} {fe : M R} {S S1 : SS} {ds : List D} {w : AV} (T : D → Bool) (Y : D → D) (hi : fi S = .ok ds S1) (hl : ds.length ≤ 1000000) (hv : S1[v]? = some w)
    (h : ∀ d ∈ ds, ft (S1.set v (.shr d)) = .ok (T d) (S1.set v (.shr d)) ∧ (T d = true → ∃ r, fe (S1.set v (.shr d)) = .ok r (S1.set v (.shr d)) ∧ valR (S1.set v (.shr d)) r = some (Y d, S1.set v (.shr d)))) :
    sLc [v] fi (tNm v) ft fe S = .ok (.f (.lst ((ds.filter T).map Y))) S1 := by
  have hlt : v < S1.length := by
    by_cases z : v < S1.length
    · exact z
    · rw [List.getElem?_eq_none (by omega)] at hv; cases hv
  have hv0 : (S1.set v .un)[v]? = some .un := by rw [List.getElem?_set_self hlt]
  have q := lcL_pure (ft := ft) (fe := fe) hv0 T Y ds (by simpa only [set_set] using h)
  have hw : wipeS S1 [v] = S1.set v .un := rfl
  unfold sLc
  rw [hi]
  simp only [Res.bind, if_pos hl, hw, q, noEx]
  show Res.ok _ (match S1[v]? with
    | some w => (S1.set v .un).set v w
    | none => S1.set v .un) = _
  rw [hv]
  simp only [set_set, set_same hv]
/-- a loop by an invariant -/
theorem forL_inv {g : D → SS → Option SS} {body : M Fl} : ∀ {ds : List D} {I : Nat → SS → Prop} {S : SS}
    (step : ∀ i d S, ds[i]? = some d → I i S → ∃ S1 S2, g d S = some S1 ∧ body S1 = .ok .nx S2 ∧ I (i + 1) S2) (h : I 0 S), ∃ S', forL g body ds S = .ok .nx S' ∧ I ds.length S'
  | [], I, S, _, h => ⟨S, rfl, h⟩
  | d :: ds, I, S, step, h => by
    obtain ⟨S1, S2, e1, e2, h2⟩ := step 0 d S rfl h
    obtain ⟨S', e3, h3⟩ := forL_inv (ds := ds) (I := fun i => I (i + 1)) (fun i d' T hd hI => step (i + 1) d' T (by simpa using hd) hI) h2
    refine ⟨S', ?_, by simpa using h3⟩
    unfold forL
    simp only [e1, e2, Res.bind]
    exact e3
/-- .. by the list -/
theorem forL_list {g : D → SS → Option SS} {body : M Fl} {α : Type} (f : α → D) : ∀ {xs : List α} {I : List α → SS → Prop} {pre : List α} {S : SS}
    (step : ∀ pre x S, (∃ post, xs = pre ++ x :: post) → I pre S → ∃ S1 S2, g (f x) S = some S1 ∧ body S1 = .ok .nx S2 ∧ I (pre ++ [x]) S2) (h : I [] S), ∃ S', forL g body (xs.map f) S = .ok .nx S' ∧ I xs S' := by
  intro xs I pre S step h
  have key : ∀ (post pre : List α) (S : SS), xs = pre ++ post → I pre S → ∃ S', forL g body (post.map f) S = .ok .nx S' ∧ I xs S' := by
    intro post
    induction post with
    | nil => intro pre S e hI; exact ⟨S, rfl, by rw [e, List.append_nil]; exact hI⟩
    | cons x post ih =>
      intro pre S e hI
      obtain ⟨S1, S2, e1, e2, h2⟩ := step pre x S ⟨post, e⟩ hI
      obtain ⟨S', e3, h3⟩ := ih (pre ++ [x]) S2 (by rw [e]; simp) h2
      refine ⟨S', ?_, h3⟩
      simp only [List.map_cons]
      unfold forL
      simp only [e1, e2, Res.bind]
      exact e3
  exact key xs [] S rfl h
/-- a while loop by an invariant and a measure -/
theorem whileN_inv {ft : M Bool} {body : M Fl} {I : SS → Prop} {Q : SS → Prop} (μ : SS → Nat)
    (step : ∀ S, I S → ∃ b S1, ft S = .ok b S1 ∧ (b = true → ∃ S2, body S1 = .ok .nx S2 ∧ I S2 ∧ μ S2 < μ S) ∧ (b = false → Q S1)) : ∀ (n : Nat) {S : SS}, I S → μ S < n → ∃ S', whileN ft body n S = .ok .nx S' ∧ Q S'
  | 0, S, _, h => by omega
  | n + 1, S, hI, h => by
    obtain ⟨b, S1, e1, h1, h2⟩ := step S hI
    unfold whileN
    simp only [e1, Res.bind]
    cases b with
    | false => exact ⟨S1, by simp, h2 rfl⟩
    | true =>
      obtain ⟨S2, e2, hI2, hm⟩ := h1 rfl
      obtain ⟨S', e3, hQ⟩ := whileN_inv μ step n hI2 (by omega)
      exact ⟨S', by simp only [if_true, e2]; exact e3, hQ⟩
/-! ### dicts with names as keys -/
theorem valD_map {α : Type} (k : α → Key) (hk : ∀ a b, k a = k b → a = b) (f : α → D) (l : List α) (a : α) (h : a ∈ l) : valD (l.map fun x => (k x, f x)) (k a) = some (f a) := by
  induction l with
  | nil => cases h
  | cons b l ih =>
    unfold valD
    simp only [List.map_cons, List.find?_cons]
    by_cases e : k b = k a
    · simp only [e, decide_true, Option.map_some]
      rw [hk _ _ e]
    · simp only [e, decide_false]
      have ne : a ≠ b := fun z => e (by rw [z])
      exact ih ((List.mem_cons.mp h).resolve_left ne)
theorem valD_map_none {α : Type} (k : α → Key) (hk : ∀ a b, k a = k b → a = b) (f : α → D) (l : List α) (a : α) (h : a ∉ l) : valD (l.map fun x => (k x, f x)) (k a) = none := by
  induction l with
  | nil => rfl
  | cons b l ih =>
    unfold valD
    simp only [List.map_cons, List.find?_cons]
    have e : k b ≠ k a := fun z => h (by rw [hk _ _ z]; exact List.mem_cons_self)
    simp only [e, decide_false]
    exact ih fun z => h (List.mem_cons_of_mem _ z)
end L2.Dl
/-! Sorted names. -/
namespace L2.Dl
open PySem PySem.Spec PyProof.Rows
def sle (a b : Str) : Bool := decide (a.cps.toList ≤ b.cps.toList)
theorem sle_trans (a b c : Str) (h1 : sle a b = true) (h2 : sle b c = true) : sle a c = true := by
  unfold sle at *
  exact decide_eq_true (Std.le_trans (of_decide_eq_true h1) (of_decide_eq_true h2))
theorem sle_total (a b : Str) : (sle a b || sle b a) = true := by
  unfold sle
  rcases Std.le_total (a := a.cps.toList) (b := b.cps.toList) with h | h
  · simp [h]
  · simp [h]
theorem sle_antisymm (a b : Str) (h1 : sle a b = true) (h2 : sle b a = true) : a = b := by
  unfold sle at *
  have e : a.cps.toList = b.cps.toList := Std.le_antisymm (of_decide_eq_true h1) (of_decide_eq_true h2)
  obtain ⟨x⟩ := a
  obtain ⟨y⟩ := b
  have e : x.toList = y.toList := e
  congr
  exact Array.toList_inj.mp e
def sortS (l : List Str) : List Str := l.mergeSort sle
theorem sortS_perm (l : List Str) : (sortS l).Perm l := List.mergeSort_perm l sle
theorem mem_sortS {l : List Str} {x : Str} : x ∈ sortS l ↔ x ∈ l := (sortS_perm l).mem_iff
theorem length_sortS (l : List Str) : (sortS l).length = l.length := (sortS_perm l).length_eq
theorem sortS_eq {l m : List Str} (h : l.Perm m) : sortS l = sortS m := by
  have p : (sortS l).Perm (sortS m) := ((sortS_perm l).trans h).trans (sortS_perm m).symm
  exact p.eq_of_pairwise (le := fun a b => sle a b = true) (fun a b _ _ h1 h2 => sle_antisymm a b h1 h2) (List.pairwise_mergeSort sle_trans sle_total l) (List.pairwise_mergeSort sle_trans sle_total m)
theorem sortD_str (l : List Str) : sortD (l.map .str) = (sortS l).map .str := by
  unfold sortD sortS
  rw [List.map_mergeSort (s := PySem.W.dataLe false encD)]
  intro a _ b _
  have q := PySem.W.dataLe_str (fun x : Str => x)
  exact (congrFun (congrFun q a) b).symm
theorem toPyL_str (l : List Str) : toPyL (l.map .str) = some (l.map .str) := by
  induction l with
  | nil => rfl
  | cons a l ih => simp only [List.map_cons, toPyL, toPy, ih]
theorem okSort_str (l : List Str) : okSort (l.map .str) = true := by
  unfold okSort
  simp only [List.all_map, Bool.and_eq_true, List.all_eq_true, Function.comp]
  refine ⟨⟨fun a _ b _ => rfl, ?_⟩, fun a _ => rfl⟩
  rw [Bool.or_eq_true]
  exact .inr (by simp [List.all_eq_true, notNT])
theorem gSorted_strs (l : List Str) : gSorted [.lst (l.map .str)] = some (.f (.lst ((sortS l).map .str))) := by
  show (match toPyL (l.map D.str) with
    | none => none
    | some ps => if okSort ps = true then some (R.f (.lst (sortD (l.map .str)))) else none) = _
  rw [toPyL_str]
  simp only [okSort_str, if_true, sortD_str]
theorem gSorted_names {kvs : List (Key × D)} {l : List Str} (h : kvs.map (·.1) = l.map .inr) : gSorted [.dct kvs] = some (.f (.lst ((sortS l).map .str))) := by
  have e : kvs.map (fun p => keyD p.1) = l.map .str := by
    have : kvs.map (fun p => keyD p.1) = (kvs.map (·.1)).map keyD := by simp
    rw [this, h]
    simp [keyD]
  show (match toPyL (kvs.map fun p : Key × D => keyD p.1) with
    | none => none
    | some ps => if okSort ps = true then some (R.f (.lst (sortD (kvs.map fun p : Key × D => keyD p.1)))) else none) = _
  rw [e, toPyL_str]
  simp only [okSort_str, if_true, sortD_str]
/-! sorted by a number -/
def sortI {α : Type} (k : α → Int) (l : List α) : List α := l.mergeSort fun a b => decide (k a ≤ k b)
theorem sortI_perm {α : Type} (k : α → Int) (l : List α) : (sortI k l).Perm l := List.mergeSort_perm l _
theorem sortI_sorted {α : Type} (k : α → Int) (l : List α) : (sortI k l).Pairwise fun a b => k a ≤ k b := by
  refine (List.pairwise_mergeSort (le := fun a b => decide (k a ≤ k b)) (fun a b c h1 h2 => ?_) (fun a b => ?_) l).imp fun h => of_decide_eq_true h
  · have := of_decide_eq_true h1
    have := of_decide_eq_true h2
    exact decide_eq_true (by omega)
  · by_cases h : k a ≤ k b
    · simp [h]
    · simp [h]; omega
theorem toPyL_int (l : List Int) : toPyL (l.map .int) = some (l.map .int) := by
  induction l with
  | nil => rfl
  | cons a l ih => simp only [List.map_cons, toPyL, toPy, ih]
theorem okSort_int (l : List Int) : okSort (l.map .int) = true := by
  unfold okSort
  simp only [List.all_map, Bool.and_eq_true, List.all_eq_true, Function.comp]
  refine ⟨⟨fun a _ b _ => rfl, ?_⟩, fun a _ => rfl⟩
  rw [Bool.or_eq_true]
  exact .inr (by simp [List.all_eq_true, notNT])
theorem sortR_int {α : Type} (f : α → D) (k : α → Int) (l : List α) : sortR (l.map f) (l.map fun x => .int (k x)) = some (.f (.lst ((sortI k l).map f))) := by
  unfold sortR
  have e : (l.map fun x => D.int (k x)) = (l.map k).map .int := by simp
  rw [e, toPyL_int]
  simp only [okSort_int, if_true]
  unfold sortK sortI
  have e2 : (l.map f).zip ((l.map k).map PyData.int) = l.map fun x => (f x, PyData.int (k x)) := by
    rw [List.map_map, List.zip_map']
    rfl
  rw [e2]
  have e3 : (l.map fun x => (f x, PyData.int (k x))).mergeSort (PySem.W.dataLe false Prod.snd) = (l.mergeSort fun a b => decide (k a ≤ k b)).map fun x => (f x, PyData.int (k x)) := by
    rw [List.map_mergeSort]
    intro a _ b _
    have q := PySem.W.dataLe_int k
    exact (congrFun (congrFun q a) b).symm
  rw [e3, List.map_map]
  rfl
end L2.Dl
/-! Names compared. -/
namespace L2.Dl
open PySem PySem.Spec PyProof.Rows
/-- a text that == may look at -/
def Lay (s : Str) : Prop := PyData.canLay0 (.str s) = true
theorem pyEq_str {a b : Str} (ha : Lay a) (hb : Lay b) : pyEq (.str a) (.str b) = some (a == b) := by
  unfold pyEq
  simp only [toPy]
  have h1 : SeqAt.shaped (.str a) = true := by unfold SeqAt.shaped; rw [ha]; rfl
  have h2 : SeqAt.shaped (.str b) = true := by unfold SeqAt.shaped; rw [hb]; rfl
  rw [h1, h2]
  rfl
theorem deq_str {a b : Str} (ha : Lay a) (hb : Lay b) : deq (.str a) (.str b) = some (a == b) := by
  unfold deq
  rw [pyEq_str ha hb]
theorem dne_str {a b : Str} (ha : Lay a) (hb : Lay b) : dne (.str a) (.str b) = some (!(a == b)) := by
  unfold dne
  rw [deq_str ha hb]; rfl
theorem pyEq_int (a b : Int) : pyEq (.int a) (.int b) = some (a == b) := rfl
theorem deq_int (a b : Int) : deq (.int a) (.int b) = some (a == b) := rfl
theorem dne_int (a b : Int) : dne (.int a) (.int b) = some (!(a == b)) := rfl
theorem dne_bl (a b : Bool) : dne (.bl a) (.bl b) = some (!(a == b)) := rfl
theorem layAll {l : List Str} (h : ∀ s ∈ l, Lay s) : PyData.canLayAll0 (l.map .str) = true := by
  induction l with
  | nil => rfl
  | cons a l ih =>
    simp only [List.map_cons, PyData.canLayAll0, Bool.and_eq_true]
    exact ⟨h a List.mem_cons_self, ih fun s hs => h s (List.mem_cons_of_mem _ hs)⟩
theorem depthAll_strs (l : List Str) : PyData.depthAll (l.map .str) = 0 := by
  induction l with
  | nil => rfl
  | cons a l ih => simp only [List.map_cons, PyData.depthAll, ih, PyData.depth]; rfl
theorem shaped_strs {l : List Str} (h : ∀ s ∈ l, Lay s) : SeqAt.shaped (.list (l.map .str)) = true := by
  unfold SeqAt.shaped
  simp only [PyData.canLay0, layAll h, PyData.depth, depthAll_strs]
  rfl
theorem eqvAll_strs : ∀ (l m : List Str), PyData.eqvAll (l.map .str) (m.map .str) = decide (l = m)
  | [], [] => rfl
  | [], _ :: _ => rfl
  | _ :: _, [] => rfl
  | a :: l, b :: m => by
    simp only [List.map_cons, PyData.eqvAll, PyData.eqv, eqvAll_strs l m]
    by_cases e : a = b
    · subst e; simp
    · simp [e]
theorem pyEq_strs {l m : List Str} (hl : ∀ s ∈ l, Lay s) (hm : ∀ s ∈ m, Lay s) : pyEq (.lst (l.map .str)) (.lst (m.map .str)) = some (decide (l = m)) := by
  unfold pyEq
  simp only [toPy, toPyL_str, shaped_strs hl, shaped_strs hm, Bool.and_self, if_true, PyData.eqv, eqvAll_strs]
theorem deq_strs {l m : List Str} (hl : ∀ s ∈ l, Lay s) (hm : ∀ s ∈ m, Lay s) : deq (.lst (l.map .str)) (.lst (m.map .str)) = some (decide (l = m)) := by
  unfold deq
  rw [pyEq_strs hl hm]
theorem dne_strs {l m : List Str} (hl : ∀ s ∈ l, Lay s) (hm : ∀ s ∈ m, Lay s) : dne (.lst (l.map .str)) (.lst (m.map .str)) = some (!decide (l = m)) := by
  unfold dne
  rw [deq_strs hl hm]; rfl
/-! membership -/
theorem all_sc_str (l : List Str) : (l.map D.str).all D.sc = true := by simp [List.all_eq_true, D.sc]
theorem memD_strs (x : Str) (l : List Str) : memD (.str x) (.lst (l.map .str)) = some (decide (x ∈ l)) := by
  show seqMem (.str x) (l.map .str) = _
  unfold seqMem
  rw [if_pos ⟨rfl, all_sc_str l⟩]
  congr 1
  rw [Bool.eq_iff_iff, List.any_eq_true, decide_eq_true_iff]
  constructor
  · rintro ⟨y, hy, e⟩
    obtain ⟨s, hs, rfl⟩ := List.mem_map.mp hy
    have e : (s == x) = true := e
    rw [← beq_iff_eq.mp e]
    exact hs
  · intro h
    exact ⟨.str x, List.mem_map.mpr ⟨x, h, rfl⟩, beq_self_eq_true x⟩
theorem nmemD_strs (x : Str) (l : List Str) : nmemD (.str x) (.lst (l.map .str)) = some (!decide (x ∈ l)) := by
  unfold nmemD
  rw [memD_strs]; rfl
theorem inr_inj (a b : Str) (h : (Sum.inr a : Key) = .inr b) : a = b := by cases h; rfl
/-- a dict with names as keys -/
def nd (f : Str → D) (l : List Str) : List (Key × D) := l.map fun x => (.inr x, f x)
theorem valD_nd {f : Str → D} {l : List Str} {a : Str} (h : a ∈ l) : valD (nd f l) (.inr a) = some (f a) := valD_map (fun x : Str => (.inr x : Key)) inr_inj f l a h
theorem valD_nd_none {f : Str → D} {l : List Str} {a : Str} (h : a ∉ l) : valD (nd f l) (.inr a) = none := valD_map_none (fun x : Str => (.inr x : Key)) inr_inj f l a h
theorem nd_keys (f : Str → D) (l : List Str) : (nd f l).map (·.1) = l.map .inr := by simp [nd]
theorem nd_keyD (f : Str → D) (l : List Str) : ((nd f l).map fun p => keyD p.1) = l.map .str := by simp [nd, keyD]
theorem memD_nd (a : Str) (f : Str → D) (l : List Str) : memD (.str a) (.dct (nd f l)) = some (decide (a ∈ l)) := by
  show (keyOf (.str a)).map (fun k => (valD (nd f l) k).isSome) = _
  show some ((valD (nd f l) (.inr a)).isSome) = _
  by_cases h : a ∈ l
  · rw [valD_nd h]; simp [h]
  · rw [valD_nd_none h]; simp [h]
theorem nmemD_nd (a : Str) (f : Str → D) (l : List Str) : nmemD (.str a) (.dct (nd f l)) = some (!decide (a ∈ l)) := by
  unfold nmemD
  rw [memD_nd]; rfl
theorem subscD_nd {a : Str} {f : Str → D} {l : List Str} (h : a ∈ l) : subscD (.dct (nd f l)) (.str a) = some (.v (f a)) := by
  show (match valD (nd f l) (.inr a) with
    | none => none
    | some d => some (R.v d)) = _
  rw [valD_nd h]
theorem gLen_nd (f : Str → D) (l : List Str) : gLen [.dct (nd f l)] = some (.v (.int l.length)) := by
  show some (R.v (.int ((nd f l).length : Nat))) = _
  simp [nd]
theorem gSorted_nd (f : Str → D) (l : List Str) : gSorted [.dct (nd f l)] = some (.f (.lst ((sortS l).map .str))) := gSorted_names (nd_keys f l)
/-- a key put -/
theorem putD_nd_new {f : Str → D} {l : List Str} {a : Str} {d : D} (h : a ∉ l) (hf : f a = d) : putD (nd f l) (.inr a) d = nd f (l ++ [a]) := by
  unfold putD
  rw [if_neg]
  · simp [nd, hf]
  · simp only [List.any_eq_true, not_exists]
    rintro kv ⟨h1, h2⟩
    obtain ⟨x, hx, rfl⟩ := List.mem_map.mp h1
    have := inr_inj _ _ (of_decide_eq_true h2)
    exact h (this ▸ hx)
theorem nd_congr {f g : Str → D} {l : List Str} (h : ∀ x ∈ l, f x = g x) : nd f l = nd g l := by
  unfold nd
  apply List.map_congr_left
  intro x hx
  rw [h x hx]
theorem putD_nd_old {f : Str → D} {l : List Str} {a : Str} {d : D} (h : a ∈ l) : putD (nd f l) (.inr a) d = nd (fun x => if x = a then d else f x) l := by
  unfold putD
  rw [if_pos]
  · unfold nd
    rw [List.map_map]
    apply List.map_congr_left
    intro x hx
    simp only [Function.comp]
    by_cases e : x = a
    · subst e; simp
    · have : (Sum.inr x : Key) ≠ .inr a := fun z => e (inr_inj _ _ z)
      simp [e, this]
  · rw [List.any_eq_true]
    exact ⟨(.inr a, f a), List.mem_map.mpr ⟨a, h, rfl⟩, by simp⟩
theorem dropD_nd {f : Str → D} {l : List Str} {a : Str} : dropD (nd f l) (.inr a) = nd f (l.filter fun x => decide (x ≠ a)) := by
  unfold dropD nd
  rw [List.filter_map]
  congr 1
  apply List.filter_congr
  intro x _
  simp only [Function.comp]
  by_cases e : x = a
  · subst e; simp
  · have : (Sum.inr x : Key) ≠ .inr a := fun z => e (inr_inj _ _ z)
    simp [e, this]
end L2.Dl
/-! One step of the reckoning each: what an expression, a statement gives when its parts give what they give. -/
namespace L2.Dl
open PySem PySem.Spec PyProof.Rows
variable {S S1 S2 S3 S4 : SS} {fa fb fe fk ff : M R} {ft fu : M Bool} {f g : M Fl} {fl : M (List R)} {ra rb re rk rf r : R} {rs : List R} {da db d d0 d1 d2 k : D} {ds l : List D} {i : Nat} {b : Bool}
theorem ok_sV : sV d S = .ok (.v d) S := rfl
theorem ok_shr (h : S[i]? = some (.shr d)) : sNm i S = .ok (.at i) S := by unfold sNm; rw [h]
theorem ok_own {t : Option Nat} (h : S[i]? = some (.own t d)) : sNm i S = .ok (.at i) S := by unfold sNm; rw [h]
theorem ok_sOp {g : D → D → Option R} (ha : fa S = .ok ra S1) (hb : fb S1 = .ok rb S2) (la : look S2 ra = some da) (lb : look S2 rb = some db) (hg : g da db = some r) : sOp g fa fb S = .ok r S2 := by
  unfold sOp; simp only [ha, hb, Res.bind, la, lb, bind, Option.bind, hg, lift]
theorem ok_sOpB {g : D → D → Option Bool} (ha : fa S = .ok ra S1) (hb : fb S1 = .ok rb S2) (la : look S2 ra = some da) (lb : look S2 rb = some db) (hg : g da db = some b) : sOp (toB g) fa fb S = .ok (.v (.bl b)) S2 :=
  ok_sOp ha hb la lb (by unfold toB; rw [hg]; rfl)
theorem ok_sCmpT {g : D → D → Option Bool} (ha : fa S = .ok ra S1) (hb : fb S1 = .ok rb S2) (la : look S2 ra = some da) (lb : look S2 rb = some db) (hg : g da db = some b) : sCmpT g fa fb S = .ok b S2 := by
  unfold sCmpT; simp only [ha, hb, Res.bind, la, lb, bind, Option.bind, hg, liftT]
theorem ok_sUn {g : D → Option R} (ha : fa S = .ok ra S1) (la : look S1 ra = some da) (hg : g da = some r) : sUn g fa S = .ok r S1 := by
  unfold sUn; simp only [ha, Res.bind, la, bind, Option.bind, hg, lift]
theorem ok_sTru (ha : fa S = .ok ra S1) (la : look S1 ra = some da) (hg : da.truth = some b) : sTru fa S = .ok b S1 := by
  unfold sTru lookB; simp only [ha, Res.bind, la, bind, Option.bind, hg, liftT]
theorem ok_sAndF (h : ft S = .ok false S1) : sAnd ft fu S = .ok false S1 := by unfold sAnd; simp [h, Res.bind]
theorem ok_sAndT (h : ft S = .ok true S1) (hu : fu S1 = .ok b S2) : sAnd ft fu S = .ok b S2 := by unfold sAnd; simp [h, Res.bind, hu]
theorem ok_sOrT (h : ft S = .ok true S1) : sOr ft fu S = .ok true S1 := by unfold sOr; simp [h, Res.bind]
theorem ok_sOrF (h : ft S = .ok false S1) (hu : fu S1 = .ok b S2) : sOr ft fu S = .ok b S2 := by unfold sOr; simp [h, Res.bind, hu]
theorem ok_sNot (h : ft S = .ok b S1) : sNot ft S = .ok (!b) S1 := by unfold sNot; simp [h, Res.bind]
theorem ok_sCons (ha : fa S = .ok ra S1) (hl : fl S1 = .ok rs S2) : sCons fa fl S = .ok (ra :: rs) S2 := by unfold sCons; simp [ha, hl, Res.bind]
theorem ok_sCall {g : List D → Option R} (hl : fl S = .ok rs S1) (ll : lookL S1 rs = some ds) (hg : g ds = some r) : sCall g fl S = .ok r S1 := by
  unfold sCall; simp only [hl, Res.bind, ll, bind, Option.bind, hg, lift]
theorem ok_sMake {g : List D → Option R} (hl : fl S = .ok rs S1) (hv : valsR S1 rs = some (ds, S2)) (hg : g ds = some r) : sMake g fl S = .ok r S2 := by
  unfold sMake; simp only [hl, Res.bind, hv, hg, lift]
theorem ok_callM {md : List Bool} {Fn : List D → FR} {io bo : List Nat} {fr : Bool} {iod : List D} (hl : fl S = .ok rs S1) (ha : argD S1 md rs = some (ds, io, bo)) (hn : io.Nodup ∧ ∀ i ∈ io, i ∉ bo) (hf : Fn ds = .ret d fr iod) :
    callM md Fn fl S = .ok (if fr then .f d else .v d) (callK S1 io bo (flatR fr d) iod) := by
  unfold callM; simp only [hl, Res.bind, ha, if_pos hn, hf]
theorem ok_sAsg (ha : fa S = .ok ra S1) (hs : setR S1 i ra = some S2) : sAsg i fa S = .ok .nx S2 := by unfold sAsg; simp only [ha, Res.bind, hs, nxt]
theorem ok_sExpr (ha : fa S = .ok ra S1) : sExpr fa S = .ok .nx S1 := by unfold sExpr; simp only [ha, Res.bind]
theorem ok_sRet {fr : Bool} (ha : fa S = .ok ra S1) (hs : retR S1 ra = some (d, fr, S2)) : sRet fa S = .ok (.rt d fr) S2 := by unfold sRet; simp only [ha, Res.bind, hs]
theorem ok_sSeq {q : Res Fl} (hf : f S = .ok .nx S1) (hg : g S1 = q) : sSeq f g S = q := by unfold sSeq; simp only [hf, Res.bind, hg]
theorem ok_sSeqR {fr : Bool} (hf : f S = .ok (.rt d fr) S1) : sSeq f g S = .ok (.rt d fr) S1 := by unfold sSeq; simp only [hf, Res.bind]
theorem ok_sIfT {q : Res Fl} (ht : ft S = .ok true S1) (hf : f S1 = q) : sIfS ft f g S = q := by unfold sIfS; simp [ht, Res.bind, hf]
theorem ok_sIfF {q : Res Fl} (ht : ft S = .ok false S1) (hg : g S1 = q) : sIfS ft f g S = q := by unfold sIfS; simp [ht, Res.bind, hg]
theorem ok_sFor {fi : M (List D)} {tg : D → SS → Option SS} {body : M Fl} {q : Res Fl} (hi : fi S = .ok ds S1) (h : forL tg body ds S1 = q) : sFor fi tg body S = q := by unfold sFor; simp only [hi, Res.bind, h]
theorem ok_iSeq (ha : fa S = .ok ra S1) (hv : valR S1 ra = some (d, S2)) (hs : seqOf d = some ds) : iSeq fa S = .ok ds S2 := by unfold iSeq; simp only [ha, Res.bind, hv, hs]
theorem ok_iRng {h : List D → Option (List D)} (hl : fl S = .ok rs S1) (ll : lookL S1 rs = some ds) (hs : h ds = some l) : iRng h fl S = .ok l S1 := by unfold iRng; simp only [hl, Res.bind, ll, hs]
theorem ok_mutL {h : List D → List D → Option (List D × D)} {t0 t : Option Nat} {l0 l l' : List D} (h0 : S[i]? = some (.own t0 (.lst l0))) (hl : fl S = .ok rs S1) (hv : valsR S1 rs = some (ds, S2)) (ho : S2[i]? = some (.own t (.lst l))) (hh : h l ds = some (l', d)) :
    mutL i h fl S = .ok (.v d) (S2.set i (.own t (.lst l'))) := by
  unfold mutL ownL; simp only [h0, hl, Res.bind, hv, ho, hh]
theorem ok_sPut {c c' : D} {t : Option Nat} (hv : fb S = .ok rb S1) (v : valR S1 rb = some (d, S2)) (h0 : (ownC S2 i).isSome = true) (hk : fk S2 = .ok rk S3) (lk : look S3 rk = some k) (ho : ownC S3 i = some (t, c)) (hp : putAt c k d = some c') :
    sPut i fb fk S = .ok .nx (S3.set i (.own t c')) := by
  obtain ⟨q, hq⟩ := Option.isSome_iff_exists.mp h0
  unfold sPut; simp only [hv, Res.bind, v, hq, hk, lk, ho, hp]
theorem ok_sDel {t0 t : Option Nat} {l0 l : List (Key × D)} {kk : Key} (h0 : S[i]? = some (.own t0 (.dct l0))) (hk : fk S = .ok rk S1) (lk : look S1 rk = some k) (ho : S1[i]? = some (.own t (.dct l))) (hkk : keyOf k = some kk) (hv : (valD l kk).isSome = true) :
    sDel i fk S = .ok .nx (S1.set i (.own t (.dct (dropD l kk)))) := by
  unfold sDel ownK; simp only [h0, hk, Res.bind, lk, ho, hkk, hv, if_true]
theorem ok_sAugN {g : D → D → Option R} (h0 : S[i]? = some (.shr d0)) (he : fe S = .ok re S1) (l1 : look S1 re = some d1) (hg : g d0 d1 = some (.v d)) : sAugN i fe g S = .ok .nx (S1.set i (.shr d)) := by
  unfold sAugN; simp only [h0, he, Res.bind, l1, hg]
theorem ok_sAugS {g : D → D → Option R} {c c1 c2 c' k2 : D} {t0 t1 t : Option Nat} (h0 : (ownC S i).isSome = true) (hk : fk S = .ok rk S1) (lk : look S1 rk = some k) (h1 : ownC S1 i = some (t1, c1)) (hg0 : getAt c1 k = some d0) (he : fe S1 = .ok re S2) (l1 : look S2 re = some d1) (lk2 : look S2 rk = some k2)
    (h2 : ownC S2 i = some (t, c2)) (hg : g d0 d1 = some (.v d2)) (hp : putAt c2 k2 d2 = some c') : sAugS i fk fe g S = .ok .nx (S2.set i (.own t c')) := by
  obtain ⟨q, hq⟩ := Option.isSome_iff_exists.mp h0
  unfold sAugS; simp only [hq, hk, Res.bind, lk, h1, hg0, he, l1, lk2, h2, hg, hp]
theorem ok_sGet2 {l0 l : List (Key × D)} {kk : Key} (ha : fa S = .ok ra S1) (h0 : look S1 ra = some (.dct l0)) (hk : fk S1 = .ok rk S2) (hf : ff S2 = .ok rf S3) (hv : valR S3 rf = some (d, S4)) (h4 : look S4 ra = some (.dct l)) (lk : look S4 rk = some k) (hkk : keyOf k = some kk) :
    sGet2 fa fk ff S = .ok (.v ((valD l kk).getD d)) S4 := by
  unfold sGet2 lookD; simp only [ha, Res.bind, h0, hk, hf, hv, h4, lk, hkk]
theorem ok_sGet1 {l0 l : List (Key × D)} {kk : Key} (ha : fa S = .ok ra S1) (h0 : look S1 ra = some (.dct l0)) (hk : fk S1 = .ok rk S2) (h4 : look S2 ra = some (.dct l)) (lk : look S2 rk = some k) (hkk : keyOf k = some kk) :
    sGet1 fa fk S = .ok (.v ((valD l kk).getD .non)) S2 := by
  unfold sGet1 lookD; simp only [ha, Res.bind, h0, hk, h4, lk, hkk]
theorem ok_runF {n : Nat} {md : List Bool} {fr : Bool} {io : List D} (h : f (startS md ds 0 ++ List.replicate (n - ds.length) .un) = .ok (.rt d fr) S) (ho : outS md S 0 = some io) : runF n md f ds = .ret d fr io := by
  unfold runF; simp only [h, ho]
theorem ok_runFN {n : Nat} {md : List Bool} {io : List D} (h : f (startS md ds 0 ++ List.replicate (n - ds.length) .un) = .ok .nx S) (ho : outS md S 0 = some io) : runF n md f ds = .ret .non false io := by
  unfold runF; simp only [h, ho]
end L2.Dl
/-! Exceptions: raise of an own class (its __init__ tells the base's and keeps "what"). -/
namespace L2.Dl
open PySem PySem.Spec PyProof.Rows
/-- what the text's base class of errors stands for -/
structure BaseC (K : PySem.W.Frag) (C0 : Addr) : Prop where
  ga : PySem.W.specialIn K (.ref C0) "__getattribute__" = some (some (.builtin "type.__getattribute__"))
  ty : PySem.W.typeIn K (.ref C0) = some (.type "type")
  rd : PySem.W.readsIn K C0 (.type "type") = true
  ini : PySem.W.findCls K (.ref C0) (.type "type") "__init__" = some (.val (.builtin "ValueError.__init__"))
section
variable {X : Cx} {x : Str} {C0 : Addr} {e : Expr} {es : List Expr} {ta : TA} {p1 p2 pos : Pos}
/-- Base.__init__(self, ..): as ValueError's -/
theorem pe_baseinit {pl : Sem Bool} (B : BaseC X.K C0) (hm : X.mg x = some (.ref C0)) (ha : PA X (e :: es) ta) (hg : Gl X x := by rfl) (hdb : (x == ("__debug__" : Str)) = false := by decide)
    (hev : eval (.Call (.Attribute (.Name x p1) "__init__" p2) (e :: es) [] pos) X.env = (do
      let ov ← eval (.Name x p1) X.env
      standAt p2.atName
      let (g, self_) ← holding [ov] (getMethod ov "__init__" pl)
      callWith pos g self_ (backTo pos (starEach (e :: es) X.env)) (backToKw pos (keywordEach [] X.env))) := by rfl)
    (hst : starEach (e :: es) X.env = (false, eval e X.env) :: starEach es X.env := by rfl) (hpl : (backTo pos (starEach es X.env)).any (·.1) = false := by rfl) :
    PE X (.Call (.Attribute (.Name x p1) "__init__" p2) (e :: es) [] pos) (tVeI X.K ta) := ⟨fun pins s σ H Q I h => by
  refine PySem.W.methodCall_KW (ld_glob I hg hm ?_ hdb) hev
  have fr := I.fr
  obtain ⟨m0, fr⟩ := fr
  refine PySem.W.method_of_cls fr I.ok.mod.kin B.ga (PySem.W.cls_val fr I.ok.mod.kin B.ty B.rd B.ini (by decide +kernel) ?_)
  show wpAny _ _ (callWith pos (.builtin "ValueError.__init__") [] (backTo pos (starEach (e :: es) X.env)) []) _ _ _
  refine PyProof.Rows.callWith_method1 (thn (ha.run pos pins _ σ H _ (I.tok _) h) ?_) hst hpl
  rintro us s1 ⟨vs, H1, I1, r1, a, C, ws, rfl, hl, T, ea, q⟩
  cases r1 with
  | @cons _ u0 _ ur ra rw' =>
    cases (show u0 = Value.ref a from ra)
    have hlen : ur.length ≤ sizeLine := by
      have := Paired.length rw'
      rw [sizeLine_eq]
      omega
    exact oinit_ok T I1 ea hlen fun s' J => ⟨.non, H1, J, rfl, q⟩⟩
end
/-- the promise of such an __init__ -/
def spI (K : PySem.W.Frag) (pre : Str) : Sp := fun vs H Q _ => ∃ (a C : Addr) (s : Str), vs = [.ref a, .str s] ∧ OexC K C ∧ PySem.W.findIn K (.ref C) "what" = some none ∧ H a = some (exo a C none) ∧ pre.length + s.length ≤ 1000000 ∧
  ∀ dx, H dx = none → dx ≠ a → Q .non (upd (upd H dx (exd dx [(("what" : Str), .str s)])) a (exo a C (some dx)))
section
variable {P : Program} {w : World} {K : PySem.W.Frag} {mg : Str → Option Value} {base : Heap}
/-- what the __init__'s text asks -/
def tIni (K : PySem.W.Frag) (pre : Str) : TS := tSeq (tDrop (tVeI K (L2.tCons (tVar 0) (L2.tCons (tOp (fun x y H Q => ∃ i j, x = .str i ∧ y = .str j ∧ i.length + j.length ≤ sizeLine ∧ Q (.str (i ++ j)) H) (tC (.str pre)) (tVar 1)) L2.tNil)))) (tOst K "what" (tVar 0) (tVar 1))
theorem init_of {q : Str} {params : Arguments} {body : List Stmt} {scope : Scope} {f : Addr} {fd : FuncData} {pre : Str} (F : FunD K "__init__" q params body scope [] [] f fd) (S : FnScope ["self", "what"] ["self", "what"] scope)
    (hb : ∀ cdv A outer s H E, PSs (cxOf (L2.CX P w) P w K mg base ["self", "what"] q scope f cdv A outer s H E) body (tIni K pre)) :
    FnOk P w K mg base (L2.CX P w) 1 f fd ["self", "what"] (spI K pre) := by
  refine F.ok (k := 0) S (fun vs H Q E ⟨a, C, s, h, _⟩ => by rw [h]; rfl) fun cdv A outer s H vs Q E hr h => ?_
  obtain ⟨a, C, wt, rfl, T, hno, ea, hl, q⟩ := h
  refine ⟨_, hb cdv A outer s H E, ?_⟩
  show tDrop (tVeI K (L2.tCons (tVar 0) (L2.tCons (tOp (fun x y H Q => ∃ i j, x = .str i ∧ y = .str j ∧ i.length + j.length ≤ sizeLine ∧ Q (.str (i ++ j)) H) (tC (.str pre)) (tVar 1)) L2.tNil))) _ _ H
  refine ⟨.ref a, rfl, .str wt, rfl, ⟨_, _, rfl, rfl, line1 hl, ?_⟩⟩
  refine ⟨a, C, _, rfl, by simp, T, ea, ?_⟩
  refine ⟨.str wt, rfl, .ref a, rfl, a, C, rfl, T, hno, .inl ⟨ea, fun dx n ne => q dx n ne⟩⟩
end
/-! ### raise -/
/-- class number i of errors -/
structure ErrC (P : Program) (w : World) (K : PySem.W.Frag) (mg : Str → Option Value) (base : Heap) (br : Brings) (i : Nat) (x pre : Str) : Prop where
  gl : mg x = some (.ref (br i))
  ox : OexC K (br i)
  na : PySem.W.findIn K (.ref (br i)) "what" = some none
  ini : ∃ fI fd, PySem.W.findIn K (.ref (br i)) "__init__" = some (some (.ref fI)) ∧ PySem.W.typeIn K (.ref fI) = some (.type "function") ∧ FnOk P w K mg base (L2.CX P w) 1 fI fd ["self", "what"] (spI K pre) ∧ Binds K fd ["self", "what"] []
def sRaise (i : Nat) (pre : Str) (fe : M R) : M Fl := fun S => (fe S).bind fun r S1 => match look S1 r with
  | some (.str s) => if pre.length + s.length ≤ 1000000 then .ex i (.str s) S1 else .no
  | _ => .no
section
variable {X : Cx} {z : Dx} {W : WX} {br : Brings} {i : Nat} {x pre : Str} {e : Expr} {fe : M R} {p pos pos' : Pos}
theorem S_raise (c : Ct X z W) (ec : ErrC X.prog X.w X.K X.mg X.base br i x pre) (hcl : z.cl = br) (hr : Room 2 X.A) (he : E X z W e fe) (hg : Gl X x := by rfl) (hdb : (x == ("__debug__" : Str)) = false := by decide)
    (hst : starEach [e] X.env = (false, eval e X.env) :: starEach [] X.env := by rfl) (hpl : (backTo pos (starEach [] X.env)).any (·.1) = false := by rfl) :
    Sm X z W (.Raise (some (.Call (.Name x p) [e] [] pos)) none pos') (sRaise i pre fe) := by
  obtain ⟨fI, fd, h1, h2, h3, h4⟩ := ec.ini
  refine ⟨PS.le (ps_raise c.calm c.tk (pmk_oex ec.ox h1 h2 h3 hr h4 .nil (fun _ _ _ _ u s1 I q => c.tk u s1 (XE.of_call I (fun _ _ _ z => z.elim) q)) hg ec.gl (pa_cons he.pe pa_nil hst) hdb hst hpl)) fun D σ H ⟨S, G, si, h⟩ => ?_⟩
  refine (stepS si h).mono fun v H1 ⟨ra, S1, G1, si1, g1, dn, q⟩ => ?_
  show [v].length ≤ 1000 ∧ _
  refine ⟨by simp, fun a ha => ?_⟩
  cases el : look S1 ra with
  | none => rw [el] at q; exact q.elim
  | some d =>
    rw [el] at q
    cases d with
    | str s =>
      simp only at q
      split at q
      · rename_i hz
        have vw := dn.view si1 el
        cases vw.str
        refine ⟨a, _, s, rfl, ec.ox, ec.na, upd_same, hz, fun dx n ne => ⟨rfl, dx, _, upd_same, by rw [upd_ne ne, upd_same], by rw [upd_ne ne] at n; exact n, ?_⟩⟩
        have n1 : H1 dx = none := by rw [upd_ne ne] at n; exact n
        have eH : upd (del (upd (upd (upd H1 a (exo a (br i) none)) dx (exd dx [(("what" : Str), V.str s)])) a (exo a (br i) (some dx))) a) dx (.xd [(("what" : Str), V.str s)]) = upd H1 dx (.xd [(("what" : Str), V.str s)]) := by
          funext b
          by_cases hb : b = dx
          · subst hb; rw [upd_same, upd_same]
          · rw [upd_ne hb, upd_ne hb]
            by_cases hb2 : b = a
            · subst hb2; rw [del_same, ha]
            · rw [del_ne hb2, upd_ne hb2, upd_ne hb, upd_ne hb2]
        rw [eH]
        have x1 : Ext H1 (upd H1 dx (.xd [(("what" : Str), V.str s)])) G1 G1 := Ext.own si1.le n1
        have wk := q σ _ G1 (si1.ext x1) x1.go
        have wk := wk dx (.str s) upd_same (.str s)
        rw [hcl] at wk
        exact wk
      · exact q.elim
    | _ => exact q.elim
end
end L2.Dl
/-! try: .. except X as n: .. except Y as n: .. -/
namespace L2.Dl
open PySem PySem.Spec PyProof.Rows
abbrev HdT := Value × (Addr → Value → Option Addr → TS)
/-- the wishes of the clauses, each with the name in slot i -/
def wClauses (K : PySem.W.Frag) (i : Nat) (Wo : WX) (D : Ends) : List HdT → WX
  | [] => Wo
  | p :: rest => fun k dx τ J => ∃ yes, PySem.W.exmOne K k p.1 = some yes ∧
      (yes = true → ∀ ad, J ad = none → p.2 ad k dx { nx := fun τ' J' => D.nx (τ'.set i none) J', rt := D.rt, bk := fun τ' J' => D.bk (τ'.set i none) J', ct := fun τ' J' => D.ct (τ'.set i none) J' } (τ.set i (some (.ref ad))) J) ∧
      (yes = false → wClauses K i Wo D rest k dx τ J)
inductive ClausesOk (X : Cx) (n : Str) : List ExceptHandler → List HdT → Prop
  | nil : ClausesOk X n [] []
  | cons {x : Str} {k : Value} {ts : Addr → Value → Option Addr → TS} {st : Stmt} {sts : List Stmt} {np hp : Pos} {hs : List ExceptHandler} {l : List HdT} (nm : Names X x k)
      (su : ∀ (ad : Addr) (ob : Obj) (cls : Value) (dx : Option Addr) (pn : List (Addr × Obj)), Zc cls dx ob → (∃ vs, ob.data = .fields vs) → PSs (X.suite ad ((ad, ob) :: pn)) (st :: sts) (ts ad cls dx)) (more : ClausesOk X n hs l) :
      ClausesOk X n (.ExceptHandler (some (.Name x np)) (some n) (st :: sts) hp :: hs) ((k, ts) :: l)
section
variable {X : Cx} {n : Str} {i : Nat} {body : List Stmt} {h₁ : ExceptHandler} {hs : List ExceptHandler} {l : List HdT} {pos : Pos} {tb : WX → TS} {Wo : WX}
theorem ps_try_clauses (hst : X.stack = X.env :: X.outer) (hfr : X.env.frame = some X.env.locals) (nd : X.N.Nodup) (hi : X.N[i]? = some n) (lcl : X.env.kindOf n = some .local) (tk : Takes X Wo)
    (hb : ∀ (W : WX) (pn : List (Addr × Obj)) (xe : Value → Shared → Prop), Takes (X.tr pn xe) W → PassesOwn (model X.prog X.w) X.A X.env xe → PSs (X.tr pn xe) body (tb W))
    (hh : ClausesOk X n (h₁ :: hs) l) : PS X (.Try body (h₁ :: hs) [] [] pos) (fun D σ H => tb (wClauses X.K i Wo D l) D σ H) := ⟨fun pins s σ H D I h => by
  have frames : X.A.frames = some (X.env :: X.outer) := by rw [I.ok.frames, hst]
  have isLoc : Loc X.env.scope n := .inl lcl
  refine wpAny_Try_except (wpAny_mono ((hb (wClauses X.K i Wo D l) (X.pn ++ pins) (fun e sA => wpAny (model X.prog X.w) X.A (noteFrame e X.env) (fun _ sB => wpAny (model X.prog X.w) X.A (setFlight e none) (fun _ sC =>
    wpAny (model X.prog X.w) X.A (handleBy e X.env (h₁ :: hs)) (SP X pins D) X.xe sC) X.xe sB) X.xe sA) (fun u s' xx => ?_) PassesOwn.looking).run [] s σ H D (I.toTry _) h) (fun f s1 hsp => ?_) (fun _ _ he => he))
  · obtain ⟨ad, B, sI, pins', τ, J, cls, dx, rfl, J', nb, up, sky, na, os, ag, wish⟩ := xx
    have ok := I.ok
    have JJ : Inv X pins τ J sI := J'.ofTry ok
    show wpAny (model X.prog X.w) X.A (noteFrame (.ref ad) X.env) _ _ _
    refine Sky.land Zc.steady frames hfr (by rw [← hst]; exact sky) fun hA flA upA => ?_
    have JA : Inv X pins τ J { s' with heap := hA } := JJ.landed nb flA.1 (up.trans upA) os ag
    obtain ⟨oA, vsA, geA, zcA, daA⟩ := flA.there
    have noFrame : ad ∉ frs (X.env :: X.outer) := fun hm => by
      obtain ⟨_, o', e', nf⟩ := flA.2.2.1.mem hm
      rw [geA] at e'; cases e'
      exact nf _ daA
    have nL : ad ≠ X.env.locals := fun q => noFrame (List.mem_filterMap.mpr ⟨X.env, List.mem_cons_self, by rw [hfr, q]⟩)
    have nF : ad ∉ X.fs := fun hm => by
      obtain ⟨en, he, q⟩ := List.mem_filterMap.mp hm
      exact noFrame (List.mem_filterMap.mpr ⟨en, List.mem_cons_of_mem _ he, q⟩)
    have SA := JA.suite geA daA na nL nF
    have walk : ∀ {hs' : List ExceptHandler} {l' : List HdT}, ClausesOk X n hs' l' → wClauses X.K i Wo D l' cls dx τ J → wpAny (model X.prog X.w) X.A (handleBy (.ref ad) X.env hs') (SP X pins D) X.xe { s' with heap := hA } := by
      intro hs' l' ck
      induction ck with
      | nil =>
        intro out
        refine wpAny_handleBy_nil ?_
        obtain ⟨_, _, _, o9, vs9, T9, _, ts9, ge9, zc9, da9, h19, hr9⟩ := id flA
        unfold PySem.passOn
        refine wpAny_bind (wpAny_field ge9 da9 h19 ?_)
        rw [if_neg (show ¬ ((Value.ref T9 == Value.none) = true) by simp)]
        have last : wpAny (model X.prog X.w) X.A (setFlight (.ref ad) X.env.frame) (fun _ sD => wpAny (model X.prog X.w) X.A (throw (.ref ad) : Sem Flow) (SP X pins D) X.xe sD) X.xe { s' with heap := hA } := by
          rw [hfr]
          exact HandSPX.setFlight_upZ flA fun hB' hhB upB => wpAny_throw (tk _ _ ⟨ad, B, sI, pins, τ, J, cls, dx, rfl, JJ, nb, (up.trans upA).trans upB, .inr (.inr (by rw [hst]; exact hhB)), na, os, ag, out⟩)
        first
          | exact wpAny_bind (wpAny_pure (wpAny_bind last))
          | exact wpAny_bind last
      | @cons x k ts st sts np hp hs2 l2 nm su more ih =>
        rintro ⟨yes, ey, hy, hn⟩
        refine wpAny_handleBy_cons (codeAny_handlers_test ?_) (by intro q; cases q)
        have tyA : PySem.W.Looks (model X.prog X.w) hA (typeOf (.ref ad)) cls := fun A Q E sQ kk q => wpAny_typeOf_ref (kk _ _ geA) (by rw [zcA.1]; exact q)
        have lk := PySem.W.exm_one (M := model X.prog X.w) JA.kIn tyA ey
        have nameIs : ∀ {Q : Value → Shared → Prop} {E : Value → Shared → Prop}, Q k { s' with heap := hA } → wpAny (model X.prog X.w) (X.A.mark (some (.ref ad))) (eval (.Name x np) X.env) Q E { s' with heap := hA } := by
          intro Q E q
          rcases nm with ⟨hg, hdb, hm | ⟨hm, hv, hnn⟩⟩
          · exact ld_glob (X := X.suite ad ((ad, oA) :: (X.pn ++ pins))) SA hg hm q hdb
          · exact ld_blt (X := X.suite ad ((ad, oA) :: (X.pn ++ pins))) SA hg hm hv q hnn hdb
        refine nameIs (lk.here ?_)
        cases yes with
        | false => exact ih (hn rfl)
        | true =>
          refine codeAny_handlers_suite_as (HandSPX.lands_againZ flA fun hC flC upC => ?_)
          have JC : Inv X pins τ J { s' with heap := hC } := JJ.landed nb flC.1 ((up.trans upA).trans upC) os ag
          obtain ⟨oC, vsC, geC, zcC, daC⟩ := flC.there
          have SC := JC.suite geC daC na nL nF
          refine store_ok (X := X.suite ad ((ad, oC) :: (X.pn ++ pins))) (v := .ref ad) SC nd hi isLoc rfl (fun sE SE => ?_) (.inr lcl)
          refine wpAny_mono ((su ad oC cls dx (X.pn ++ pins) zcC ⟨_, daC⟩).run [] sE _ J _ SE (hy rfl ad na)) (fun fl sF hsp => ?_) (fun _ _ q => q.elim)
          have gone : ∀ {τ6 : St} {J6 : Hp} {Q : Shared → Prop}, Inv (X.suite ad ((ad, oC) :: (X.pn ++ pins))) [] τ6 J6 sF → (∀ sG, Inv X pins (τ6.set i none) J6 sG → Q sG) →
              wpAny (model X.prog X.w) X.A (do bindName X.env n .none; unbindBehindTheSuite X.env n hp) (fun _ sG => Q sG) X.xe sF := fun S6 hq => gone_ok (S6.unsuite ok) nd hi lcl hq
          cases fl with
          | ret u =>
            obtain ⟨v6, τ6, J6, S6, r6, q6⟩ := hsp
            exact gone S6 fun sG JG => ⟨_, _, _, JG, r6, q6⟩
          | next =>
            obtain ⟨τ6, J6, S6, q6⟩ := hsp
            exact gone S6 fun sG JG => ⟨_, _, JG, q6⟩
          | brk =>
            obtain ⟨τ6, J6, S6, q6⟩ := hsp
            exact gone S6 fun sG JG => ⟨_, _, JG, q6⟩
          | cont =>
            obtain ⟨τ6, J6, S6, q6⟩ := hsp
            exact gone S6 fun sG JG => ⟨_, _, JG, q6⟩
    exact walk hh wish
  · have ok := I.ok
    cases f with
    | ret u =>
      obtain ⟨v, τ, J, JT, r, q⟩ := hsp
      exact ⟨v, τ, J, JT.ofTry ok, r, q⟩
    | next =>
      obtain ⟨τ, J, JT, q⟩ := hsp
      exact wpAny_execs_nil ⟨τ, J, JT.ofTry ok, q⟩
    | brk =>
      obtain ⟨τ, J, JT, q⟩ := hsp
      exact ⟨τ, J, JT.ofTry ok, q⟩
    | cont =>
      obtain ⟨τ, J, JT, q⟩ := hsp
      exact ⟨τ, J, JT.ofTry ok, q⟩⟩
end
end L2.Dl
/-! try over data: the clauses return what they make of the error's "what". -/
namespace L2.Dl
open PySem PySem.Spec PyProof.Rows
inductive HK where
  | what
  | pair (t : Str)
  | eq (t : Str)
def HK.app : HK → Str → D
  | .what, s => .str s
  | .pair t, s => .tup [.str t, .str s]
  | .eq t, s => .bl (s == t)
/-- where the clause's value stands -/
def HK.at_ : HK → Str → VK → Hp → Prop
  | .what, s, Q, H => Q (.str s) H
  | .pair t, s, Q, H => ∀ p, H p = none → Q (.ref p) (upd H p (.tup [.str t, .str s]))
  | .eq t, s, Q, H => Q (.bl (s == t)) H
def tHK (i : Nat) (C : Addr) (k : HK) : Addr → Value → Option Addr → TS := fun ad cls dx D σ H => ∃ (dd : Addr) (s : Str), σ[i]? = some (some (.ref ad)) ∧ cls = .ref C ∧ dx = some dd ∧ H dd = some (.xd [(("what" : Str), .str s)]) ∧ k.at_ s D.rt H
section
variable {X : Cx} {C ad : Addr} {ob : Obj} {cls : Value} {dx : Option Addr} {pn : List (Addr × Obj)} {i k0 : Nat} {n t : Str} {p p1 p2 p3 p4 p5 : Pos}
/-- error.what -/
theorem pe_what (T : XfC X.K C) (na : PySem.W.findIn X.K (.ref C) "what" = some none) (hz : Zc cls dx ob) (hf : ∃ vs, ob.data = .fields vs) (hN : X.N[i]? = some n) (hv : Vis X.env.scope n) (hd : (n == ("__debug__" : Str)) = false) (hcd : (n == ("__classdict__" : Str)) = false)
    (hb : attributeBase (.Name n p1) "what" X.env (eval (.Name n p1) X.env) = eval (.Name n p1) X.env) :
    PE (X.suite ad ((ad, ob) :: pn)) (.Attribute (.Name n p1) "what" p2) (fun σ H Q => ∃ (dd : Addr) (s : Str), σ[i]? = some (some (.ref ad)) ∧ cls = .ref C ∧ dx = some dd ∧ H dd = some (.xd [(("what" : Str), .str s)]) ∧ Q (.str s) H) :=
  PE.le (pe_xf T na hz hf (pe_var (X := X.suite ad ((ad, ob) :: pn)) hN hv hd hcd) hb) fun σ H Q ⟨dd, s, e1, e2, e3, e4, q⟩ => ⟨.ref ad, e1, rfl, e2, dd, _, .str s, e3, e4, rfl, q⟩
theorem su_what (T : XfC X.K C) (na : PySem.W.findIn X.K (.ref C) "what" = some none) (hz : Zc cls dx ob) (hf : ∃ vs, ob.data = .fields vs) (hN : X.N[i]? = some n) (hv : Vis X.env.scope n := by first | exact Or.inl rfl | exact Or.inr (Or.inl rfl) | exact Or.inr (Or.inr rfl))
    (hd : (n == ("__debug__" : Str)) = false := by decide) (hcd : (n == ("__classdict__" : Str)) = false := by decide) (hb : attributeBase (.Name n p1) "what" X.env (eval (.Name n p1) X.env) = eval (.Name n p1) X.env := by rfl) :
    PSs (X.suite ad ((ad, ob) :: pn)) [.Return (some (.Attribute (.Name n p1) "what" p2)) p] (tHK i C .what ad cls dx) :=
  PSs.le (pss_one (ps_ret (pe_what T na hz hf hN hv hd hcd hb))) fun D σ H ⟨dd, s, e1, e2, e3, e4, q⟩ => ⟨dd, s, e1, e2, e3, e4, q⟩
theorem su_pair (T : XfC X.K C) (na : PySem.W.findIn X.K (.ref C) "what" = some none) (hz : Zc cls dx ob) (hf : ∃ vs, ob.data = .fields vs) (hN : X.N[i]? = some n) (hv : Vis X.env.scope n := by first | exact Or.inl rfl | exact Or.inr (Or.inl rfl) | exact Or.inr (Or.inr rfl))
    (hd : (n == ("__debug__" : Str)) = false := by decide) (hcd : (n == ("__classdict__" : Str)) = false := by decide) (hb : attributeBase (.Name n p1) "what" X.env (eval (.Name n p1) X.env) = eval (.Name n p1) X.env := by rfl)
    (h1 : starEach [.Constant (.str t) k0 p4, .Attribute (.Name n p1) "what" p2] X.env = (false, eval (.Constant (.str t) k0 p4) X.env) :: starEach [.Attribute (.Name n p1) "what" p2] X.env := by rfl)
    (h2 : starEach [.Attribute (.Name n p1) "what" p2] X.env = (false, eval (.Attribute (.Name n p1) "what" p2) X.env) :: starEach [] X.env := by rfl) {x1 : Nat} :
    PSs (X.suite ad ((ad, ob) :: pn)) [.Return (some (.Tuple [.Constant (.str t) k0 p4, .Attribute (.Name n p1) "what" p2] x1 p3)) p] (tHK i C (.pair t) ad cls dx) :=
  PSs.le (pss_one (ps_ret (pe_tup (pa_cons pe_str (pa_cons (pe_what T na hz hf hN hv hd hcd hb) pa_nil h2) h1)))) fun D σ H ⟨dd, s, e1, e2, e3, e4, q⟩ => ⟨dd, s, e1, e2, e3, e4, by show 2 ≤ sizeLine; decide, fun p hp => q p hp⟩
theorem su_eq (T : XfC X.K C) (na : PySem.W.findIn X.K (.ref C) "what" = some none) (hz : Zc cls dx ob) (hf : ∃ vs, ob.data = .fields vs) (hN : X.N[i]? = some n) (hv : Vis X.env.scope n := by first | exact Or.inl rfl | exact Or.inr (Or.inl rfl) | exact Or.inr (Or.inr rfl))
    (hd : (n == ("__debug__" : Str)) = false := by decide) (hcd : (n == ("__classdict__" : Str)) = false := by decide) (hb : attributeBase (.Name n p1) "what" X.env (eval (.Name n p1) X.env) = eval (.Name n p1) X.env := by rfl) :
    PSs (X.suite ad ((ad, ob) :: pn)) [.Return (some (.Compare (.Attribute (.Name n p1) "what" p2) [.Eq] [.Constant (.str t) k0 p4] p3)) p] (tHK i C (.eq t) ad cls dx) :=
  PSs.le (pss_one (ps_ret (pe_cmpR op_eq (pe_what T na hz hf hN hv hd hcd hb) pe_str (by rfl)))) fun D σ H ⟨dd, s, e1, e2, e3, e4, q⟩ => ⟨dd, s, e1, e2, e3, e4, rfl, by
    have e : decide (V.str s = V.str t) = (s == t) := by rw [Bool.eq_iff_iff]; simp
    show D.rt (.bl (decide (V.str s = V.str t))) H
    rw [e]; exact q⟩
end
/-- try: a body; clauses by class number; n: how many classes there are -/
def sTry (n i : Nat) (fb : M Fl) (hs : List (Nat × HK)) : M Fl := fun S => match fb S with
  | .ex c w S1 => if c < n ∧ i < S1.length then (match hs.find? (fun h => h.1 == c), w with
    | some h, .str s => .ok (.rt (h.2.app s) false) (S1.set i .un)
    | _, _ => .no) else .no
  | r => r
/-- a class of errors that a clause names -/
structure HdC (K : PySem.W.Frag) (mg : Str → Option Value) (br : Brings) (c : Nat) (x : Str) : Prop where
  gl : mg x = some (.ref (br c))
  na : PySem.W.findIn K (.ref (br c)) "what" = some none
  xf : XfC K (br c)
section
variable {X : Cx} {z : Dx} {W : WX} {br : Brings} {n : Str} {i nc : Nat} {body : List Stmt} {h₁ : ExceptHandler} {hds : List ExceptHandler} {hs : List (Nat × HK)} {pos : Pos} {fb : M Fl}
abbrev hdl (i : Nat) (br : Brings) (hs : List (Nat × HK)) : List HdT := hs.map fun h => (.ref (br h.1), tHK i (br h.1) h.2)
theorem clauses_find {Wo : WX} {D : Ends} {c : Nat} {d : Addr} {s : Str} {σ' : L2.St} {H' : Hp} {K : PySem.W.Frag} {h : Nat × HK} : ∀ {hs : List (Nat × HK)}, (∀ g ∈ hs, PySem.W.exmOne K (.ref (br c)) (.ref (br g.1)) = some (decide (c = g.1))) → hs.find? (fun g => g.1 == c) = some h →
    i < σ'.length → H' d = some (.xd [(("what" : Str), .str s)]) → (∀ ad, H' ad = none → h.2.at_ s D.rt H') → wClauses K i Wo D (hdl i br hs) (.ref (br c)) (some d) σ' H'
  | [], _, e, _, _, _ => by simp at e
  | g :: hs, hx, e, hi, hd, q => by
    show ∃ yes, _
    refine ⟨_, hx g List.mem_cons_self, fun hy ad ha => ?_, fun hn => ?_⟩
    · have hc : c = g.1 := of_decide_eq_true hy
      rw [List.find?_cons_of_pos (by simp [hc])] at e
      cases e
      exact ⟨d, s, List.getElem?_set_self hi, by rw [hc], rfl, hd, q ad ha⟩
    · have hc : ¬ c = g.1 := of_decide_eq_false hn
      rw [List.find?_cons_of_neg (by simpa using fun z => hc z.symm)] at e
      exact clauses_find (fun g' hg => hx g' (List.mem_cons_of_mem _ hg)) e hi hd q
theorem S_try (c : Ct X z W) (hcl : z.cl = br) (hi : X.N[i]? = some n) (hb : ∀ (W' : WX) (pn : List (Addr × Obj)) (xe : Value → Shared → Prop), Ct (X.tr pn xe) z W' → Sms (X.tr pn xe) z W' body fb)
    (hh : ClausesOk X n (h₁ :: hds) (hdl i br hs)) (hx : ∀ c, c < nc → ∀ g ∈ hs, PySem.W.exmOne X.K (.ref (br c)) (.ref (br g.1)) = some (decide (c = g.1)))
    (hst : X.stack = X.env :: X.outer := by rfl) (hfr : X.env.frame = some X.env.locals := by rfl) (lcl : X.env.kindOf n = some .local := by rfl) :
    Sm X z W (.Try body (h₁ :: hds) [] [] pos) (sTry nc i fb hs) := by
  refine ⟨PS.le (ps_try_clauses hst hfr c.nd hi lcl c.tk (fun W' pn xe tk po => (hb W' pn xe ⟨c.hk, c.calm, po, tk, c.nd⟩).ps) hh) fun D σ H ⟨S, G, si, h⟩ => ⟨S, G, si, ?_⟩⟩
  unfold sTry at h
  cases e : fb S with
  | no => rw [e] at h; exact h
  | ok fl S1 => rw [e] at h; cases fl <;> exact h
  | ex cn w S1 =>
    rw [e] at h
    simp only at h
    split at h
    · rename_i hcn
      split at h
      · rename_i _ _ hd s ef
        intro σ' H' G' si' g
        intro dd v hdd rv
        cases rv
        rw [hcl]
        have hlt : i < σ'.length := by
          rw [← si'.len]
          exact hcn.2
        · refine clauses_find (hx cn hcn.1) ef hlt hdd fun ad ha => ?_
          have su : SI z (S1.set i .un) (σ'.set i (some (.ref ad))) H' G' := si'.store (w := .un) trivial
          have gu : Go S1 (S1.set i .un) σ' (σ'.set i (some (.ref ad))) H' H' G' G' := by
            refine ⟨.refl _, fun _ _ q _ => .inl q, fun a ⟨j, t, d', q1, q2⟩ => ?_, fun _ _ q => .inl q, fun _ q => q⟩
            rcases SI.get_set q1 with ⟨_, q⟩ | ⟨hj, q⟩
            · cases q
            · rw [List.getElem?_set_ne (Ne.symm hj)] at q2
              exact .inl ⟨j, t, d', q, q2⟩
          cases hk : hd.2 with
          | what =>
            rw [hk] at h
            exact h _ _ H' G' su (g.trans gu) (.str s)
          | eq t =>
            rw [hk] at h
            exact h _ _ H' G' su (g.trans gu) (.bl _)
          | pair t =>
            rw [hk] at h
            intro p hp
            have x1 : Ext H' (upd H' p (.tup [.str t, .str s])) G' (upd G' p (.tup [.str t, .str s])) := Ext.new si'.le hp
            exact h _ _ _ _ (su.ext x1) ((g.trans gu).trans x1.go) (.tup (SqT.of upd_same) (.cons (.str t) (.cons (.str s) .nil)))
      · exact h.elim
    · exact h.elim
end
end L2.Dl
/-! {k: v}; xs.index(y); a def that calls itself. -/
namespace L2.Dl
open PySem PySem.Spec PyProof.Rows
section
variable {z : Dx} {W : WX} {S S1 : SS} {G G1 H H1 : Hp} {σ : L2.St} {Q : VK}
/-- the first part is read, its result shared; what it gave is told -/
theorem stepE {fa : M R} (si : SI z S σ H G) (hno : fa S ≠ .no) (hex : ∀ c w S1, fa S = .ex c w S1 → ∀ H' G', SI z S1 σ H' G' → Go S S1 σ σ H H' G G' → WOk z W G' σ H' c w) :
    tD z W fa σ H fun x H1 => ∃ ra S1 G1, fa S = .ok ra S1 ∧ SI z S1 σ H1 G1 ∧ Go S S1 σ σ H H1 G G1 ∧ DenS z σ G1 x ra := by
  refine ⟨S, G, si, ?_⟩
  cases e : fa S with
  | ok ra S1 =>
    intro v H1 G1 si1 g1 dn
    cases ra with
    | v d => exact ⟨.v d, S1, G1, rfl, si1, g1, dn⟩
    | f d =>
      obtain ⟨p, rfl, h1, h2, h3, h4⟩ := dn
      obtain ⟨o, ho⟩ := h4.there
      have gl : GLe G1 (upd G1 p o) := fun a u q => by rw [upd_ne (ne_of_none q h2)]; exact q
      refine ⟨.f d, S1, _, rfl, si1.add ho h2 h3 (h4.nt ho), ⟨g1.ge.trans gl, fun a o' q n => (g1.fr a o' q n).ge gl, g1.ow, fun a u q => ?_, g1.th⟩, h4.rep ho gl upd_same⟩
      by_cases e : a = p
      · subst e; exact .inr (.inl h1)
      · rw [upd_ne e] at q; exact g1.nw a u q
    | «at» i => exact ⟨.at i, S1, G1, rfl, si1, g1, dn⟩
  | ex c w S1 => exact hex c w S1 e
  | no => exact hno e
end
section
variable {X : Cx} {z : Dx} {W : WX} {a b o e : Expr} {fa fb : M R} {pos apos cpos : Pos}
/-! ### {k: v} -/
def sDisp1 (fk fv : M R) : M R := fun S => (fk S).bind fun rk S1 => (fv S1).bind fun rv S2 => match valR S2 rv with
  | none => .no
  | some (d, S3) => match look S3 rk with
    | none => .no
    | some k => match keyOf k with
      | none => .no
      | some kk => .ok (.f (.dct [(kk, d)])) S3
theorem kV_of {G H : Hp} {v : V} {d : D} {k : Key} (r : View z G H v d) (h : Dl.keyOf d = some k) : v = kV k := by
  unfold Dl.keyOf at h
  split at h
  · cases h; exact r.int
  · cases h; exact r.str
  · cases h
theorem E_disp1 (ha : E X z W a fa) (hb : E X z W b fb) : E X z W (.Dict [some a] [b] pos) (sDisp1 fa fb) := by
  refine ⟨PE.le (pe_disp (pps_cons ha.pe hb.pe pps_nil) rfl rfl (by simp) (by simp)) fun σ H Q ⟨S, G, si, h⟩ p hp => ?_, ha.k⟩
  have x1 : Ext H (upd H p (.dK [])) G G := Ext.own si.le hp
  have gp : G p = none := si.le.none hp
  have np : ¬ Owns S σ p := fun q => by
    obtain ⟨_, ob, e⟩ := si.ownFree q
    rw [hp] at e; cases e
  unfold sDisp1 at h
  refine (stepE (W := W) (fa := fa) (si.ext x1) (fun e => by rw [e] at h; exact h.elim) (fun c w S1 e H' G' s1 g1 => by rw [e] at h; exact h H' G' s1 (x1.go.trans g1))).mono fun x H1 ⟨rk, S1, G1, e1, si1, g1, da⟩ => ?_
  rw [e1] at h
  simp only [Res.bind] at h
  refine (stepE (W := W) (fa := fb) si1 (fun e => by rw [e] at h; exact h.elim) (fun c w S2 e H' G' s2 g2 => by rw [e] at h; exact h H' G' s2 (x1.go.trans (g1.trans g2)))).mono fun y H2 ⟨rv, S2, G2, e2, si2, g2, db⟩ => ?_
  rw [e2] at h
  simp only at h
  cases ev : valR S2 rv with
  | none => rw [ev] at h; exact h.elim
  | some q =>
    obtain ⟨d, S3⟩ := q
    rw [ev] at h
    simp only at h
    obtain ⟨G3, si3, g3, r3⟩ := valR_run si2 db ev
    cases ek : look S3 rk with
    | none => rw [ek] at h; exact h.elim
    | some k =>
      rw [ek] at h
      simp only at h
      cases ekk : Dl.keyOf k with
      | none => rw [ekk] at h; exact h.elim
      | some kk =>
        rw [ekk] at h
        simp only at h
        have hx := kV_of (((da.mono g2.ge).mono g3.ge).view si3 ek) ekk
        have gg := (g1.trans g2).trans g3
        have g3p : G3 p = none := by
          cases e : G3 p with
          | none => rfl
          | some u =>
            rcases gg.nw p u e with q | q | q
            · rw [gp] at q; cases q
            · rw [upd_same] at q; cases q
            · exact absurd q np
        have h2p : H2 p = some (.dK []) := (gg.fr p _ upd_same np).own g3p
        have no3 : ¬ Owns S3 σ p := fun q => by
          rcases gg.ow p q with q | q
          · exact np q
          · rw [upd_same] at q; cases q
        refine ⟨h2p, [(kk, y)], by rw [hx]; rfl, by simp, ?_⟩
        show Q (.ref p) (upd H2 p (.dK [(kk, y)]))
        -- the dict at p is written: nobody else knows it
        have le' : LeH G3 (upd H2 p (.dK [(kk, y)])) := fun a u q => by
          have ne : a ≠ p := fun e => by subst e; rw [g3p] at q; cases q
          exact (si3.le a u q).imp (fun w => ⟨by rw [upd_ne ne]; exact w.1, w.2⟩) (Or.imp (fun w => by rw [upd_ne ne]; exact w) fun w => w.keep fun b' o' e' n' => by
            have nb : b' ≠ p := fun e'' => by subst e''; rw [h2p] at e'; cases e'; exact n' trivial
            rw [upd_ne nb]; exact e')
        have si4 : SI z S3 σ (upd H2 p (.dK [(kk, y)])) G3 := ⟨si3.len, le', si3.shr, fun i t d' e => by
          obtain ⟨a', q1, q2, q3, q4⟩ := si3.own i t d' e
          have ne : a' ≠ p := fun z' => no3 ⟨i, t, d', e, by rw [← z']; exact q1⟩
          exact ⟨a', q1, q2, q3.mono (.refl _) (fun o' e' => by rw [upd_ne ne]; exact e'), q4⟩, si3.sep, fun a' e => by
          by_cases hz : a' = p
          · subst hz; rw [upd_same] at e; cases e
          · rw [upd_ne hz] at e; exact si3.dom a' e, si3.tab⟩
        have g4 : Go S S3 σ σ H (upd H2 p (.dK [(kk, y)])) G G3 := ⟨gg.ge, fun a' o' e n => by
          have ne : a' ≠ p := ne_of_none e hp
          have q := gg.fr a' o' (by rw [upd_ne ne]; exact e) n
          rcases q with q | ⟨q1, q2, ob, q3⟩ | ⟨q1, ps, ps', q2, q3⟩
          · exact .inl (by rw [upd_ne ne]; exact q)
          · exact .inr (.inl ⟨q1, q2, ob, by rw [upd_ne ne]; exact q3⟩)
          · exact .inr (.inr ⟨q1, ps, ps', q2, by rw [upd_ne ne]; exact q3⟩), fun a' q => by
          rcases gg.ow a' q with w | w
          · exact .inl w
          · by_cases hz : a' = p
            · subst hz; exact .inr hp
            · rw [upd_ne hz] at w; exact .inr w, fun a' u e => by
          rcases gg.nw a' u e with w | w | w
          · exact .inl w
          · by_cases hz : a' = p
            · subst hz; exact .inr (.inl hp)
            · rw [upd_ne hz] at w; exact .inr (.inl w)
          · exact .inr (.inr w), fun a' e => by
          by_cases hz : a' = p
          · subst hz; exact hp
          · rw [upd_ne hz] at e
            have := gg.th a' e
            rw [upd_ne hz] at this
            exact this⟩
        exact h (.ref p) _ G3 si4 g4 ⟨p, rfl, hp, g3p, no3, [(kk, y)], upd_same, rfl, .cons r3 .nil⟩
/-! ### xs.index(y) -/
def gIndex : List D → Option R
  | [.lst l, y] => if y.sc = true ∧ l.all D.sc = true then (match l.findIdx? fun u => eqS u y with
    | some j => some (.v (.int (j : Nat)))
    | none => none) else none
  | _ => none
def sIdx (fa fb : M R) : M R := fun S => (fa S).bind fun ra S1 => match lookLst S1 ra with
  | none => .no
  | some _ => (fb S1).bind fun rb S2 => lift (do let da ← look S2 ra; let db ← look S2 rb; gIndex [da, db]) S2
theorem E_index (hk : z.K = X.K) (ha : E X z W o fa) (hb : E X z W e fb) (hbase : attributeBase o "index" X.env (eval o X.env) = eval o X.env := by rfl)
    (hfew : ((backTo cpos (starEach [e] X.env)).all (fun x => !x.1) && (backToKw cpos (keywordEach [] X.env)).all (fun x => x.1.isSome)
      && decide ([e].length + ([] : List Keyword).length + (if ([] : List Keyword).isEmpty then 0 else 1) < 30)) = true := by rfl)
    (hline : (apos.endLine == cpos.line) = true := by rfl) (hs : starEach [e] X.env = (false, eval e X.env) :: starEach [] X.env := by rfl) (hplain : (backTo cpos (starEach [] X.env)).any (·.1) = false := by rfl) :
    E X z W (.Call (.Attribute o "index" apos) [e] [] cpos) (sIdx fa fb) := by
  refine ⟨PE.le (pe_bm PySem.F.plainAttrs_list PySem.F.slot_list_index PySem.F.type_list_index mt_index ha.pe (pa_cons hb.pe pa_nil hs) hbase hfew hline hs hplain) fun σ H Q ⟨S, G, si, h⟩ => ?_, hk⟩
  refine (step si h).mono fun x H1 ⟨ra, S1, G1, si1, _, da, h1⟩ => ?_
  cases el : lookLst S1 ra with
  | none => rw [el] at h1; exact h1.elim
  | some l0 =>
    rw [el] at h1
    simp only at h1
    have lk : look S1 ra = some (.lst l0) := by
      unfold lookLst at el
      split at el
      · rename_i l' e'; cases el; exact e'
      · cases el
    obtain ⟨p, xs0, rfl, hp0, _⟩ := (da.view si1 lk).lst si1.le
    refine ⟨.inl ⟨rfl, xs0, SqL.of hp0⟩, (step si1 h1).mono fun y H2 ⟨rb, S2, G2, si2, g2, db, h2⟩ => ?_⟩
    cases e1 : look S2 ra with
    | none => rw [e1] at h2; exact h2.elim
    | some d1 =>
      cases e2 : look S2 rb with
      | none => rw [e1, e2] at h2; exact h2.elim
      | some d2 =>
        rw [e1, e2] at h2
        have h2 : Post z W S2 G2 H2 σ Q (lift (gIndex [d1, d2]) S2) := h2
        unfold gIndex at h2
        split at h2
        · rename_i l y' he
          cases he
          split at h2
          · rename_i hz
            cases ef : l.findIdx? fun u => eqS u d2 with
            | none => rw [ef] at h2; exact h2.elim
            | some j =>
              rw [ef] at h2
              obtain ⟨a', ys, ea, hpa, rl⟩ := ((da.mono g2.ge).view si2 e1).lst si2.le
              obtain ⟨v1, v2⟩ := sc_view hz.1 (db.view si2 e2)
              obtain ⟨w1, w2⟩ := scs_rep hz.2 rl
              obtain ⟨hj, q1, q2⟩ := List.findIdx?_eq_some_iff_getElem.mp ef
              have alls := List.all_eq_true.mp hz.2
              refine ⟨a', ys, y, j, scV l[j], ea, rfl, SqL.of hpa, v2, w2, ?_, ?_, fun m z' hm hz' => ?_, h2 (.int (j : Nat)) H2 G2 si2 .refl (.int _)⟩
              · rw [w1, List.getElem?_map, List.getElem?_eq_getElem hj]; rfl
              · rw [v1, eqS_V (alls _ (List.getElem_mem hj)) hz.1]; exact q1
              · rw [w1, List.getElem?_map, List.getElem?_eq_getElem (by omega)] at hz'
                cases hz'
                rw [v1, eqS_V (alls _ (List.getElem_mem _)) hz.1]
                simpa using q2 m hm
          · exact h2.elim
        · exact h2.elim
end
/-! ### a def that calls itself: the ground -/
theorem fn_zero {P : Program} {w : World} {K : PySem.W.Frag} {mg : Str → Option Value} {base : Heap} {br : Brings} {k : Nat} {f : Addr} {fd : FuncData} {ps : List Str} {md : List Bool} : FnOk P w K mg base (L2.CX P w) k f fd ps (spD br K md fun _ => .no) :=
  ⟨fun vs H Q E ⟨G, ds, _, _, _, _, h⟩ => h.elim, fun A outer s H args us vs Q E _ _ _ _ ⟨G, ds, _, _, _, _, h⟩ => h.elim⟩
end L2.Dl
/-! What the head tells of the classes of errors. -/
namespace L2.Dl
open PySem PySem.Spec PyProof.Rows LamX
def oexB (K : PySem.W.Frag) (C : Addr) : Bool := (match K.lookup C with
  | some ⟨.type "type", _, .cls cd, sl⟩ => (match cd.mro, sl.toList with
    | .ref C' :: bm, [_, _, _, _, some (.builtin n), _] => C' == C && (n == "ValueError.__new__" && (!cd.hasDel && (cd.hasDict && PySem.HandSPX.refsVE bm)))
    | _, _ => false)
  | _ => false) && (decide (PySem.W.findIn K (.ref C) "__setattr__" = some (some (.builtin "object.__setattr__"))) && (decide (PySem.W.subIn K (.ref C) (.type "BaseException") = some true) && (decide (PySem.W.typeIn K (.ref C) = some (.type "type")) && PySem.W.keepIn K (.ref C))))
theorem oexB_ok {K : PySem.W.Frag} {C : Addr} (h : oexB K C = true) : OexC K C := by
  unfold oexB at h
  obtain ⟨h1, h⟩ := Bool.and_eq_true_iff.mp h
  obtain ⟨h2, h⟩ := Bool.and_eq_true_iff.mp h
  obtain ⟨h3, h⟩ := Bool.and_eq_true_iff.mp h
  obtain ⟨h4, h5⟩ := Bool.and_eq_true_iff.mp h
  refine ⟨?_, of_decide_eq_true h2, of_decide_eq_true h3, of_decide_eq_true h4, h5⟩
  split at h1
  · rename_i dd cd sl ho
    split at h1
    · rename_i C' bm k0 k1 k2 k3 n k5 hm hs
      simp only [Bool.and_eq_true, beq_iff_eq, Bool.not_eq_true'] at h1
      obtain ⟨rfl, rfl, hdel, hdict, hr⟩ := h1
      obtain ⟨nm, bs, mro, nsp, qn, hd, sn, sub, ab, col, del⟩ := cd
      dsimp only at hm hdel hdict
      subst hm hdel hdict
      have hsl : sl = #[k0, k1, k2, k3, some (.builtin "ValueError.__new__"), k5] := by
        obtain ⟨l⟩ := sl
        simp only at hs
        rw [hs]
      subst hsl
      exact ⟨nm, qn, nsp, bs, bm, sn, sub, ab, col, dd, k0, k1, k2, k3, k5, ho, hr⟩
    · cases h1
  · cases h1
def errB (K : PySem.W.Frag) (x : Str) : Bool := oexB K (He.ga K x) && (decide (PySem.W.findIn K (.ref (He.ga K x)) "what" = some none) && (xfB K (He.ga K x) &&
  (decide (PySem.W.findIn K (.ref (He.ga K x)) "__init__" = some (some (.ref (He.fAd K (x, some "__init__"))))) && decide (PySem.W.typeIn K (.ref (He.fAd K (x, some "__init__"))) = some (.type "function")))))
def baseB (K : PySem.W.Frag) (x : Str) : Bool := decide (PySem.W.specialIn K (.ref (He.ga K x)) "__getattribute__" = some (some (.builtin "type.__getattribute__"))) && (decide (PySem.W.typeIn K (.ref (He.ga K x)) = some (.type "type")) &&
  (PySem.W.readsIn K (He.ga K x) (.type "type") && (match PySem.W.findCls K (.ref (He.ga K x)) (.type "type") "__init__" with
  | some (.val v) => decide (v = .builtin "ValueError.__init__")
  | _ => false)))
theorem baseB_ok {K : PySem.W.Frag} {x : Str} (h : baseB K x = true) : BaseC K (He.ga K x) := by
  unfold baseB at h
  obtain ⟨h1, h⟩ := Bool.and_eq_true_iff.mp h
  obtain ⟨h2, h⟩ := Bool.and_eq_true_iff.mp h
  obtain ⟨h3, h4⟩ := Bool.and_eq_true_iff.mp h
  refine ⟨of_decide_eq_true h1, of_decide_eq_true h2, h3, ?_⟩
  split at h4
  · rename_i v e; rw [e, of_decide_eq_true h4]
  · cases h4
/-- no class of errors is another one -/
def exsB (K : PySem.W.Frag) (cls : List Str) : Bool := (List.range cls.length).all fun i => (List.range cls.length).all fun j => decide (PySem.W.exmOne K (.ref (He.ga K (cls.getD i ""))) (.ref (He.ga K (cls.getD j ""))) = some (decide (i = j)))
def exE (tf : List He.Defn) (base : Str) (cls : List Str) (K : PySem.W.Frag) : Bool := exT tf K && (baseB K base && (cls.all (errB K) && exsB K cls))
/-- the facts together -/
structure ExF (K : PySem.W.Frag) (tf : List He.Defn) (base : Str) (cls : List Str) : Prop where
  tabs : (tf.map fun p => (He.cT K p).2).Nodup
  base : BaseC K (He.ga K base)
  err : ∀ x ∈ cls, errB K x = true
  xm : ∀ i, i < cls.length → ∀ j, j < cls.length → PySem.W.exmOne K (.ref (He.ga K (cls.getD i ""))) (.ref (He.ga K (cls.getD j ""))) = some (decide (i = j))
theorem exE_ok {K : PySem.W.Frag} {tf : List He.Defn} {base : Str} {cls : List Str} (h : exE tf base cls K = true) : ExF K tf base cls := by
  unfold exE at h
  obtain ⟨h1, h⟩ := Bool.and_eq_true_iff.mp h
  obtain ⟨h2, h⟩ := Bool.and_eq_true_iff.mp h
  obtain ⟨h3, h4⟩ := Bool.and_eq_true_iff.mp h
  refine ⟨of_decide_eq_true h1, baseB_ok h2, fun x hx => List.all_eq_true.mp h3 x hx, fun i hi j hj => ?_⟩
  exact of_decide_eq_true (List.all_eq_true.mp (List.all_eq_true.mp h4 i (List.mem_range.mpr hi)) j (List.mem_range.mpr hj))
section
variable {P : Program} {w : World} {K : PySem.W.Frag} {mg : Str → Option Value} {base : Heap} {x pre bs : Str} {i : Nat} {fd : FuncData} {tf : List He.Defn} {cls : List Str} {tfq : List (He.Defn × Str)}
theorem errC_of (F : ExF K tf bs cls) (hi : cls.getD i "" = x) (hx : x ∈ cls) (g : mg x = some (.ref (He.ga K x))) (F1 : FnOk P w K mg base (L2.CX P w) 1 (He.fAd K (x, some "__init__")) fd ["self", "what"] (spI K pre)) (b : Binds K fd ["self", "what"] []) :
    ErrC P w K mg base (brOf K cls tfq) i x pre := by
  have h := F.err x hx
  unfold errB at h
  obtain ⟨h1, h⟩ := Bool.and_eq_true_iff.mp h
  obtain ⟨h2, h⟩ := Bool.and_eq_true_iff.mp h
  obtain ⟨h3, h⟩ := Bool.and_eq_true_iff.mp h
  obtain ⟨h4, h5⟩ := Bool.and_eq_true_iff.mp h
  have e : (brOf K cls tfq) i = He.ga K x := by show He.ga K (cls.getD i "") = _; rw [hi]
  exact ⟨by rw [e]; exact g, by rw [e]; exact oexB_ok h1, by rw [e]; exact of_decide_eq_true h2, _, fd, by rw [e]; exact of_decide_eq_true h4, of_decide_eq_true h5, F1, b⟩
theorem hdC_of (F : ExF K tf bs cls) (hi : cls.getD i "" = x) (hx : x ∈ cls) (g : mg x = some (.ref (He.ga K x))) : HdC K mg (brOf K cls tfq) i x := by
  have h := F.err x hx
  unfold errB at h
  obtain ⟨h1, h⟩ := Bool.and_eq_true_iff.mp h
  obtain ⟨h2, h⟩ := Bool.and_eq_true_iff.mp h
  obtain ⟨h3, h⟩ := Bool.and_eq_true_iff.mp h
  have e : (brOf K cls tfq) i = He.ga K x := by show He.ga K (cls.getD i "") = _; rw [hi]
  exact ⟨by rw [e]; exact g, by rw [e]; exact of_decide_eq_true h2, by rw [e]; exact xfB_ok h3⟩
end
/-- classes apart, by number -/
def XM (K : PySem.W.Frag) (br : Brings) (n : Nat) : Prop := ∀ i, i < n → ∀ j, j < n → PySem.W.exmOne K (.ref (br i)) (.ref (br j)) = some (decide (i = j))
theorem xm_of {K : PySem.W.Frag} {tf : List He.Defn} {bs : Str} {cls : List Str} {tfq : List (He.Defn × Str)} (F : ExF K tf bs cls) : XM K (brOf K cls tfq) cls.length := F.xm
theorem xm_at {K : PySem.W.Frag} {br : Brings} {n : Nat} {hs : List (Nat × HK)} (h : XM K br n) (hl : (hs.all fun g => decide (g.1 < n)) = true) : ∀ c, c < n → ∀ g ∈ hs, PySem.W.exmOne K (.ref (br c)) (.ref (br g.1)) = some (decide (c = g.1)) := fun c hc g hg =>
  h c hc g.1 (of_decide_eq_true (List.all_eq_true.mp hl g hg))
/-! the class's __init__ in the text -/
def clsBody : Stmt → List Stmt
  | .ClassDef (body := b) .. => b
  | _ => []
section
variable {X : Cx} {z : Dx} {W : WX} {k : Nat}
/-- sorted(xs, key=def) -/
theorem E_sf {j : Nat} {x y : Str} {a : Expr} {fa : M R} {Fn : List D → FR} {br : Brings} {nm : Option Str} {p fp kpos pos : Pos} (h : Cl X.prog X.w X.K X.mg X.base br y [x] [false] j Fn) (hcl : z.cl = br) (hr : Room k X.A) (hm : X.mg "sorted" = none) (ha : E X z W a fa) (hj : j + 2 ≤ k := by decide)
    (hg : Gl X "sorted" := by rfl) (hgf : Gl X y := by rfl) (hdb : (y == ("__debug__" : Str)) = false := by decide)
    (hs : starEach [a] X.env = (false, eval a X.env) :: starEach [] X.env := by rfl)
    (he : backTo pos (starEach [a] X.env) = (false, eval a X.env) :: backTo pos (starEach [] X.env) := by rfl) (hpl : (backTo pos (starEach [a] X.env)).any (·.1) = false := by rfl)
    (hall : (backToKw pos (keywordEach [⟨nm, .Name y fp, kpos⟩] X.env)).all (·.1.isSome) = true := by rfl) (hnone : (backToKw pos (keywordEach [⟨nm, .Name y fp, kpos⟩] X.env)).any (·.1.isNone) = false := by rfl)
    (hks : (backToKw pos (keywordEach [⟨nm, .Name y fp, kpos⟩] X.env)).filterMap (·.1) = [Str.ofString "key"] := by rfl) :
    E X z W (.Call (.Name "sorted" p) [a] [⟨nm, .Name y fp, kpos⟩] pos) (sSortF Fn fa) := by
  obtain ⟨f, fd, F, hmf, _, hb⟩ := h.ex
  exact E_sortF F hcl (hr.mono hj) hb hmf hm ha hg hgf hdb hs he hpl hall hnone hks
end
end L2.Dl
/-! zip of three, each a list or a tuple. -/
namespace L2.Dl
open PySem PySem.Spec PyProof.Rows
/-- a list (true) or a tuple -/
def SQk (k : Bool) (K : PySem.W.Frag) (H : Hp) (a : Addr) (xs : List V) : Prop := if k then SqL K H a xs else SqT K H a xs
def SeqH (k : Bool) (h : Heap) (a : Addr) (its : Array Value) : Prop := if k then h.IsList a its else h.IsTuple a its
def IterH (k : Bool) (h : Heap) (it a : Addr) (i : Nat) : Prop := if k then h.IsListIter it a i else h.IsTupleIter it a i
def iterO (k : Bool) (a : Addr) : Obj := if k then { cls := .type "list_iterator", data := .fields #[.ref a, .int 0 0] } else { cls := .type "tuple_iterator", data := .fields #[.ref a, .int 0 0] }
theorem seqH_of {X : Cx} {pins : List (Addr × Obj)} {σ : L2.St} {H : Hp} {s : Shared} {k : Bool} {a : Addr} {xs : List V} (I : Inv X pins σ H s) (h : SQk k X.K H a xs) : ∃ its : List Value, Vals xs its ∧ SeqH k s.heap a its.toArray := by
  cases k with
  | true =>
    obtain ⟨its, rv, p, _⟩ := I.list h
    exact ⟨its, rv, p.isList⟩
  | false =>
    obtain ⟨its, rv, p, _⟩ := I.tuple h
    obtain ⟨o, e, e2, n, d⟩ := p
    exact ⟨its, rv, ⟨_, e, by assumption, by exact ⟨_, d⟩⟩⟩
theorem iterH_at {k : Bool} {h h' : Heap} {it a : Addr} {i : Nat} (x : IterH k h it a i) (e : ∀ o, h.get? it = some o → h'.get? it = some o) : IterH k h' it a i := by
  cases k with
  | true => exact Heap.IsListIter.at (show h.IsListIter it a i from x) e
  | false => exact Heap.IsTupleIter.at (show h.IsTupleIter it a i from x) e
theorem iterH_obj {k : Bool} {h : Heap} {it a : Addr} {i : Nat} (x : IterH k h it a i) : ∃ o, h.get? it = some o ∧ ∀ v, o.data ≠ .cell v := by
  cases k with
  | true => obtain ⟨o, e, _, d⟩ := (show h.IsListIter it a i from x); exact ⟨o, e, fun v q => by rw [d] at q; cases q⟩
  | false => obtain ⟨o, e, _, d⟩ := (show h.IsTupleIter it a i from x); exact ⟨o, e, fun v q => by rw [d] at q; cases q⟩
theorem iterH_0 {k : Bool} {h : Heap} {it a : Addr} (e : h.get? it = some (iterO k a)) : IterH k h it a 0 := by
  cases k with
  | true => exact ⟨_, e, rfl, rfl⟩
  | false => exact ⟨_, e, rfl, rfl⟩
theorem drawsH {P : Program} {w : World} {A : Around} (hh : A.handled = none) (k : Bool) (it a : Addr) (ne : a ≠ it) (its : Array Value) : Draws P w A it [it, a] its.size (fun i v => its[i]? = some v) (fun i h => IterH k h it a i ∧ SeqH k h a its) := by
  cases k with
  | true => exact Draws.list hh it a ne its
  | false => exact Draws.tuple hh it a ne its
theorem beginsH (k : Bool) (a : Addr) (its : Array Value) : Begins (.ref a) (iterO k a) fun h => SeqH k h a its := by
  cases k with
  | true => exact begins_list a its
  | false => exact begins_tuple a its
theorem seqH_lt {k : Bool} {h : Heap} {a : Addr} {its : Array Value} (x : SeqH k h a its) : a < h.objs.size := by
  cases k with
  | true => obtain ⟨o, e, _⟩ := (show h.IsList a its from x); exact Heap.lt_size e
  | false => obtain ⟨o, e, _⟩ := (show h.IsTuple a its from x); exact Heap.lt_size e
/-- the walk over three -/
def Itg3 (K : PySem.W.Frag) (k1 k2 k3 : Bool) (a b c : Addr) (xs ys zs : List V) : It :=
  ⟨fun i H => (SQk k1 K H a xs ∧ SQk k2 K H b ys ∧ SQk k3 K H c zs) ∧ i < xs.length ∧ i < ys.length ∧ i < zs.length,
    fun i H v H' => ∃ T x y u, v = .ref T ∧ H T = none ∧ H' = upd H T (.tup [x, y, u]) ∧ xs[i]? = some x ∧ ys[i]? = some y ∧ zs[i]? = some u,
    fun i H => (SQk k1 K H a xs ∧ SQk k2 K H b ys ∧ SQk k3 K H c zs) ∧ (i ≤ xs.length ∧ i ≤ ys.length ∧ i ≤ zs.length) ∧ (i = xs.length ∨ i = ys.length ∨ i = zs.length)⟩
theorem turn_zip3 {P : Program} {w : World} {K : PySem.W.Frag} {elts : List Expr} {kk : Nat} {tpos : Pos} {k1 k2 k3 : Bool} {a b c z TI TO i1 i2 i3 : Addr} {xs ys zs : List V} (D : ZipSep3 z TI TO i1 i2 i3 [i1, a] [i2, b] [i3, c]) (n1 : a ≠ i1) (n2 : b ≠ i2) (n3 : c ≠ i3) :
    Turn P w K (.Tuple elts kk tpos) (Itg3 K k1 k2 k3 a b c xs ys zs) [z, TI, TO, i1, i2, i3] z (fun i h => IsZip h z TI TO .none ∧ IsTupOf3 h TI (.ref i1) (.ref i2) (.ref i3) ∧ (∃ x y u, IsTupOf3 h TO x y u) ∧ IterH k1 h i1 a i ∧ IterH k2 h i2 b i ∧ IterH k3 h i3 c i) where
  mem := List.mem_cons_self
  obj := fun i h ⟨hz, hTI, ⟨x, y, u, hTO⟩, t1, t2, t3⟩ q hq => by
    have : q = z ∨ q = TI ∨ q = TO ∨ q = i1 ∨ q = i2 ∨ q = i3 := by simpa using hq
    rcases this with rfl | rfl | rfl | rfl | rfl | rfl
    · exact ⟨_, hz, fun v q => nomatch q⟩
    · exact ⟨_, hTI, fun v q => nomatch q⟩
    · exact ⟨_, hTO, fun v q => nomatch q⟩
    · exact iterH_obj t1
    · exact iterH_obj t2
    · exact iterH_obj t3
  keep := fun i h h' ⟨hz, hTI, ⟨x, y, u, hTO⟩, t1, t2, t3⟩ k =>
    ⟨k z (by simp) _ hz, k TI (by simp) _ hTI, ⟨x, y, u, k TO (by simp) _ hTO⟩, iterH_at t1 fun o q => k i1 (by simp) o q, iterH_at t2 fun o q => k i2 (by simp) o q, iterH_at t3 fun o q => k i3 (by simp) o q⟩
  item := fun X hP hw hK hc i pins s σ H E I hf ⟨hz, hTI, ⟨x0, y0, u0, hTO⟩, t1, t2, t3⟩ ⟨⟨s1, s2, s3⟩, l1, l2, l3⟩ => by
    subst hP hw hK
    obtain ⟨its1, rv1, q1⟩ := seqH_of I s1
    obtain ⟨its2, rv2, q2⟩ := seqH_of I s2
    obtain ⟨its3, rv3, q3⟩ := seqH_of I s3
    have hh : X.A.in1.handled = none := I.ok.hd hc
    have hzl : z < s.heap.objs.size := Heap.lt_size hz
    refine wpAny_pyNext_zipD3_item D (drawsH hh k1 i1 a n1 its1.toArray) (drawsH hh k2 i2 b n2 its2.toArray) (drawsH hh k3 i3 c n3 its3.toArray) hz hTI hTO ⟨t1, q1⟩ ⟨t2, q2⟩ ⟨t3, q3⟩ (by simp [← rv1.length, l1]) (by simp [← rv2.length, l2]) (by simp [← rv3.length, l3])
      fun x1 x2 x3 h' tk p1 p2 p3 z' TO' e1 e2 e3 hT hsz hk => ?_
    refine ⟨_, rfl, wpAny_letOwnedTupleGo_zip (s := { s with heap := h', toks := tk }) z' fun h'' z'' sb => ?_⟩
    obtain ⟨u1, g1, r1⟩ := rv1.get (List.getElem?_eq_getElem l1)
    obtain ⟨u2, g2, r2⟩ := rv2.get (List.getElem?_eq_getElem l2)
    obtain ⟨u3, g3, r3⟩ := rv3.get (List.getElem?_eq_getElem l3)
    have p1 : its1[i]? = some x1 := by simpa using p1
    have p2 : its2[i]? = some x2 := by simpa using p2
    have p3 : its3[i]? = some x3 := by simpa using p3
    rw [g1] at p1; cases p1
    rw [g2] at p2; cases p2
    rw [g3] at p3; cases p3
    have hT2 : h''.get? s.heap.objs.size = some { cls := .type "tuple", data := .seq #[x1, x2, x3] } := (sb.2 _ (Nat.ne_of_gt hzl)).trans hT
    have new : ObjOk X.prog X.w (upd H s.heap.objs.size (.tup [xs[i], ys[i], zs[i]])) h'' s.heap.objs.size (.tup [xs[i], ys[i], zs[i]]) :=
      ⟨by show 3 ≤ sizeLine; decide, [x1, x2, x3], .cons r1 (.cons r2 (.cons r3 .nil)), ⟨_, hT2, rfl, _, rfl⟩⟩
    have kept : ∀ q o, q ∉ [z, TI, TO, i1, i2, i3] → s.heap.get? q = some o → h''.get? q = some o := fun q o hq e => by
      simp only [List.mem_cons, List.not_mem_nil, or_false, not_or] at hq
      exact (sb.2 q hq.1).trans (hk q o hq.1 hq.2.2.1 hq.2.2.2.1 hq.2.2.2.2.1 hq.2.2.2.2.2 e)
    have I1 : Inv X pins σ (upd H s.heap.objs.size (.tup [xs[i], ys[i], zs[i]])) { s with heap := h'', toks := tk } := I.turnedNew (t' := tk) kept hf (Nat.le_refl _) new
    have ne3 : TI ≠ i3 := D.TIi3
    refine ⟨.ref s.heap.objs.size, _, I1, rfl, ⟨_, _, _, _, rfl, I.hok.fresh (Nat.le_refl _), rfl, List.getElem?_eq_getElem l1, List.getElem?_eq_getElem l2, List.getElem?_eq_getElem l3⟩,
      ⟨z'', (sb.2 _ D.TIz).trans (hk _ _ D.TIz D.TITO D.TIi1 D.TIi2 D.TIi3 hTI), ⟨x1, x2, x3, (sb.2 _ D.TOz).trans TO'⟩, iterH_at e1.1 fun o q => (sb.2 _ D.zi1.symm).trans q, iterH_at e2.1 fun o q => (sb.2 _ D.zi2.symm).trans q, iterH_at e3.1 fun o q => (sb.2 _ D.zi3.symm).trans q⟩, fun q hq => ?_⟩
    have hlt : q < s.heap.objs.size := by
      have : q = z ∨ q = TI ∨ q = TO ∨ q = i1 ∨ q = i2 ∨ q = i3 := by simpa using hq
      rcases this with rfl | rfl | rfl | rfl | rfl | rfl
      · exact hzl
      · exact Heap.lt_size hTI
      · exact Heap.lt_size hTO
      · obtain ⟨o, e, _⟩ := iterH_obj t1; exact Heap.lt_size e
      · obtain ⟨o, e, _⟩ := iterH_obj t2; exact Heap.lt_size e
      · obtain ⟨o, e, _⟩ := iterH_obj t3; exact Heap.lt_size e
    rw [upd_ne (Nat.ne_of_lt hlt)]
    exact (hf q hq).1
  done := fun X hP hw hK hc i pins s σ H E I hf ⟨hz, hTI, ⟨x0, y0, u0, hTO⟩, t1, t2, t3⟩ ⟨⟨s1, s2, s3⟩, ⟨l1, l2, l3⟩, e⟩ => by
    subst hP hw hK
    obtain ⟨its1, rv1, q1⟩ := seqH_of I s1
    obtain ⟨its2, rv2, q2⟩ := seqH_of I s2
    obtain ⟨its3, rv3, q3⟩ := seqH_of I s3
    have hh : X.A.in1.handled = none := I.ok.hd hc
    have m1 := rv1.length
    have m2 := rv2.length
    have m3 := rv3.length
    refine wpAny_pyNext_zipD3_end D (drawsH hh k1 i1 a n1 its1.toArray) (drawsH hh k2 i2 b n2 its2.toArray) (drawsH hh k3 i3 c n3 its3.toArray) hz hTI hTO ⟨t1, q1⟩ ⟨t2, q2⟩ ⟨t3, q3⟩ (by simp; omega) (by simp; omega) (by simp; omega) (by simp; omega)
      fun h' tk hk => ⟨rfl, I.turnedL (t' := tk) (ch := [z, TI, TO, i1, i2, i3]) (fun q o hq e => ?_) hf⟩
    simp only [List.mem_cons, List.not_mem_nil, or_false, not_or] at hq
    exact hk q o hq.1 hq.2.2.1 hq.2.2.2.1 hq.2.2.2.2.1 hq.2.2.2.2.2 e
  self := fun A i s Q E st h => wpAny_pyIter_zip st.1 h
section
variable {X : Cx} {e1 e2 e3 : Expr} {ta : TA} {p pos tpos : Pos} {elts : List Expr} {kk : Nat}
theorem pi_zip3 (hm : X.mg "zip" = none) (ha : PA X [e1, e2, e3] ta) (hg : Gl X "zip" := by rfl)
    (hs : starEach [e1, e2, e3] X.env = (false, eval e1 X.env) :: starEach [e2, e3] X.env := by rfl) (hpl : (backTo pos (starEach [e2, e3] X.env)).any (·.1) = false := by rfl) :
    PI X (.Tuple elts kk tpos) (.Call (.Name "zip" p) [e1, e2, e3] [] pos) (fun σ H R => ta σ H fun vs H1 => ∃ k1 k2 k3 a b c xs ys zs, vs = [.ref a, .ref b, .ref c] ∧ SQk k1 X.K H1 a xs ∧ SQk k2 X.K H1 b ys ∧ SQk k3 X.K H1 c zs ∧ R (Itg3 X.K k1 k2 k3 a b c xs ys zs) H1) := by
  refine ⟨fun pins s σ H R I h => ?_⟩
  refine Call_ (ld_blt I hg hm PyProof.Rows.boot_zip (PyProof.Rows.callWith_type1 (thn (ha.run pos pins s σ H _ I h) fun us s1 ⟨vs, H1, I1, r1, k1, k2, k3, a, b, c, xs, ys, zs, ex, s1', s2', s3', q⟩ => ?_) hs hpl))
  subst ex
  obtain ⟨its1, rv1, q1⟩ := seqH_of I1 s1'
  obtain ⟨its2, rv2, q2⟩ := seqH_of I1 s2'
  obtain ⟨its3, rv3, q3⟩ := seqH_of I1 s3'
  have eu : us = [.ref a, .ref b, .ref c] := by
    cases r1 with
    | cons ra rr =>
      cases rr with
      | cons rb rr =>
        cases rr with
        | cons rc rr => cases rr; cases ra; cases rb; cases rc; rfl
  subst eu
  have la := seqH_lt q1
  have lb := seqH_lt q2
  have lc := seqH_lt q3
  refine zip_begins3 (beginsH k1 a its1.toArray) (beginsH k2 b its2.toArray) (beginsH k3 c its3.toArray) q1 q2 q3 fun h' hz hTI hTO g1 g2 g3 hsz hk => wpAny_pyIter_zip hz ?_
  have I2 : Inv X pins σ H1 { s1 with heap := h' } := I1.kept (t' := s1.toks) hk
  have D := zip_sep3 (N := s1.heap.objs.size) (fp1 := [a]) (fp2 := [b]) (fp3 := [c]) (by simpa using la) (by simpa using lb) (by simpa using lc)
  refine ⟨_, _, _, _, H1, rfl, I2, turn_zip3 D (Nat.ne_of_lt la) (Nat.ne_of_lt (Nat.lt_of_lt_of_le lb (Nat.le_add_right _ _))) (Nat.ne_of_lt (Nat.lt_of_lt_of_le lc (Nat.le_add_right _ _))), ⟨hz, hTI, ⟨_, _, _, hTO⟩, iterH_0 g1, iterH_0 g2, iterH_0 g3⟩, fun q' hq => ?_, q⟩
  have hle : s1.heap.objs.size ≤ q' := by
    have : q' = s1.heap.objs.size + 5 ∨ q' = s1.heap.objs.size + 3 ∨ q' = s1.heap.objs.size + 4 ∨ q' = s1.heap.objs.size ∨ q' = s1.heap.objs.size + 1 ∨ q' = s1.heap.objs.size + 2 := by simpa using hq
    rcases this with w | w | w | w | w | w <;> rw [w] <;> first | exact Nat.le_refl _ | exact Nat.le_add_right _ _
  exact I1.fpOk hle (I1.hok.fresh hle)
end
end L2.Dl
/-! zip of three over data. -/
namespace L2.Dl
open PySem PySem.Spec PyProof.Rows
def seqLT : D → Option (List D)
  | .lst l => some l
  | .tup l => some l
  | _ => none
def zipD3 : List D → List D → List D → List D
  | a :: l, b :: m, c :: n => .tup [a, b, c] :: zipD3 l m n
  | _, _, _ => []
def gZip3 : List D → Option (List D)
  | [a, b, c] => match seqLT a, seqLT b, seqLT c with
    | some l, some m, some n => some (zipD3 l m n)
    | _, _, _ => none
  | _ => none
/-- what is walked is shared ahead -/
def iMake (g : List D → Option (List D)) (fl : M (List R)) : M (List D) := fun S => (fl S).bind fun rs S1 => match valsR S1 rs with
  | none => .no
  | some (ds, S2) => match g ds with
    | none => .no
    | some l => .ok l S2
theorem zipD3_length : ∀ l m n : List D, (zipD3 l m n).length = min l.length (min m.length n.length)
  | [], _, _ => by simp [zipD3]
  | _ :: _, [], _ => by simp [zipD3]
  | _ :: _, _ :: _, [] => by simp [zipD3]
  | a :: l, b :: m, c :: n => by simp [zipD3, zipD3_length l m n]
theorem zipD3_get : ∀ (l m n : List D) (i : Nat) (d : D), (zipD3 l m n)[i]? = some d → ∃ a b c, l[i]? = some a ∧ m[i]? = some b ∧ n[i]? = some c ∧ d = .tup [a, b, c]
  | a :: l, b :: m, c :: n, 0, d, h => by simp [zipD3] at h; exact ⟨a, b, c, rfl, rfl, rfl, h.symm⟩
  | a :: l, b :: m, c :: n, i + 1, d, h => by
    simp [zipD3] at h
    obtain ⟨x, y, u, h1, h2, h3, h4⟩ := zipD3_get l m n i d h
    exact ⟨x, y, u, by simpa using h1, by simpa using h2, by simpa using h3, h4⟩
  | [], _, _, i, d, h => by simp [zipD3] at h
  | _ :: _, [], _, i, d, h => by simp [zipD3] at h
  | _ :: _, _ :: _, [], i, d, h => by simp [zipD3] at h
section
variable {X : Cx} {z : Dx} {W : WX} {S S1 : SS} {G G1 H H1 : Hp} {σ : L2.St}
theorem walk_zip3 {K : PySem.W.Frag} {k1 k2 k3 : Bool} {a b c : Addr} {xs ys zs : List V} {n : Nat} (hn : n = min xs.length (min ys.length zs.length)) :
    Walk (Itg3 K k1 k2 k3 a b c xs ys zs) n (fun H => SQk k1 K H a xs ∧ SQk k2 K H b ys ∧ SQk k3 K H c zs) (fun i H v H' => ∃ T x y u, v = .ref T ∧ H T = none ∧ H' = upd H T (.tup [x, y, u]) ∧ xs[i]? = some x ∧ ys[i]? = some y ∧ zs[i]? = some u) :=
  ⟨fun i H hi q => ⟨q, by omega, by omega, by omega⟩, fun H q => ⟨q, ⟨by omega, by omega, by omega⟩, by omega⟩, fun i H x H' _ _ y => y⟩
/-- shared: at a, in G -/
theorem sq_of {v : V} {d : D} {l : List D} (hk : z.K = X.K) (le : LeH G H) (r : Rep z G v d) (e : seqLT d = some l) : ∃ k a xs, v = .ref a ∧ SQk k X.K H a xs ∧ RepL z G xs l ∧ ∀ S σ H', SI z S σ H G → (∀ b o, H b = some o → ¬ Wk o → ¬ Owns S σ b → H' b = some o) → SQk k X.K H' a xs := by
  have notO : ∀ {a : Addr} {o : HO} {S : SS} {σ : L2.St}, SI z S σ H G → G a = some o → ¬ Owns S σ a := fun {a o S σ} si2 g q => by
    obtain ⟨g', _⟩ := si2.ownFree q
    rw [g] at g'; cases g'
  cases r with
  | lst e0 rl =>
    cases e
    exact ⟨true, _, _, rfl, SqL.of (le.lst e0), rl, fun S σ H' si fr => SqL.of (fr _ _ (le.lst e0) (fun z => z) (notO si e0))⟩
  | tup e0 rl =>
    cases e
    rw [hk] at e0
    refine ⟨false, _, _, rfl, le.sqT e0, rl, fun S σ H' si fr => ?_⟩
    rcases e0 with (q | ⟨o, q⟩) | q
    · rcases le _ _ q with w | ⟨w, _⟩ | ⟨_, _, w, _⟩
      · exact .inl (.inl (fr _ _ w.1 (fun z => z) (notO si q)))
      · exact w.elim
      · cases w
    · exact .inl (.inr ⟨o, fr _ _ (le.frz q) (fun z => z) (notO si q)⟩)
    · exact .inr q
  | _ => cases e
theorem IT_zip3 {e1 e2 e3 : Expr} {fl : M (List R)} {p pos tpos : Pos} {elts : List Expr} {kk : Nat} (hk : z.K = X.K) (hm : X.mg "zip" = none) (hl : L X z W [e1, e2, e3] fl) (hg : Gl X "zip" := by rfl)
    (hs : starEach [e1, e2, e3] X.env = (false, eval e1 X.env) :: starEach [e2, e3] X.env := by rfl) (hpl : (backTo pos (starEach [e2, e3] X.env)).any (·.1) = false := by rfl) :
    IT X z W (.Tuple elts kk tpos) (.Call (.Name "zip" p) [e1, e2, e3] [] pos) (iMake gZip3 fl) := by
  refine ⟨PI.le (pi_zip3 hm hl.pa hg hs hpl) fun σ H Q ⟨S, G, si, h⟩ => ?_⟩
  refine ⟨S, G, si, ?_⟩
  unfold iMake at h
  cases e : fl S with
  | no => rw [e] at h; exact h
  | ex c w S1 => rw [e] at h; exact h
  | ok rs S1 =>
    rw [e] at h
    intro vs H1 G1 si1 g1 dl
    have h := PostI.from h g1
    cases ev : valsR S1 rs with
    | none => rw [bind_ok, ev] at h; exact h.elim
    | some q =>
      obtain ⟨ds, S2⟩ := q
      rw [bind_ok, ev] at h
      simp only at h
      obtain ⟨G2, si2, g2, r2⟩ := valsR_run dl si1 ev
      unfold gZip3 at h
      split at h
      · exact h.elim
      · rename_i l e0
        split at e0
        · rename_i d1 d2 d3
          split at e0
          · rename_i l1 l2 l3 q1 q2 q3
            cases e0
            cases r2 with
            | cons ra rr =>
              cases rr with
              | cons rb rr =>
                cases rr with
                | cons rc rr =>
                  cases rr
                  obtain ⟨k1, a, xs, rfl, sa, rla, fa⟩ := sq_of hk si2.le ra q1
                  obtain ⟨k2, b, ys, rfl, sb, rlb, fb⟩ := sq_of hk si2.le rb q2
                  obtain ⟨k3, c, zs, rfl, sc, rlc, fc⟩ := sq_of hk si2.le rc q3
                  refine ⟨k1, k2, k3, a, b, c, xs, ys, zs, rfl, sa, sb, sc, h _ H1 G2 si2 g2 ⟨_, _, walk_zip3 (by rw [zipD3_length, rla.length, rlb.length, rlc.length]), fun H' fr => ⟨fa _ _ _ si2 fr, fb _ _ _ si2 fr, fc _ _ _ si2 fr⟩, fun i d Hc x H' Gc e2 ge le y => ?_⟩⟩
                  obtain ⟨T, x1, x2, x3, rfl, hT, rfl, t1, t2, t3⟩ := y
                  obtain ⟨a', b', c', w1, w2, w3, rfl⟩ := zipD3_get _ _ _ _ _ e2
                  obtain ⟨v1, u1, y1⟩ := rla.get w1
                  obtain ⟨v2, u2, y2⟩ := rlb.get w2
                  obtain ⟨v3, u3, y3⟩ := rlc.get w3
                  rw [t1] at u1; cases u1
                  rw [t2] at u2; cases u2
                  rw [t3] at u3; cases u3
                  have x1' : Ext Hc (upd Hc T (.tup [x1, x2, x3])) Gc (upd Gc T (.tup [x1, x2, x3])) := Ext.new le hT
                  have gg := ge.trans x1'.ge
                  exact ⟨_, x1', .tup (SqT.of upd_same) (.cons (y1.mono gg) (.cons (y2.mono gg) (.cons (y3.mono gg) .nil)))⟩
          · cases e0
        · cases e0
end
end L2.Dl
/-! a <= b <= c as a test. -/
namespace L2.Dl
open PySem PySem.Spec PyProof.Rows
section
variable {X : Cx} {z : Dx} {W : WX} {a b c : Expr} {fa fb fc : M R} {pos : Pos} {g g' : D → D → Option Bool}
theorem chain_run {S : SS} {G H : Hp} {σ : L2.St} {Q : VK} (si : SI z S σ H G) (h : Post z W S G H σ Q (sChain g g' fa fb fc S)) :
    tChain (rD2 z (toB g)) (rD2 z (toB g')) (tD z W fa) (tD z W fb) (tD z W fc) σ H Q := by
  unfold sChain at h
  refine (step si h).mono fun x H1 ⟨ra, S1, G1, si1, _, da, h1⟩ => (step si1 h1).mono fun y H2 ⟨rb, S2, G2, si2, g2, db, h2⟩ => ?_
  cases e : lift2 g S2 ra rb with
  | none => rw [e] at h2; exact h2.elim
  | some k =>
    rw [e] at h2
    obtain ⟨d1, d2, l1, l2, eg⟩ := lift2_eq e
    refine ⟨G2, d1, d2, .v (.bl k), si2.le, (da.mono g2.ge).view si2 l1, db.view si2 l2, by unfold toB; rw [eg]; rfl, fun v H' G' xx dn => ?_⟩
    cases dn
    refine ⟨k, rfl, ?_⟩
    have si3 := si2.ext xx
    cases k with
    | false => exact (if_neg Bool.false_ne_true) ▸ (Post.from h2 xx.go) (.bl false) H' G' si3 .refl (.bl false)
    | true =>
      rw [if_pos rfl]
      refine (step si3 (Post.from h2 xx.go)).mono fun w H4 ⟨rc, S4, G4, si4, g4, dc, h4⟩ => ?_
      cases e' : lift2 g' S4 rb rc with
      | none => rw [e'] at h4; exact h4.elim
      | some k' =>
        rw [e'] at h4
        obtain ⟨d3, d4, l3, l4, eg'⟩ := lift2_eq e'
        exact ⟨G4, d3, d4, .v (.bl k'), si4.le, ((db.mono xx.ge).mono g4.ge).view si4 l3, dc.view si4 l4, by unfold toB; rw [eg']; rfl, VP.fin si4 h4⟩
theorem chain_bl {S S' : SS} {r : R} (h : sChain g g' fa fb fc S = .ok r S') : ∃ k, r = .v (.bl k) := by
  unfold sChain at h
  cases e1 : fa S with
  | no => rw [e1] at h; cases h
  | ex => rw [e1] at h; cases h
  | ok ra S1 =>
    rw [e1, bind_ok] at h
    cases e2 : fb S1 with
    | no => rw [e2] at h; cases h
    | ex => rw [e2] at h; cases h
    | ok rb S2 =>
      rw [e2, bind_ok] at h
      split at h
      · cases h
      · cases h; exact ⟨_, rfl⟩
      · cases e3 : fc S2 with
        | no => rw [e3] at h; cases h
        | ex => rw [e3] at h; cases h
        | ok rc S3 =>
          rw [e3, bind_ok] at h
          split at h
          · cases h
          · cases h; exact ⟨_, rfl⟩
theorem T_chain {op op' : CmpOp} (ho : OpR X (compareOp op) (rD2 z (toB g))) (ho' : OpR X (compareOp op') (rD2 z (toB g'))) (ha : E X z W a fa) (hb : E X z W b fb) (hc : E X z W c fc)
    (hm : lastMarks [op, op'] [b, c] = false := by with_unfolding_all rfl) : T X z W (.Compare a [op, op'] [b, c] pos) (sTru (sChain g g' fa fb fc)) := by
  refine ⟨PT.le (pt_chain ho ho' ha.pe hb.pe hc.pe hm) fun σ H Q ⟨S, G, si, h⟩ => ?_, ha.k⟩
  refine chain_run si ?_
  unfold sTru at h
  cases e : sChain g g' fa fb fc S with
  | no => rw [e] at h; exact h
  | ex cn w S1 => rw [e] at h; exact h
  | ok r S1 =>
    rw [e] at h
    obtain ⟨k, rfl⟩ := chain_bl e
    intro v H' G' si' g1 dn
    cases dn
    exact ⟨k, rfl, h H' G' si' g1⟩
end
end L2.Dl
/-! The head's hook, with the interpreter's own table in sight (classes are read there). -/
namespace L2.Dl
open PySem PySem.Spec PyProof.Rows LamX
abbrev asY (g : Addr → Option Obj) (n : Nat) : List Addr := He.asD g n ++ [cStatics]
def obsY (n : Nat) (fa : List He.Fa) (fn : List He.DefD) (tf : List He.Defn) (ex : PySem.W.Frag → Bool) (g : Addr → Option Obj) : He.AlX :=
  (He.obsT fa fn [] (He.frT g (asY g n)), ex (He.frT g (asY g n)) && He.tabsB g tf (He.frT g (asY g n)))
theorem saysY_of {n : Nat} {fa : List He.Fa} {fn : List He.DefD} {tf : List He.Defn} {ex : PySem.W.Frag → Bool} {w : World} {h : Heap} (e : obsY n fa fn tf ex h.get? = He.valX fn [] w) : He.SaysX fa fn [] tf ex w h (He.frT h.get? (asY h.get? n)) := by
  obtain ⟨h1, h2⟩ := Bool.and_eq_true_iff.mp (show (ex (He.frT h.get? (asY h.get? n)) && He.tabsB h.get? tf (He.frT h.get? (asY h.get? n))) = true from congrArg Prod.snd e)
  have each : ∀ p ∈ tf, PySem.W.codeHdIn (He.frT h.get? (asY h.get? n)) (He.cT (He.frT h.get? (asY h.get? n)) p).1 (He.cT (He.frT h.get? (asY h.get? n)) p).2 = true ∧ ∃ o, h.get? (He.cT (He.frT h.get? (asY h.get? n)) p).2 = some o ∧ He.emptyTab o = true := by
    intro p hp
    obtain ⟨h3, h4⟩ := Bool.and_eq_true_iff.mp (List.all_eq_true.mp h2 p hp)
    cases q : h.get? (He.cT (He.frT h.get? (asY h.get? n)) p).2 with
    | none => rw [q] at h4; cases h4
    | some o => rw [q] at h4; exact ⟨h3, o, rfl, h4⟩
  refine ⟨congrArg Prod.fst e, h1, fun p hp => (each p hp).1, fun p hp => ?_, fun p hp => ?_⟩
  · obtain ⟨_, o, q, em⟩ := each p hp
    exact He.frT_none q em
  · obtain ⟨_, o, q, em⟩ := each p hp
    rw [q, He.emptyTab_eq em]
def hookY (n : Nat) (fa : List He.Fa) (fn : List He.DefD) (tf : List He.Defn) (ex : PySem.W.Frag → Bool) : PySem.W.Hook where
  α := He.AlX
  obs := fun s => obsY n fa fn tf ex s.heap.get?
  val := fun w => He.valX fn [] w
  says := fun w h => ∃ K : PySem.W.Frag, K.In h ∧ He.SaysX fa fn [] tf ex w h K
  of := fun _ _ e => ⟨_, He.frT_in, saysY_of e⟩
  keeps := fun _ _ _ ⟨K, hK, c⟩ k => ⟨K, PySem.W.Frag.In.keeps hK k, ⟨c.t, c.more, c.hd, c.out, fun p hp => k _ _ (c.empty p hp)⟩⟩
theorem obsY_eq {n : Nat} {fa : List He.Fa} {fn : List He.DefD} {tf : List He.Defn} {ex : PySem.W.Frag → Bool} {g : Addr → Option Obj} {s : Shared} (h : ∀ a, g a = s.heap.get? a) : obsY n fa fn tf ex g = (hookY n fa fn tf ex).obs s := by
  rw [show g = s.heap.get? from funext h] <;> rfl
end L2.Dl
/-! zip of two, each a list or a tuple. -/
namespace L2.Dl
open PySem PySem.Spec PyProof.Rows
def Itg2 (K : PySem.W.Frag) (k1 k2 : Bool) (a b : Addr) (xs ys : List V) : It :=
  ⟨fun i H => (SQk k1 K H a xs ∧ SQk k2 K H b ys) ∧ i < xs.length ∧ i < ys.length,
    fun i H v H' => ∃ T x y, v = .ref T ∧ H T = none ∧ H' = upd H T (.tup [x, y]) ∧ xs[i]? = some x ∧ ys[i]? = some y,
    fun i H => (SQk k1 K H a xs ∧ SQk k2 K H b ys) ∧ (i ≤ xs.length ∧ i ≤ ys.length) ∧ (i = xs.length ∨ i = ys.length)⟩
theorem turn_zip2 {P : Program} {w : World} {K : PySem.W.Frag} {elts : List Expr} {kk : Nat} {tpos : Pos} {k1 k2 : Bool} {a b z TI TO i1 i2 : Addr} {xs ys : List V} (D : ZipSep2 z TI TO i1 i2 [i1, a] [i2, b]) (n1 : a ≠ i1) (n2 : b ≠ i2) :
    Turn P w K (.Tuple elts kk tpos) (Itg2 K k1 k2 a b xs ys) [z, TI, TO, i1, i2] z (fun i h => IsZip h z TI TO .none ∧ IsTupOf2 h TI (.ref i1) (.ref i2) ∧ (∃ x y, IsTupOf2 h TO x y) ∧ IterH k1 h i1 a i ∧ IterH k2 h i2 b i) where
  mem := List.mem_cons_self
  obj := fun i h ⟨hz, hTI, ⟨x, y, hTO⟩, t1, t2⟩ q hq => by
    have : q = z ∨ q = TI ∨ q = TO ∨ q = i1 ∨ q = i2 := by simpa using hq
    rcases this with rfl | rfl | rfl | rfl | rfl
    · exact ⟨_, hz, fun v q => nomatch q⟩
    · exact ⟨_, hTI, fun v q => nomatch q⟩
    · exact ⟨_, hTO, fun v q => nomatch q⟩
    · exact iterH_obj t1
    · exact iterH_obj t2
  keep := fun i h h' ⟨hz, hTI, ⟨x, y, hTO⟩, t1, t2⟩ k =>
    ⟨k z (by simp) _ hz, k TI (by simp) _ hTI, ⟨x, y, k TO (by simp) _ hTO⟩, iterH_at t1 fun o q => k i1 (by simp) o q, iterH_at t2 fun o q => k i2 (by simp) o q⟩
  item := fun X hP hw hK hc i pins s σ H E I hf ⟨hz, hTI, ⟨x0, y0, hTO⟩, t1, t2⟩ ⟨⟨s1, s2⟩, l1, l2⟩ => by
    subst hP hw hK
    obtain ⟨its1, rv1, q1⟩ := seqH_of I s1
    obtain ⟨its2, rv2, q2⟩ := seqH_of I s2
    have hh : X.A.in1.handled = none := I.ok.hd hc
    have hzl : z < s.heap.objs.size := Heap.lt_size hz
    refine wpAny_pyNext_zipD2_item D (drawsH hh k1 i1 a n1 its1.toArray) (drawsH hh k2 i2 b n2 its2.toArray) hz hTI hTO ⟨t1, q1⟩ ⟨t2, q2⟩ (by simp [← rv1.length, l1]) (by simp [← rv2.length, l2])
      fun x1 x2 h' tk p1 p2 z' TO' e1 e2 hT hsz hk => ?_
    refine ⟨_, rfl, wpAny_letOwnedTupleGo_zip (s := { s with heap := h', toks := tk }) z' fun h'' z'' sb => ?_⟩
    obtain ⟨u1, g1, r1⟩ := rv1.get (List.getElem?_eq_getElem l1)
    obtain ⟨u2, g2, r2⟩ := rv2.get (List.getElem?_eq_getElem l2)
    have p1 : its1[i]? = some x1 := by simpa using p1
    have p2 : its2[i]? = some x2 := by simpa using p2
    rw [g1] at p1; cases p1
    rw [g2] at p2; cases p2
    have hT2 : h''.get? s.heap.objs.size = some { cls := .type "tuple", data := .seq #[x1, x2] } := (sb.2 _ (Nat.ne_of_gt hzl)).trans hT
    have new : ObjOk X.prog X.w (upd H s.heap.objs.size (.tup [xs[i], ys[i]])) h'' s.heap.objs.size (.tup [xs[i], ys[i]]) :=
      ⟨by show 2 ≤ sizeLine; decide, [x1, x2], .cons r1 (.cons r2 .nil), ⟨_, hT2, rfl, _, rfl⟩⟩
    have kept : ∀ q o, q ∉ [z, TI, TO, i1, i2] → s.heap.get? q = some o → h''.get? q = some o := fun q o hq e => by
      simp only [List.mem_cons, List.not_mem_nil, or_false, not_or] at hq
      exact (sb.2 q hq.1).trans (hk q o hq.1 hq.2.2.1 hq.2.2.2.1 hq.2.2.2.2 e)
    have I1 : Inv X pins σ (upd H s.heap.objs.size (.tup [xs[i], ys[i]])) { s with heap := h'', toks := tk } := I.turnedNew (t' := tk) kept hf (Nat.le_refl _) new
    refine ⟨.ref s.heap.objs.size, _, I1, rfl, ⟨_, _, _, rfl, I.hok.fresh (Nat.le_refl _), rfl, List.getElem?_eq_getElem l1, List.getElem?_eq_getElem l2⟩,
      ⟨z'', (sb.2 _ D.TIz).trans (hk _ _ D.TIz D.TITO D.TIi1 D.TIi2 hTI), ⟨x1, x2, (sb.2 _ D.TOz).trans TO'⟩, iterH_at e1.1 fun o q => (sb.2 _ D.zi1.symm).trans q, iterH_at e2.1 fun o q => (sb.2 _ D.zi2.symm).trans q⟩, fun q hq => ?_⟩
    have hlt : q < s.heap.objs.size := by
      have : q = z ∨ q = TI ∨ q = TO ∨ q = i1 ∨ q = i2 := by simpa using hq
      rcases this with rfl | rfl | rfl | rfl | rfl
      · exact hzl
      · exact Heap.lt_size hTI
      · exact Heap.lt_size hTO
      · obtain ⟨o, e, _⟩ := iterH_obj t1; exact Heap.lt_size e
      · obtain ⟨o, e, _⟩ := iterH_obj t2; exact Heap.lt_size e
    rw [upd_ne (Nat.ne_of_lt hlt)]
    exact (hf q hq).1
  done := fun X hP hw hK hc i pins s σ H E I hf ⟨hz, hTI, ⟨x0, y0, hTO⟩, t1, t2⟩ ⟨⟨s1, s2⟩, ⟨l1, l2⟩, e⟩ => by
    subst hP hw hK
    obtain ⟨its1, rv1, q1⟩ := seqH_of I s1
    obtain ⟨its2, rv2, q2⟩ := seqH_of I s2
    have hh : X.A.in1.handled = none := I.ok.hd hc
    have m1 := rv1.length
    have m2 := rv2.length
    refine wpAny_pyNext_zipD2_end D (drawsH hh k1 i1 a n1 its1.toArray) (drawsH hh k2 i2 b n2 its2.toArray) hz hTI hTO ⟨t1, q1⟩ ⟨t2, q2⟩ (by simp; omega) (by simp; omega) (by simp; omega)
      fun h' tk hk => ⟨rfl, I.turnedL (t' := tk) (ch := [z, TI, TO, i1, i2]) (fun q o hq e => ?_) hf⟩
    simp only [List.mem_cons, List.not_mem_nil, or_false, not_or] at hq
    exact hk q o hq.1 hq.2.2.1 hq.2.2.2.1 hq.2.2.2.2 e
  self := fun A i s Q E st h => wpAny_pyIter_zip st.1 h
section
variable {X : Cx} {e1 e2 : Expr} {ta : TA} {p pos tpos : Pos} {elts : List Expr} {kk : Nat}
theorem pi_zip2 (hm : X.mg "zip" = none) (ha : PA X [e1, e2] ta) (hg : Gl X "zip" := by rfl)
    (hs : starEach [e1, e2] X.env = (false, eval e1 X.env) :: starEach [e2] X.env := by rfl) (hpl : (backTo pos (starEach [e2] X.env)).any (·.1) = false := by rfl) :
    PI X (.Tuple elts kk tpos) (.Call (.Name "zip" p) [e1, e2] [] pos) (fun σ H R => ta σ H fun vs H1 => ∃ k1 k2 a b xs ys, vs = [.ref a, .ref b] ∧ SQk k1 X.K H1 a xs ∧ SQk k2 X.K H1 b ys ∧ R (Itg2 X.K k1 k2 a b xs ys) H1) := by
  refine ⟨fun pins s σ H R I h => ?_⟩
  refine Call_ (ld_blt I hg hm PyProof.Rows.boot_zip (PyProof.Rows.callWith_type1 (thn (ha.run pos pins s σ H _ I h) fun us s1 ⟨vs, H1, I1, r1, k1, k2, a, b, xs, ys, ex, s1', s2', q⟩ => ?_) hs hpl))
  subst ex
  obtain ⟨its1, rv1, q1⟩ := seqH_of I1 s1'
  obtain ⟨its2, rv2, q2⟩ := seqH_of I1 s2'
  have eu : us = [.ref a, .ref b] := by
    cases r1 with
    | cons ra rr =>
      cases rr with
      | cons rb rr => cases rr; cases ra; cases rb; rfl
  subst eu
  have la := seqH_lt q1
  have lb := seqH_lt q2
  refine zip_begins2 (beginsH k1 a its1.toArray) (beginsH k2 b its2.toArray) q1 q2 fun h' hz hTI hTO g1 g2 hsz hk => wpAny_pyIter_zip hz ?_
  have I2 : Inv X pins σ H1 { s1 with heap := h' } := I1.kept (t' := s1.toks) hk
  have D := zip_sep2 (N := s1.heap.objs.size) (fp1 := [a]) (fp2 := [b]) (by simpa using la) (by simpa using lb)
  refine ⟨_, _, _, _, H1, rfl, I2, turn_zip2 D (Nat.ne_of_lt la) (Nat.ne_of_lt (Nat.lt_of_lt_of_le lb (Nat.le_add_right _ _))), ⟨hz, hTI, ⟨_, _, hTO⟩, iterH_0 g1, iterH_0 g2⟩, fun q' hq => ?_, q⟩
  have hle : s1.heap.objs.size ≤ q' := by
    have : q' = s1.heap.objs.size + 4 ∨ q' = s1.heap.objs.size + 2 ∨ q' = s1.heap.objs.size + 3 ∨ q' = s1.heap.objs.size ∨ q' = s1.heap.objs.size + 1 := by simpa using hq
    rcases this with w | w | w | w | w <;> rw [w] <;> first | exact Nat.le_refl _ | exact Nat.le_add_right _ _
  exact I1.fpOk hle (I1.hok.fresh hle)
end
/-! ### over data -/
def zipD2 : List D → List D → List D
  | a :: l, b :: m => .tup [a, b] :: zipD2 l m
  | _, _ => []
def gZip2 : List D → Option (List D)
  | [a, b] => match seqLT a, seqLT b with
    | some l, some m => some (zipD2 l m)
    | _, _ => none
  | _ => none
theorem zipD2_length : ∀ l m : List D, (zipD2 l m).length = min l.length m.length
  | [], _ => by simp [zipD2]
  | _ :: _, [] => by simp [zipD2]
  | a :: l, b :: m => by simp [zipD2, zipD2_length l m]
theorem zipD2_get : ∀ (l m : List D) (i : Nat) (d : D), (zipD2 l m)[i]? = some d → ∃ a b, l[i]? = some a ∧ m[i]? = some b ∧ d = .tup [a, b]
  | a :: l, b :: m, 0, d, h => by simp [zipD2] at h; exact ⟨a, b, rfl, rfl, h.symm⟩
  | a :: l, b :: m, i + 1, d, h => by
    simp [zipD2] at h
    obtain ⟨x, y, h1, h2, h4⟩ := zipD2_get l m i d h
    exact ⟨x, y, by simpa using h1, by simpa using h2, h4⟩
  | [], _, i, d, h => by simp [zipD2] at h
  | _ :: _, [], i, d, h => by simp [zipD2] at h
section
variable {X : Cx} {z : Dx} {W : WX} {S S1 : SS} {G G1 H H1 : Hp} {σ : L2.St}
theorem walk_zip2 {K : PySem.W.Frag} {k1 k2 : Bool} {a b : Addr} {xs ys : List V} {n : Nat} (hn : n = min xs.length ys.length) :
    Walk (Itg2 K k1 k2 a b xs ys) n (fun H => SQk k1 K H a xs ∧ SQk k2 K H b ys) (fun i H v H' => ∃ T x y, v = .ref T ∧ H T = none ∧ H' = upd H T (.tup [x, y]) ∧ xs[i]? = some x ∧ ys[i]? = some y) :=
  ⟨fun i H hi q => ⟨q, by omega, by omega⟩, fun H q => ⟨q, ⟨by omega, by omega⟩, by omega⟩, fun i H x H' _ _ y => y⟩
theorem IT_zip2 {e1 e2 : Expr} {fl : M (List R)} {p pos tpos : Pos} {elts : List Expr} {kk : Nat} (hk : z.K = X.K) (hm : X.mg "zip" = none) (hl : L X z W [e1, e2] fl) (hg : Gl X "zip" := by rfl)
    (hs : starEach [e1, e2] X.env = (false, eval e1 X.env) :: starEach [e2] X.env := by rfl) (hpl : (backTo pos (starEach [e2] X.env)).any (·.1) = false := by rfl) :
    IT X z W (.Tuple elts kk tpos) (.Call (.Name "zip" p) [e1, e2] [] pos) (iMake gZip2 fl) := by
  refine ⟨PI.le (pi_zip2 hm hl.pa hg hs hpl) fun σ H Q ⟨S, G, si, h⟩ => ?_⟩
  refine ⟨S, G, si, ?_⟩
  unfold iMake at h
  cases e : fl S with
  | no => rw [e] at h; exact h
  | ex c w S1 => rw [e] at h; exact h
  | ok rs S1 =>
    rw [e] at h
    intro vs H1 G1 si1 g1 dl
    have h := PostI.from h g1
    cases ev : valsR S1 rs with
    | none => rw [bind_ok, ev] at h; exact h.elim
    | some q =>
      obtain ⟨ds, S2⟩ := q
      rw [bind_ok, ev] at h
      simp only at h
      obtain ⟨G2, si2, g2, r2⟩ := valsR_run dl si1 ev
      unfold gZip2 at h
      split at h
      · exact h.elim
      · rename_i l e0
        split at e0
        · rename_i d1 d2
          split at e0
          · rename_i l1 l2 q1 q2
            cases e0
            cases r2 with
            | cons ra rr =>
              cases rr with
              | cons rb rr =>
                cases rr
                obtain ⟨k1, a, xs, rfl, sa, rla, fa⟩ := sq_of hk si2.le ra q1
                obtain ⟨k2, b, ys, rfl, sb, rlb, fb⟩ := sq_of hk si2.le rb q2
                refine ⟨k1, k2, a, b, xs, ys, rfl, sa, sb, h _ H1 G2 si2 g2 ⟨_, _, walk_zip2 (by rw [zipD2_length, rla.length, rlb.length]), fun H' fr => ⟨fa _ _ _ si2 fr, fb _ _ _ si2 fr⟩, fun i d Hc x H' Gc e2 ge le y => ?_⟩⟩
                obtain ⟨T, x1, x2, rfl, hT, rfl, t1, t2⟩ := y
                obtain ⟨a', b', w1, w2, rfl⟩ := zipD2_get _ _ _ _ e2
                obtain ⟨v1, u1, y1⟩ := rla.get w1
                obtain ⟨v2, u2, y2⟩ := rlb.get w2
                rw [t1] at u1; cases u1
                rw [t2] at u2; cases u2
                have x1' : Ext Hc (upd Hc T (.tup [x1, x2])) Gc (upd Gc T (.tup [x1, x2])) := Ext.new le hT
                have gg := ge.trans x1'.ge
                exact ⟨_, x1', .tup (SqT.of upd_same) (.cons (y1.mono gg) (.cons (y2.mono gg) .nil))⟩
          · cases e0
        · cases e0
end
end L2.Dl
/-! list(reversed(x)). -/
namespace L2.Dl
open PySem PySem.Spec PyProof.Rows
theorem nolen_rv : typeLookup (.type "list_reverseiterator") "__len__" = pure none := by rw [typeLookup_type, builtinLookup_eq_fast]; kernel_rfl
theorem hint_rv : typeLookup (.type "list_reverseiterator") "__length_hint__" = pure (some (.builtin "list_reverseiterator.__length_hint__")) := by rw [typeLookup_type, builtinLookup_eq_fast]; kernel_rfl
section
variable {prog : Program} {w : World} {A : Around} {s : Shared} {R : Result → Shared → Prop}
variable {I : Addr} {fp wr : List Addr} {G : Array GenState → Array GenState → Prop} {n : Nat} {P : Nat → Value → Prop} {St : Nat → Shared → Prop}
theorem extend_rv (W : WalksS prog w A.in1 I fp wr G n P St) (hT : ∀ i s, St i s → s.TypeIs (.ref I) "list_reverseiterator") (S : Addr) (res : Value) (c₀ : Nat) (hst : St 0 s) (hSf : S ∉ fp) (hI : I ∈ fp)
    (hS : s.heap.get? S = some { cls := .type "list", data := .seq #[] c₀ })
    (hR : ∀ s' acc' c', Moved (S :: wr) G s s' → s'.heap.get? S = some { cls := .type "list", dict := none, data := .seq acc' c', slots := #[] } → ItemsOf P acc' n → R (.ok (.ret res)) s') (hn : n ≤ sizeLine) :
    wpAny (model prog w) A.in1 (Builtin.List.listExtendWith (.ref S) (.ref I) res)
      (fun fin s' => match fin with | .done f => R (.ok f) s' | .again c' => c'.quiet = true ∧ codeAny (model prog w) A c' R s') (fun e s' => R (.error e) s') s := by
  have hSI : S ≠ I := fun e => hSf (e ▸ hI)
  unfold Builtin.List.listExtendWith
  refine wpAny_bind (wpAny_typeOf (hT 0 _ hst) ?_)
  have h1 : Builtin.List.listSameRef (.ref S) (.ref I) = false := by simp [Builtin.List.listSameRef, hSI]
  rw [if_neg (by rw [h1]; decide)]
  refine wpAny_bind (W.self 0 _ _ _ hst ?_)
  refine wpAny_bind (wpAny_holding ?_)
  unfold Builtin.List.listLengthHint
  refine wpAny_bind (wpAny_specialOf (hT 0 _ hst) nolen_rv ?_)
  show wpAny _ A.in1 (specialOf (Value.ref I) (Str.ofString "__length_hint__") >>= _) _ _ _
  refine wpAny_bind (wpAny_specialOf (hT 0 _ hst) hint_rv ?_)
  (generalize hid : ("list_reverseiterator.__length_hint__" : String) = id0; (fail_if_success (clear hid id0)); wp_delta; rw [show splitId id0 = some ("list_reverseiterator", "__length_hint__") from by subst hid; decide +kernel]; subst hid)
  refine wpAny_bind (wpAny_isInstance (b := true) (hT 0 _ hst) (by rw [isSubtype_type]; kernel_rfl) ?_)
  refine wpAny_pure ?_
  rw [if_neg (by decide)]
  exact wpAny_pure ⟨plainId_quiet F.plain_extend_loop _, codeAny_extend_loopS W hn _ hSf _ n 0 _ _ _ rfl (Nat.zero_le _) hst hS (ItemsOf.nil P) hR⟩
theorem init_rv (W : WalksS prog w A.in1 I fp wr G n P St) (hT : ∀ i s, St i s → s.TypeIs (.ref I) "list_reverseiterator") (S : Addr) (hst : St 0 s) (hSf : S ∉ fp) (hI : I ∈ fp)
    (hS : s.heap.get? S = some { cls := .type "list", data := .seq #[] })
    (hR : ∀ s' acc' c', Moved (S :: wr) G s s' → s'.heap.get? S = some { cls := .type "list", dict := none, data := .seq acc' c', slots := #[] } → ItemsOf P acc' n → R (.ok (.ret .none)) s') (hn : n ≤ sizeLine) :
    wpAny (model prog w) A.in1 (Builtin.«list.__init__» ⟨[.ref S, .ref I], []⟩)
      (fun fin s' => match fin with | .done f => R (.ok f) s' | .again c' => c'.quiet = true ∧ codeAny (model prog w) A c' R s') (fun e s' => R (.error e) s') s := by
  show wpAny _ A.in1 (do let old ← Builtin.List.listItems (.ref S); Builtin.List.listUpdate (.ref S) (fun _ => #[]); letGo old.toList.reverse; Builtin.List.listExtendWith (.ref S) (.ref I) .none) _ _ s
  refine wpAny_bind ?_
  unfold Builtin.List.listItems
  refine wpAny_bind (wpAny_seqItems hS rfl (wpAny_pure ?_))
  show wpAny _ A.in1 (updateSeq S (fun _ => #[]) >>= fun _ => letGo (#[] : Array Value).toList.reverse >>= fun _ => Builtin.List.listExtendWith (.ref S) (.ref I) .none) _ _ s
  refine wpAny_bind (wpAny_updateSeq hS rfl ?_)
  have hS₂ := Heap.get?_update_self (Obj.mapSeq (fun _ => (#[] : Array Value))) hS rfl
  have oth : ∀ b o, b ≠ S → s.heap.get? b = some o → (s.heap.update S (Obj.mapSeq (fun _ => (#[] : Array Value)))).get? b = some o :=
    fun b o hb e => (Heap.get?_update_other _ _ (Ne.symm hb)).trans e
  refine wpAny_bind (wpAny_letGo ?_)
  refine extend_rv (hn := hn) W hT S .none _ (W.frame 0 s _ s.toks hst (Nat.le_refl _) fun b hb o e => oth b o (fun h => hSf (h ▸ hb)) e) hSf hI hS₂ fun s' acc' c' hm hS' hacc => ?_
  exact hR s' acc' c' (Moved.trans W.gtrans ((Moved.refl W.grefl).then_heap (Nat.le_refl _) fun b o hb e => oth b o (fun h => hb (h ▸ List.mem_cons_self)) e) hm) hS' hacc
end
section
variable {prog : Program} {w : World} {A : Around} {E : Value → Shared → Prop} {s : Shared}
theorem call_list_rv {Q : Value → Shared → Prop} {it l : Addr} {items : Array Value} (hh : A.handled = none) (hit : s.heap.IsRevIter it l ((items.size : Int) - 1)) (hl : s.heap.IsList l items) (hne : l ≠ it) (hn : items.size ≤ sizeLine)
    (hQ : ∀ h' tk acc' c', (∀ b o, b ≠ it → s.heap.get? b = some o → h'.get? b = some o) →
      h'.get? s.heap.objs.size = some { cls := .type "list", dict := none, data := .seq acc' c', slots := #[] } → ItemsOf (fun i v => items[items.size - 1 - i]? = some v) acc' items.size → Q (.ref s.heap.objs.size) { s with heap := h', toks := tk }) :
    wpAny (model prog w) A (call (.type "list") [.ref it]) Q E s := by
  have W := (Walks.listRev (prog := prog) (w := w) (A := A.in1.in1) hh it l hne items).toS
  have hlt : ∀ b ∈ [it, l], b < s.heap.objs.size := fun b hb => by
    rcases List.mem_cons.mp hb with rfl | hb
    · obtain ⟨o, e, _⟩ := hit; exact Heap.lt_size e
    · rw [List.mem_singleton.mp hb]; obtain ⟨o, e, _⟩ := hl; exact Heap.lt_size e
  have hSf : s.heap.objs.size ∉ [it, l] := fun hm => Nat.lt_irrefl _ (hlt _ hm)
  have st0 : ∀ h : Heap, h.IsRevIter it l ((items.size : Int) - 1) → h.IsRevIter it l ((items.size : Int) - 1 - ((0 : Nat) : Int)) := fun h x => by simpa using x
  refine callType_codes (Q₁ := fun obj s₁ => obj = .ref s.heap.objs.size ∧ s₁ = { s with heap := s.heap.push { cls := .type "list", data := .seq #[] } }) F.called_list (F.typeCall_list_1 _) F.entry_list_init
    (code_list_new _ ⟨rfl, rfl⟩) fun obj s₁ h₁ => ?_
  obtain ⟨rfl, rfl⟩ := h₁
  have hS : (s.heap.push { cls := .type "list", data := .seq #[] }).get? s.heap.objs.size = some { cls := .type "list", data := .seq #[] } := Heap.get?_push_size _ rfl
  refine ⟨⟨_, hS, rfl⟩, F.args_list_init_2 _ _, init_rv (hn := hn) W (fun i s st => st.2.1.typeIs) _ ⟨Nat.zero_le _, st0 _ (hit.at fun o e => Heap.get?_push_of_some _ e), hl.push _⟩ hSf (List.mem_cons_self) hS fun s' acc' c' hm hS' hacc => ?_⟩
  refine ⟨rfl, ?_⟩
  rw [Moved.eq_with hm]
  exact hQ s'.heap s'.toks acc' c' (fun b o hb e => hm.heap b o (fun hmem => by
    rcases List.mem_cons.mp hmem with e' | hmem
    · exact absurd (Heap.lt_size e) (by rw [e']; exact Nat.lt_irrefl _)
    · exact hb (List.mem_singleton.mp hmem)) (Heap.get?_push_of_some _ e)) hS' hacc
end
section
variable {X : Cx}
/-- list(reversed(x)), x a list -/
def tListRv (K : PySem.W.Frag) (te : TE) : TE := fun σ H Q => te σ H fun v H1 => ∃ (a : Addr) (xs : List V), v = .ref a ∧ SqL K H1 a xs ∧ ∀ q, H1 q = none → Q (.ref q) (upd H1 q (.lst xs.reverse))
theorem pe_listRv {e : Expr} {te : TE} {p p2 pos pos2 : Pos} (hc : X.calm = true) (hg : Gl X "list") (hm : X.mg "list" = none) (hg2 : Gl X "reversed") (hm2 : X.mg "reversed" = none) (he : PE X e te)
    (hs : starEach [e] X.env = (false, eval e X.env) :: starEach [] X.env := by rfl)
    (hs2 : starEach [.Call (.Name "reversed" p2) [e] [] pos2] X.env = (false, eval (.Call (.Name "reversed" p2) [e] [] pos2) X.env) :: starEach [] X.env := by rfl) :
    PE X (.Call (.Name "list" p) [.Call (.Name "reversed" p2) [e] [] pos2] [] pos) (tListRv X.K te) := by
  refine ⟨fun pins s σ H Q I h => ?_⟩
  refine Call_ (ld_blt I hg hm PyProof.Rows.boot_list (PyProof.Rows.callWith_type1 (args_cons (Call_ (ld_blt I hg2 hm2 PyProof.Rows.boot_reversed (PyProof.Rows.callWith_type1 (args_cons (thn (he.run pins s σ H _ I h) fun u s1 ⟨v, H1, I1, r1, q1⟩ => args_nil ?_) hs) hs rfl))) hs2) hs2 rfl))
  obtain ⟨a, xs, ev, hq, q⟩ := q1
  subst ev
  obtain rfl : u = Value.ref a := r1
  obtain ⟨its, rv, p', hz⟩ := I1.list hq
  refine call_reversed_list p'.isList (args_nil ?_)
  have k0 : ∀ b o, s1.heap.get? b = some o → (s1.heap.push (revObj a ((its.toArray.size : Int) - 1))).get? b = some o := fun b o e => Heap.get?_push_of_some _ e
  have I2 : Inv X pins σ H1 { s1 with heap := s1.heap.push (revObj a ((its.toArray.size : Int) - 1)) } := I1.kept (t' := s1.toks) k0
  obtain ⟨f0, f1, f2, f3, f4, f5⟩ := I1.fpOk (H' := H1) (b := s1.heap.objs.size) (Nat.le_refl _) (I1.hok.fresh (Nat.le_refl _))
  have hl := p'.isList
  obtain ⟨ol, hol, _⟩ := id hl
  have hne : a ≠ s1.heap.objs.size := Nat.ne_of_lt (Heap.lt_size hol)
  have hn : its.toArray.size ≤ sizeLine := by rw [List.size_toArray, ← rv.length]; exact hz
  have hsz : (s1.heap.push (revObj a ((its.toArray.size : Int) - 1))).objs.size = s1.heap.objs.size + 1 := by rw [Heap.size_push]
  refine call_list_rv (s := { s1 with heap := s1.heap.push (revObj a ((its.toArray.size : Int) - 1)) }) (I1.ok.hd hc) ⟨_, Heap.get?_push_size _ rfl, rfl, rfl⟩ (hl.push _) hne hn fun h' tk acc c' hk hL hi => ?_
  have T : (s1.heap.push (revObj a ((its.toArray.size : Int) - 1))).objs.size = s1.heap.objs.size + 1 := hsz
  have hT : s1.heap.objs.size ≤ (s1.heap.push (revObj a ((its.toArray.size : Int) - 1))).objs.size := by omega
  have new : ObjOk X.prog X.w (upd H1 (s1.heap.push (revObj a ((its.toArray.size : Int) - 1))).objs.size (.lst xs.reverse)) h' (s1.heap.push (revObj a ((its.toArray.size : Int) - 1))).objs.size (.lst xs.reverse) :=
    ⟨by rw [List.length_reverse]; exact hz, acc.toList, c', RT.vals_rev rv hi, by rw [Array.toArray_toList]; exact hL⟩
  have I3 : Inv X pins σ (upd H1 (s1.heap.push (revObj a ((its.toArray.size : Int) - 1))).objs.size (.lst xs.reverse)) { s1 with heap := h', toks := tk } :=
    I1.turnedNew (t' := tk) (ch := [s1.heap.objs.size]) (fun b o hb e => hk b o (fun z => hb (by simp [z])) (k0 b o e)) (fun b hb => by rw [List.mem_singleton.mp hb]; exact I1.fpOk (H' := H1) (Nat.le_refl _) (I1.hok.fresh (Nat.le_refl _))) hT new
  exact ⟨.ref _, _, I3, rfl, q _ (I1.hok.fresh hT)⟩
end
/-! ### over data -/
def gRv : D → Option R
  | .lst l => some (.f (.lst l.reverse))
  | _ => none
section
variable {X : Cx} {z : Dx} {W : WX}
theorem E_listRv {e : Expr} {fe : M R} {p p2 pos pos2 : Pos} (hc : X.calm = true) (hm : X.mg "list" = none) (hm2 : X.mg "reversed" = none) (he : E X z W e fe) (hg : Gl X "list" := by rfl) (hg2 : Gl X "reversed" := by rfl)
    (hs : starEach [e] X.env = (false, eval e X.env) :: starEach [] X.env := by rfl)
    (hs2 : starEach [.Call (.Name "reversed" p2) [e] [] pos2] X.env = (false, eval (.Call (.Name "reversed" p2) [e] [] pos2) X.env) :: starEach [] X.env := by rfl) :
    E X z W (.Call (.Name "list" p) [.Call (.Name "reversed" p2) [e] [] pos2] [] pos) (sUn gRv fe) := by
  refine ⟨PE.le (pe_listRv hc hg hm hg2 hm2 he.pe hs hs2) fun σ H Q ⟨S, G, si, h⟩ => ?_, he.k⟩
  refine (step si h).mono fun x H1 ⟨ra, S1, G1, si1, _, da, h1⟩ => ?_
  cases ea : look S1 ra with
  | none => rw [ea] at h1; exact h1.elim
  | some d1 =>
    rw [ea] at h1
    have h1 : Post z W S1 G1 H1 σ Q (lift (gRv d1) S1) := h1
    unfold gRv at h1
    split at h1
    · rename_i l
      obtain ⟨a, xs, rfl, ha, rl⟩ := (da.view si1 ea).lst si1.le
      exact ⟨a, xs, rfl, SqL.of ha, fun q hq => (VP.fin si1 h1).new si1.le hq ⟨_, upd_same, rl.rev⟩⟩
    · exact h1.elim
end
end L2.Dl
/-! sep.join(xs), x.split(sep). -/
namespace L2.Dl
open PySem PySem.Spec PyProof.Rows
def sM1 (g : D → D → Option R) (fa fb : M R) : M R := fun S => (fa S).bind fun ra S1 => match look S1 ra with
  | some (.str _) => (fb S1).bind fun rb S2 => lift (do let da ← look S2 ra; let db ← look S2 rb; g da db) S2
  | _ => .no
section
variable {X : Cx} {z : Dx} {W : WX} {fa fb : M R} {o e ex : Expr} {apos pos : Pos}
theorem E_m1 {r : V → List V → Hp → VK → Prop} {g : D → D → Option R} (hp : PE X ex (tM1 r (tD z W fa) (tD z W fb))) (hr : ∀ x y H Q, rD2 z g x y H Q → r x [y] H Q) (hk : z.K = X.K) : E X z W ex (sM1 g fa fb) := by
  refine ⟨PE.le hp fun σ H Q ⟨S, G, si, h⟩ => ?_, hk⟩
  refine (step si h).mono fun x H1 ⟨ra, S1, G1, si1, _, da, h1⟩ => ?_
  cases ea : look S1 ra with
  | none => rw [ea] at h1; exact h1.elim
  | some d0 =>
    cases d0 with
    | str s =>
      rw [ea] at h1
      simp only at h1
      refine ⟨⟨s, (da.view si1 ea).str⟩, (step si1 h1).mono fun y H2 ⟨rb, S2, G2, si2, g2, db, h2⟩ => hr _ _ _ _ ?_⟩
      have da2 := da.mono g2.ge
      cases e1 : look S2 ra with
      | none => rw [e1] at h2; exact h2.elim
      | some d1 =>
        cases e2 : look S2 rb with
        | none => rw [e1, e2] at h2; exact h2.elim
        | some d2 =>
          rw [e1, e2] at h2
          have h2 : Post z W S2 G2 H2 σ Q (lift (g d1 d2) S2) := h2
          cases e : g d1 d2 with
          | none => rw [e] at h2; exact h2.elim
          | some r =>
            rw [e] at h2
            exact ⟨G2, d1, d2, r, si2.le, da2.view si2 e1, db.view si2 e2, e, VP.fin si2 h2⟩
    | _ => rw [ea] at h1; exact h1.elim
/-- the texts of a list -/
def strsOf : List D → Option (List Str)
  | [] => some []
  | .str s :: l => match strsOf l with
    | none => none
    | some r => some (s :: r)
  | _ => none
theorem strsOf_rep {G : Hp} : ∀ {xs : List V} {l : List D} {ns : List Str}, strsOf l = some ns → RepL z G xs l → xs = ns.map V.str
  | _, [], _, e, r => by cases r; cases e; rfl
  | _, d :: l, ns, e, r => by
    cases r with
    | cons a b =>
      cases d with
      | str i =>
        unfold strsOf at e
        cases el : strsOf l with
        | none => rw [el] at e; cases e
        | some rr =>
          rw [el] at e; cases e
          cases a
          rw [strsOf_rep el b]; rfl
      | _ => cases e
theorem strsOf_map : ∀ l : List Str, strsOf (l.map .str) = some l
  | [] => rfl
  | s :: l => by
    show (match strsOf (l.map .str) with | none => none | some r => some (s :: r)) = _
    rw [strsOf_map l]
def joinO (s : Str) (l : List D) : Option R := match strsOf l with
  | some ys => if (ys.map (·.length)).sum + ys.length * s.length ≤ 16777216 then some (.v (.str (Txt.join s ys))) else none
  | none => none
def gJoin : D → D → Option R
  | .str s, .lst l => joinO s l
  | .str s, .tup l => joinO s l
  | _, _ => none
def gSplit : D → D → Option R
  | .str a, .str b => if (b.length == 0) = false ∧ a.length + 2 ≤ sizeLine then some (.f (.lst ((Txt.split a b).map .str))) else none
  | _, _ => none
theorem repL_strs {G : Hp} (ys : List Str) : RepL z G (ys.map V.str) (ys.map D.str) := by
  induction ys with
  | nil => exact .nil
  | cons a l ih => exact .cons (.str a) ih
theorem E_join (hk : z.K = X.K) (ha : E X z W o fa) (hb : E X z W e fb) (hs : starEach [e] X.env = [(false, eval e X.env)] := by rfl) (hbase : attributeBase o "join" X.env (eval o X.env) = eval o X.env := by rfl) (hline : (apos.endLine == pos.line) = true := by rfl) :
    E X z W (.Call (.Attribute o "join" apos) [e] [] pos) (sM1 gJoin fa fb) := by
  refine E_m1 (pe_join ha.pe hb.pe hs hbase hline) (fun x y H Q h => ?_) hk
  obtain ⟨G, da, db, r, le, va, vb, e, q⟩ := h
  unfold gJoin at e
  split at e
  · rename_i s l
    obtain rfl := va.str
    obtain ⟨a, xs, rfl, hx, rl⟩ := vb.lst le
    unfold joinO at e
    cases es : strsOf l with
    | none => rw [es] at e; cases e
    | some ys =>
      rw [es] at e
      simp only at e
      split at e
      · rename_i hz
        cases e
        refine ⟨_, _, ys, rfl, rfl, .inl ?_, hz, q.rep le (.str _)⟩
        rw [← strsOf_rep es rl]
        exact SqL.of hx
      · cases e
  · rename_i s l
    obtain rfl := va.str
    obtain ⟨a, xs, rfl, hx, rl⟩ := vb.tup le
    unfold joinO at e
    cases es : strsOf l with
    | none => rw [es] at e; cases e
    | some ys =>
      rw [es] at e
      simp only at e
      split at e
      · rename_i hz
        cases e
        refine ⟨_, _, ys, rfl, rfl, .inr ?_, hz, q.rep le (.str _)⟩
        rw [← strsOf_rep es rl, ← hk]
        exact hx
      · cases e
  · cases e
theorem E_split (hk : z.K = X.K) (ha : E X z W o fa) (hb : E X z W e fb) (hs : starEach [e] X.env = [(false, eval e X.env)] := by rfl) (hbase : attributeBase o "split" X.env (eval o X.env) = eval o X.env := by rfl) (hline : (apos.endLine == pos.line) = true := by rfl) :
    E X z W (.Call (.Attribute o "split" apos) [e] [] pos) (sM1 gSplit fa fb) := by
  refine E_m1 (pe_split ha.pe hb.pe hs hbase hline) (fun x y H Q h => ?_) hk
  obtain ⟨G, da, db, r, le, va, vb, e, q⟩ := h
  unfold gSplit at e
  split at e
  · rename_i s l
    obtain rfl := va.str
    obtain rfl := vb.str
    split at e
    · rename_i hz
      cases e
      exact ⟨_, _, rfl, rfl, hz.1, hz.2, fun p hp => q.new le hp ⟨_, upd_same, repL_strs _⟩⟩
    · cases e
  · cases e
end
end L2.Dl
/-! A dict of the module, texts by texts. -/
namespace L2.Dl
open PySem PySem.Spec PyProof.Rows
def tblO (kvs : List (Str × Str)) (s : Str) : Option Str := (kvs.find? fun q => decide (q.1 = s)).map (·.2)
structure TbS (K : PySem.W.Frag) (w : World) (mg : Str → Option Value) (x : Str) (kvs : List (Str × Str)) : Prop where
  ex : ∃ d es n, mg x = some (.ref d) ∧ KDict K w d es n ∧ ∀ s, ∃ r, PySem.W.nsIn K d s = some r ∧ (∀ v, tblO kvs s = some v → ∃ u, r = some u ∧ RelV (.str v) u) ∧ (tblO kvs s = none → r = none)
theorem nsIn_out {K : PySem.W.Frag} {d : Addr} {P : Params} {ks : List Str} (h : He.dicW K d = some (He.keysIn P ks)) {s : Str} (hs : s ∉ ks) : PySem.W.nsIn K d s = some none := by
  unfold He.dicW at h
  unfold PySem.W.nsIn
  split at h
  · rename_i c es n sl e
    rw [e]
    split at h
    · have h := Option.some.inj h
      have key : ∀ (l : List DictEntry) (ks : List Str), l.map He.keyOf = He.keysIn P ks → s ∉ ks → l.find? (·.key.isStr s) = none ∧ l.any (·.refKey) = false := by
        intro l
        induction l with
        | nil => intro ks _ _; exact ⟨rfl, rfl⟩
        | cons a l ih =>
          intro ks h hs
          cases ks with
          | nil => cases h
          | cons k ks =>
            have h1 : He.keyOf a :: l.map He.keyOf = some (k, PyData.keyHash P k) :: He.keysIn P ks := h
            injection h1 with h2 h3
            obtain ⟨i1, i2⟩ := ih ks h3 fun z => hs (List.mem_cons_of_mem _ z)
            unfold He.keyOf at h2
            split at h2
            · rename_i x t q
              have h4 := (Prod.mk.inj (Option.some.inj h2)).1
              have ne : x ≠ s := fun z => hs (by rw [← h4, z]; exact List.mem_cons_self)
              refine ⟨?_, ?_⟩
              · rw [List.find?_cons]
                have : a.key.isStr s = false := by rw [q]; exact beq_eq_false_iff_ne.mpr ne
                rw [this]; exact i1
              · rw [List.any_cons, i2]
                have : a.refKey = false := by unfold DictEntry.refKey; rw [q]
                rw [this]; rfl
            · cases h2
      obtain ⟨k1, k2⟩ := key es.toList ks h hs
      simp only [k1, k2]
      rfl
    · cases h
  · cases h
theorem TbS.of {K : PySem.W.Frag} {w : World} {mg : Str → Option Value} {x : Str} {kvs : List (Str × Str)} {d : Addr} (hm : mg x = some (.ref d)) (h : He.dicW K d = some (He.keysIn w.params (kvs.map (·.1)))) (hv : He.valsB K d (kvs.map fun q => (q.1, He.Dv.str q.2)) = true) : TbS K w mg x kvs := by
  obtain ⟨es, n, kd⟩ := He.dicW_ok h
  refine ⟨d, es, n, hm, kd, fun s => ?_⟩
  cases e : tblO kvs s with
  | none =>
    refine ⟨none, nsIn_out h ?_, fun v z => (nomatch z), fun _ => rfl⟩
    intro z
    obtain ⟨q, hq, rfl⟩ := List.mem_map.mp z
    unfold tblO at e
    rw [Option.map_eq_none_iff, List.find?_eq_none] at e
    exact e q hq (decide_eq_true rfl)
  | some v =>
    unfold tblO at e
    rw [Option.map_eq_some_iff] at e
    obtain ⟨q, hq, rfl⟩ := e
    have h1 : q.1 = s := by simpa using List.find?_some hq
    obtain ⟨u, hu, ru⟩ := He.valsB_ok hv (List.mem_map_of_mem (f := fun q : Str × Str => (q.1, He.Dv.str q.2)) (List.mem_of_find?_eq_some hq))
    refine ⟨some u, by rw [← h1]; exact hu, fun v z => by cases z; exact ⟨u, rfl, ru⟩, fun z => nomatch z⟩
def gInT (neg : Bool) (kvs : List (Str × Str)) : D → Option R
  | .str s => some (.v (.bl (if neg then !(tblO kvs s).isSome else (tblO kvs s).isSome)))
  | _ => none
def gIxT (kvs : List (Str × Str)) : D → Option R
  | .str s => (tblO kvs s).map fun v => .v (.str v)
  | _ => none
section
variable {X : Cx} {z : Dx} {W : WX} {a : Expr} {fa : M R} {x : Str} {kvs : List (Str × Str)} {p pos : Pos}
theorem inT_run {S : SS} {G H : Hp} {σ : L2.St} {Q : VK} {neg : Bool} {d : Addr} (si : SI z S σ H G) (hd : ∀ s, ∃ r, PySem.W.nsIn X.K d s = some r ∧ (∀ v, tblO kvs s = some v → ∃ u, r = some u ∧ RelV (.str v) u) ∧ (tblO kvs s = none → r = none)) (h : Post z W S G H σ Q (sUn (gInT neg kvs) fa S)) :
    tD z W fa σ H fun y H1 => ∃ (s : Str) (r : Option Value), y = .str s ∧ V.ref d = .ref d ∧ PySem.W.nsIn X.K d s = some r ∧ Q (.bl (if neg then !r.isSome else r.isSome)) H1 := by
  refine (step si h).mono fun y H1 ⟨ra, S1, G1, si1, _, da, h1⟩ => ?_
  cases ea : look S1 ra with
  | none => rw [ea] at h1; exact h1.elim
  | some d1 =>
    rw [ea] at h1
    have h1 : Post z W S1 G1 H1 σ Q (lift (gInT neg kvs d1) S1) := h1
    cases d1 with
    | str s =>
      obtain ⟨r, e, k1, k2⟩ := hd s
      have h1 : Post z W S1 G1 H1 σ Q (lift (some (.v (.bl (if neg then !(tblO kvs s).isSome else (tblO kvs s).isSome)))) S1) := h1
      have same : (tblO kvs s).isSome = r.isSome := by
        cases q : tblO kvs s with
        | none => rw [k2 q]; rfl
        | some v => obtain ⟨u, rfl, _⟩ := k1 v q; rfl
      rw [same] at h1
      exact ⟨s, r, (da.view si1 ea).str, rfl, e, (VP.fin si1 h1).rep si1.le (.bl _)⟩
    | _ => exact h1.elim
theorem E_inT (T : TbS X.K X.w X.mg x kvs) (ha : E X z W a fa) (hg : Gl X x := by rfl) (hdb : (x == ("__debug__" : Str)) = false := by decide) (hm : behindInMarks .In (.Name x p) = false := by rfl) :
    E X z W (.Compare a [.In] [.Name x p] pos) (sUn (gInT false kvs) fa) := by
  obtain ⟨d, es, n, hx, kd, hd⟩ := T.ex
  refine ⟨PE.le (pe_cmpR (op_in_kd kd) ha.pe (pe_glob hg hx (v := .ref d) rfl hdb) hm) fun σ H Q ⟨S, G, si, h⟩ => ?_, ha.k⟩
  exact inT_run (neg := false) si hd h
theorem E_ninT (T : TbS X.K X.w X.mg x kvs) (ha : E X z W a fa) (hg : Gl X x := by rfl) (hdb : (x == ("__debug__" : Str)) = false := by decide) (hm : behindInMarks .NotIn (.Name x p) = false := by rfl) :
    E X z W (.Compare a [.NotIn] [.Name x p] pos) (sUn (gInT true kvs) fa) := by
  obtain ⟨d, es, n, hx, kd, hd⟩ := T.ex
  refine ⟨PE.le (pe_cmpR (op_notIn_kd kd) ha.pe (pe_glob hg hx (v := .ref d) rfl hdb) hm) fun σ H Q ⟨S, G, si, h⟩ => ?_, ha.k⟩
  exact inT_run (neg := true) si hd h
theorem E_ixT (T : TbS X.K X.w X.mg x kvs) (ha : E X z W a fa) (hs : PlainIx a) (hg : Gl X x := by rfl) (hdb : (x == ("__debug__" : Str)) = false := by decide) :
    E X z W (.Subscript (.Name x p) a pos) (sUn (gIxT kvs) fa) := by
  obtain ⟨d, es, n, hx, kd, hd⟩ := T.ex
  refine ⟨PE.le (pe_ix ix_kdict (pe_glob hg hx (v := .ref d) rfl hdb) ha.pe hs) fun σ H Q ⟨S, G, si, h⟩ => ?_, ha.k⟩
  refine (step si h).mono fun y H1 ⟨ra, S1, G1, si1, _, da, h1⟩ => ?_
  cases ea : look S1 ra with
  | none => rw [ea] at h1; exact h1.elim
  | some d1 =>
    rw [ea] at h1
    have h1 : Post z W S1 G1 H1 σ Q (lift (gIxT kvs d1) S1) := h1
    cases d1 with
    | str s =>
      obtain ⟨r, e, k1, k2⟩ := hd s
      cases q : tblO kvs s with
      | none =>
        have h1 : Post z W S1 G1 H1 σ Q (lift ((tblO kvs s).map fun v => R.v (.str v)) S1) := h1
        rw [q] at h1; exact h1.elim
      | some v =>
        have h1 : Post z W S1 G1 H1 σ Q (lift ((tblO kvs s).map fun v => R.v (.str v)) S1) := h1
        rw [q] at h1
        obtain ⟨u, rfl, ru⟩ := k1 v q
        exact ⟨d, s, .str v, rfl, (da.view si1 ea).str, ⟨es, n, u, kd.at_, kd.lit, e, ru⟩, (VP.fin si1 h1).rep si1.le (.str _)⟩
    | _ => exact h1.elim
end
end L2.Dl
/-! sorted(d.values(), key=f): the items come from a view. -/
namespace L2.Dl
open PySem PySem.Spec PySem.Calls PyProof.Rows
section
variable {X : Cx} {z : Dx} {G : Hp} {pins : List (Addr × Obj)} {σ : L2.St} {H : Hp} {s : Shared}
theorem sortK_run2 (I : Inv X pins σ H s) (hu : X.A.units + 70 < cLine) {h1 : Heap} {tk1 : Nat} {a : Addr} {us : List Value} {l : List D} {f : Value} {Q : VK} {E' : Value → Shared → Prop} (kp1 : ∀ b o, s.heap.get? b = some o → h1.get? b = some o) (hsa : s.heap.objs.size ≤ a) (ho : h1.get? a = some (seqObj "list" us.toArray 0)) (hz : us.length ≤ sizeLine) (e : PySem.W.EachIs (StandsFor z G) us l)
    (ht : ∀ x, Builtin.«list.sort» ⟨[.ref x], [(Str.ofString "key", f)]⟩ = ksk_tree x f false)
    (P : Nat → Hp → List V → Prop) (p0 : P 0 H [])
    (turn : ∀ (i : Nat) (u : Value) (H1 : Hp) (ks : List V) (s1 : Shared) (pins1 : List (Addr × Obj)), us[i]? = some u → P i H1 ks → (∀ p ∈ pins, p ∈ pins1) → Inv X pins1 σ H1 s1 →
      wpAny (model X.prog X.w) X.A.in1.in1 (call f [u]) (fun k s2 => ∃ v H2, Inv X pins1 σ H2 s2 ∧ RelV v k ∧ P (i + 1) H2 (ks ++ [v])) (fun _ _ => False) s1)
    (fin : ∀ H1 ks, P us.length H1 ks → ∃ ds, DpAll X.K H1 ks ds ∧ ks.length = us.length ∧ okSort ds = true ∧ ∀ p xs, H1 p = none → RepL z G xs (sortK l ds) → Q (.ref p) (upd H1 p (.lst xs))) :
    wpAny (model X.prog X.w) X.A.in1.in1 (Builtin.«list.sort» ⟨[.ref a], [(Str.ofString "key", f)]⟩) (fun fi s' => fi = .done (.ret .none) ∧ EP X pins σ Q (.ref a) s') E' { s with heap := h1, toks := tk1 } := by
  rw [ht]
  -- the list that is sorted, the store of its keys
  have hA : a < h1.objs.size := Heap.lt_size ho
  obtain ⟨e1, ho1⟩ : ∃ e1, (h1.update a (Obj.mapSeq fun _ => (#[] : Array Value))).get? a = some (seqObj "list" #[] e1) := ⟨_, get?_update_seq ho fun _ => #[]⟩
  unfold ksk_tree
  refine wpAny_bind (listItems_at ho rfl ?_)
  refine wpAny_bind (listUpdate_at ho rfl ?_ (by rw [List.size_toArray]; exact hz) (Nat.zero_le _))
  refine wpAny_bind (seqEpoch_at ho1 rfl ?_)
  refine wpAny_bind (wpAny_newTuple ?_ (by show us.length ≤ _; exact hz))
  refine wpAny_bind (wpAny_newList ?_ (Nat.zero_le _))
  refine wpAny_holding ?_
  have kS_eq : ((h1.update a (Obj.mapSeq fun _ => (#[] : Array Value))).push (seqObj "tuple" us.toArray 0)).objs.size = h1.objs.size + 1 := by rw [size_push', Heap.size_update]
  generalize hkS : ((h1.update a (Obj.mapSeq fun _ => (#[] : Array Value))).push (seqObj "tuple" us.toArray 0)).objs.size = kS
  rw [hkS] at kS_eq
  have hka : kS ≠ a := Nat.ne_of_gt (by rw [kS_eq]; exact Nat.lt_succ_of_lt hA)
  show wpAny (model X.prog X.w) X.A.in1.in1 (ksk_rest a f false us.toArray e1 (.ref kS)) _ E' { s with heap := PySem.W.sortingHeap h1 a us, toks := tk1 }
  have old : ∀ b o, s.heap.get? b = some o → (PySem.W.sortingHeap h1 a us).get? b = some o := fun b o q => PySem.W.sortingHeap_old (Nat.ne_of_lt (Nat.lt_of_lt_of_le (Heap.lt_size q) hsa)) (kp1 b o q)
  have I0 : Inv X pins σ H { s with heap := PySem.W.sortingHeap h1 a us, toks := tk1 } := I.kept (t' := tk1) old
  have na0 : (PySem.W.sortingHeap h1 a us).get? a = some (seqObj "list" #[] e1) := Heap.get?_push_of_some _ (Heap.get?_push_of_some _ ho1)
  have nk0 : (PySem.W.sortingHeap h1 a us).get? kS = some (seqObj "list" #[] 0) := by
    rw [← hkS]; exact Heap.get?_push_size _ rfl
  have szk : s.heap.objs.size ≤ kS := Nat.le_trans hsa (Nat.le_of_lt (by rw [kS_eq]; exact Nat.lt_succ_of_lt hA))
  have fpA : ∀ {H1 : Hp}, H1 a = none → FpOk X pins H1 a := fun h => I.fpOk hsa h
  have fpK : ∀ {H1 : Hp}, H1 kS = none → FpOk X pins H1 kS := fun h => I.fpOk szk h
  unfold ksk_rest
  refine wpAny_bind (wpAny_rule ?_)
  first
    | rw [List.forIn_toArray]
    | (rw [← Array.forIn_toList]; simp only [List.toList_toArray])
    | rw [← Array.forIn_toList]
  refine wpAny_bind (ksk_fold (fun i s1 => ∃ H1 ks kA ep, Inv X pins σ H1 s1 ∧ H1 a = none ∧ H1 kS = none ∧ s1.heap.get? kS = some (seqObj "list" kA ep) ∧ s1.heap.get? a = some (seqObj "list" #[] e1) ∧ Vals ks kA.toList ∧ ks.length = i ∧ P i H1 ks) us 0 _
    ⟨H, [], #[], 0, I0, I.hok.fresh hsa, I.hok.fresh szk, nk0, na0, .nil, rfl, p0⟩ ?step ?done)
  case step =>
    rintro j u s1 hx ⟨H1, ks, kA, ep, I1, hA1, hK1, nk, na, rk, lk, p1⟩
    simp only [Nat.zero_add] at lk p1 ⊢
    have hj : j < us.length := (List.getElem?_eq_some_iff.mp hx).1
    have I2 := I1.pinned (fp := [a, kS]) (fun b hb => by
      rcases List.mem_cons.mp hb with rfl | hb
      · exact fpA hA1
      · rcases List.mem_cons.mp hb with rfl | hb
        · exact fpK hK1
        · simp at hb) (fun b hb => by
      rcases List.mem_cons.mp hb with rfl | hb
      · exact ⟨_, na, fun v q => nomatch q⟩
      · rcases List.mem_cons.mp hb with rfl | hb
        · exact ⟨_, nk, fun v q => nomatch q⟩
        · simp at hb)
    refine wpAny_bind (wpAny_attempt (wpAny_mono (turn j u H1 ks s1 _ hx p1 (fun p hp => List.mem_append_left _ hp) I2) (fun v s2 he => ?_) fun _ _ hF => hF.elim))
    obtain ⟨w, H2, I3, rw', p2⟩ := he
    have pinA := I3.pin (a, seqObj "list" #[] e1) (List.mem_append_right _ (List.mem_append_right _ (mem_pinsAt List.mem_cons_self na)))
    have pinK := I3.pin (kS, seqObj "list" kA ep) (List.mem_append_right _ (List.mem_append_right _ (mem_pinsAt (List.mem_cons_of_mem _ List.mem_cons_self) nk)))
    have I4 := I3.unpinned
    try dsimp only
    have nk2 := pinK.1
    have na2 := pinA.1
    have kz : kA.size ≤ us.length := by
      have q1 : ks.length = kA.toList.length := Vals.length rk
      have q2 : kA.toList.length = kA.size := Array.length_toList
      rw [← q2, ← q1, lk]
      first | exact Nat.le_of_lt hj | rfl
    have sb := Heap.SameBut.update s2.heap kS (Obj.mapSeq (·.push v))
    obtain ⟨c2, hc2⟩ : ∃ c2, (s2.heap.update kS (Obj.mapSeq (·.push v))).get? kS = some (seqObj "list" (kA.push v) c2) := ⟨_, get?_update_seq nk2 (·.push v)⟩
    refine wpAny_bind (listUpdate_at nk2 rfl ?_ (Nat.le_trans kz hz) (Nat.le_trans (Nat.le_of_eq (Array.size_push ..)) (Nat.succ_le_succ (Nat.le_trans kz hz))))
    refine wpAny_pure ⟨rfl, H2, ks ++ [w], kA.push v, c2, ?_, pinA.2.1, pinK.2.1, hc2, (sb.2 _ hka.symm).trans na2, ?_, by rw [List.length_append, lk]; rfl, p2⟩
    · exact I4.turnedL (t' := s2.toks) (ch := [kS]) (fun b o hb q => (sb.2 b (fun z => hb (by rw [z]; exact List.mem_cons_self))).trans q) fun b hb => by
        obtain rfl : b = kS := by simpa using hb
        exact fpK pinK.2.1
    · rw [Array.toList_push]; exact rk.append (.cons rw' .nil)
  case done =>
    rintro s1 ⟨H1, ks, kA, ep, I1, hA1, hK1, nk, na, rk, lk, p1⟩
    rw [Nat.zero_add] at p1 lk
    try dsimp only
    refine wpAny_bind (listItems_at nk rfl ?_)
    obtain ⟨ds, dp, _, hok, kfin⟩ := fin H1 ks p1
    obtain ⟨as, rd⟩ := Dp.readsAll I1 ds ks kA.toList dp rk
    have ksz : kA.size = us.length := by
      have q1 : ks.length = kA.toList.length := Vals.length rk
      have q2 : kA.toList.length = kA.size := Array.length_toList
      rw [← q2, ← q1, lk]
    have lds : ds.length = l.length := by rw [← DpAll.len dp, lk]; exact e.length
    -- all but the two objects
    have hidOld : ∀ b o, (hidT s1.heap fun b => if b = kS then some (.lst []) else none).get? b = some o → s1.heap.get? b = some o := fun b o q => of_hidT q |>.1
    have hidNo : (hidT s1.heap fun b => if b = kS then some (HO.lst []) else none).get? kS = none := by
      cases q : (hidT s1.heap fun b => if b = kS then some (HO.lst []) else none).get? kS with
      | none => rfl
      | some o => exact absurd (of_hidT q).2 (by simp)
    have hidGet : ∀ b o, b ≠ kS → s1.heap.get? b = some o → (hidT s1.heap fun b => if b = kS then some (HO.lst []) else none).get? b = some o := fun b o hb q => hidT_get q (by simp [hb])
    refine PySem.W.keyH_end (κ := PySem.W.dataKind s1.heap ds) (h₁ := hidT s1.heap fun b => if b = kS then some (HO.lst []) else none) (fun b o _ q => hidOld b o q) hidNo nk na hka
      (PySem.W.SortsAt.data (s := s1) (reads_each rd) (okSort_alike hok) (okSort_able hok) fun d hd => ?_) (by rw [ksz]) hz fun h3 tk3 c3 k3 n3 => ?_
    · have := okSort_depth hok hd
      show X.A.units + 1 + 1 + d.depth < cLine
      omega
    · refine ⟨rfl, ?_⟩
      have I2 : Inv X pins σ H1 { s1 with heap := h3, toks := tk3 } := I1.turnedL (t' := tk3) (ch := [a, kS]) (fun b o hb q => k3 b o (fun z => hb (by rw [z]; exact List.mem_cons_self)) (hidGet b o (fun z => hb (by rw [z]; exact List.mem_cons_of_mem _ List.mem_cons_self)) q)) fun b hb => by
        rcases List.mem_cons.mp hb with rfl | hb
        · exact fpA hA1
        · obtain rfl : b = kS := by simpa using hb
          exact fpK hK1
      have hE : PySem.W.EachIs (StandsFor z G) (PySem.W.sortVals (PySem.W.dataKind s1.heap ds) false kA.toList us) (sortK l ds) := by
        have ko : PySem.W.KeyedOut false ds us (PySem.W.sortVals (PySem.W.dataKind s1.heap ds) false kA.toList us) := ⟨s1.heap, kA.toList, okSort_alike hok, rfl, reads_each rd⟩
        have q := PySem.W.keyedOut_each (bs := l.zip ds) (R := fun v b => StandsFor z G v b.1) Prod.snd (by rw [zip_snd lds]; exact ko) (each_zip e lds)
        exact each_fst q
      obtain ⟨xs, r1, r2⟩ := stands_back hE
      have hl3 : xs.length ≤ sizeLine := by rw [r1.length, PySem.W.sortVals_length false (by rw [Array.length_toList]; exact ksz)]; exact hz
      exact ⟨.ref a, upd H1 a (.lst xs), Inv.track I2 (fpA hA1) ⟨hl3, _, c3, r1, n3⟩, rfl, kfin _ xs hA1 r2⟩

theorem collect_view {prog : Program} {w : World} {A : Around} {E : Value → Shared → Prop} {s : Shared} {T : String} {r d : Addr} {n : Nat} {P : Nat → Value → Prop} {OK : Heap → Prop} {R : List Value → Shared → Prop} (K : PySem.W.KdlSrc prog w T r d n P OK) (hh : A.handled = none) (hok : OK s.heap) (hn : n ≤ sizeLine)
    (h : ∀ (h' : Heap) (tk : Nat) (acc : Array Value), (∀ b o, s.heap.get? b = some o → h'.get? b = some o) → s.heap.objs.size < h'.objs.size → ItemsOf P acc n → R acc.toList { s with heap := h', toks := tk }) :
    wpAny (model prog w) A (collect (.ref r)) R E s := by
  have hlt := K.there _ hok
  unfold collect
  refine wpAny_bind (wpAny_runValue (codeAny_builtin PySem.F.entry_proto_collect ?_))
  rw [Around.under_plainId PySem.F.plain_proto_collect _]
  show wpAny _ A.in1 (newList [] >>= fun l => again (.builtin "list.__iadd__" ⟨[l, .ref r], []⟩)) _ _ s
  refine wpAny_bind (wpAny_newObj_type ?_)
  refine wpAny_pure ⟨plainId_quiet PySem.F.plain_list_iadd _, codeAny_builtin PySem.F.entry_list_iadd ?_⟩
  rw [Around.under_plainId PySem.F.plain_list_iadd _]
  have hS₁ : (s.heap.push { cls := .type "list", data := .seq ([] : List Value).toArray }).get? s.heap.objs.size = some { cls := .type "list", data := .seq #[] } := Heap.get?_push_size _ rfl
  show wpAny _ A.in1 (Builtin.List.listExtendWith (.ref s.heap.objs.size) (.ref r) (.ref s.heap.objs.size)) _ _ _
  have key := PySem.W.kdl_extend (A := A) (s := { s with heap := s.heap.push { cls := .type "list", data := .seq ([] : List Value).toArray } })
    (R := fun (q : Result) (s' : Shared) => ∃ (h' : Heap) (tk : Nat) (acc' : Array Value) (c' : Nat), q = .ok (.ret (.ref s.heap.objs.size)) ∧ s' = { s with heap := h', toks := tk } ∧
      (∀ b o, s.heap.get? b = some o → h'.get? b = some o) ∧ h'.get? s.heap.objs.size = some { cls := .type "list", dict := none, data := .seq acc' c', slots := #[] } ∧ ItemsOf P acc' n)
    K hh (K.keep _ _ hok fun b _ o e => Heap.get?_push_of_some _ e) s.heap.objs.size (Nat.ne_of_gt hlt.1) (Nat.ne_of_gt hlt.2) (.ref s.heap.objs.size) 0 hS₁
    (fun h' tk acc' c' hk hS' hacc => ⟨h', tk, acc', c', rfl, rfl, fun b o e => hk b o (Nat.ne_of_lt (Heap.lt_size e)) (Heap.get?_push_of_some _ e), hS', hacc⟩) hn
  refine wpAny_mono key (fun fin s' x => ?_) fun e s' x => ?_
  · cases fin with
    | done f =>
      obtain ⟨h', tk, acc', c', e, rfl, hk, hS', hacc⟩ := x
      cases e
      show wpAny _ A (load s.heap.objs.size >>= _) _ _ _
      refine wpAny_bind (wpAny_load hS' ?_)
      exact wpAny_pure (h h' tk acc' hk (Heap.lt_size hS') hacc)
    | again c₁ =>
      refine ⟨x.1, codeAny_mono x.2 fun q s₂ y => ?_⟩
      obtain ⟨h', tk, acc', c', rfl, rfl, hk, hS', hacc⟩ := y
      show wpAny _ A (load s.heap.objs.size >>= _) _ _ _
      refine wpAny_bind (wpAny_load hS' ?_)
      exact wpAny_pure (h h' tk acc' hk (Heap.lt_size hS') hacc)
  · obtain ⟨_, _, _, _, e', _⟩ := x
    cases e'
/-- sorted(r, ..), r a view that is walked -/
theorem sorted_of_view {prog : Program} {w : World} {A : Around} {E : Value → Shared → Prop} {s : Shared} {T : String} {r d : Addr} {n : Nat} {Pv : Nat → Value → Prop} {OK : Heap → Prop} {kw : List (Str × Value)} {Q : Value → Shared → Prop}
    (K : PySem.W.KdlSrc prog w T r d n Pv OK) (hh : A.handled = none) (hok : OK s.heap) (hn : n ≤ sizeLine) (ha1 : argsOk "sorted" ⟨[.ref r], kw⟩) (ha2 : ∀ x, argsOk "list.sort" ⟨[.ref x], kw⟩)
    (body : ∀ (h1 : Heap) (tk : Nat) (acc : List Value) (E' : Value → Shared → Prop) (a : Addr), (∀ b o, s.heap.get? b = some o → h1.get? b = some o) → s.heap.objs.size ≤ a → h1.get? a = some (seqObj "list" acc.toArray 0) → acc.length = n → (∀ i v, acc[i]? = some v → Pv i v) →
      wpAny (model prog w) A.in1.in1 (Builtin.«list.sort» ⟨[.ref a], kw⟩) (fun f s' => f = .done (.ret .none) ∧ Q (.ref a) s') E' { s with heap := h1, toks := tk }) :
    wpAny (model prog w) A (call (.builtin "sorted") [.ref r] kw) Q E s := by
  refine call_function_entry_kw kind_sorted plain_sorted entry_sorted ha1 ?_
  unfold Builtin.«sorted»
  refine wpAny_bind (m := checkCount "sorted" 1 1 _) (wpAny_pure ?_)
  refine wpAny_bind (collect_view (A := A.in1) K hh hok hn fun h' tk acc hk hlt hacc => ?_)
  have hl : acc.toList.length = n := by rw [Array.length_toList]; exact hacc.1
  refine wpAny_bind (wpAny_newList ?_ (by rw [hl]; exact hn))
  have hle : s.heap.objs.size ≤ h'.objs.size := Nat.le_of_lt hlt
  have ho : (h'.push { cls := .type "list", data := .seq acc.toList.toArray }).get? h'.objs.size = some (seqObj "list" acc.toList.toArray 0) := Heap.get?_push_size _ rfl
  refine wpAny_bind (wpAny_holding (wpAny_call_entry_kw slot_list_sort ⟨_, ho, rfl⟩ entry_list_sort ?body (ha2 _)))
  case body =>
    show wpAny (model prog w) A.in1.in1 (Builtin.«list.sort» ⟨[.ref h'.objs.size], kw⟩) _ _ _
    refine wpAny_mono (body (h'.push { cls := .type "list", data := .seq acc.toList.toArray }) tk acc.toList _ h'.objs.size (fun b o q => Heap.get?_push_of_some _ (hk b o q)) hle ho hl fun i v q => hacc.2 i v (by rw [← Array.getElem?_toList]; exact q)) (fun f s' hf => ?_) fun _ _ e => e
    obtain ⟨rfl, hq⟩ := hf
    exact ⟨_, rfl, wpAny_pure ⟨_, rfl, hq⟩⟩
end
end L2.Dl
/-! sorted(d.values(), key=lambda x: ..), the rule. -/
namespace L2.Dl
open PySem PySem.Spec PyProof.Rows LamX NdefX
/-- the values of a dict -/
def sVals (fd : M R) : M R := fun S => (fd S).bind fun r S1 => match look S1 r with
  | some (.dct l) => .ok (.v (.lst (l.map (·.2)))) S1
  | _ => .no
theorem vals_of_get : ∀ {xs : List V} {us : List Value}, xs.length = us.length → (∀ (i : Nat) (u : Value), us[i]? = some u → ∃ x, xs[i]? = some x ∧ RelV x u) → Vals xs us
  | [], [], _, _ => .nil
  | [], _ :: _, h, _ => by simp at h
  | _ :: _, [], h, _ => by simp at h
  | x :: xs, u :: us, h, q => by
    obtain ⟨y, e, r⟩ := q 0 u rfl
    cases e
    exact .cons r (vals_of_get (by simpa using h) fun i w e => q (i + 1) w e)
section
variable {X : Cx} {z : Dx} {W : WX}
theorem E_sortLV {k : Nat} {cc P : Addr} {N fr : List Str} {xp : Str} {js : List Nat} {params : Arguments} {body o : Expr} {scope : Scope} {n : Nat} {fd fb : M R} {nm : Option Str} {p lpos kpos apos mpos pos : Pos} (hc : X.calm = true) (hd : E X z W o fd) (TB : TabB X.base X.mg cc P) (hcode : X.env.code = .ref cc) (hT : (P, X.env.qual ++ "<lambda>") ∈ z.cl.T)
    (hm : X.mg "sorted" = none) (hr : Room (k + 3) X.A) (SC : NScope N [xp] fr scope) (hn : N.length = n) (hjs : js.map (fun j => X.N[j]?) = fr.map some)
    (hfS : ∀ y ∈ scope.names, y.2 = .free → X.env.scope.names.lookup y.1 = some .cell ∨ X.env.scope.names.lookup y.1 = some .free) (hfr : ∀ y ∈ fr, (y, NameKind.free) ∈ scope.names)
    (hb : ∀ (c' f : Addr) (A : Around) (outer : List Env) (s : Shared) (H : Hp) (z' : Dx), z'.cl = z.cl → Room k (A.deeper (envF ⟨"<lambda>", X.env.qual ++ "<lambda>", params, [], scope, cloFrom X.env.cells scope.names [], c'⟩ f s.heap.objs.size)) →
      Ct (ncx L2.CX0 X.prog X.w X.K X.mg X.base N ⟨"<lambda>", X.env.qual ++ "<lambda>", params, [], scope, cloFrom X.env.cells scope.names [], c'⟩ f A outer s H L2.E0) z' W0 →
      E (ncx L2.CX0 X.prog X.w X.K X.mg X.base N ⟨"<lambda>", X.env.qual ++ "<lambda>", params, [], scope, cloFrom X.env.cells scope.names [], c'⟩ f A outer s H L2.E0) z' W0 body fb)
    (hbind : ∀ (cl : List (Str × Addr)) (c' : Addr) (pm ctv u : Value), bindArgs (PySem.W.kla_fn "<lambda>" (X.env.qual ++ "<lambda>") params body scope cl pm (.ref c') ctv) ⟨[u], []⟩ = pure [(xp, u)] := by intro _ _ _ _ _; rfl)
    (hbase : attributeBase o "values" X.env (eval o X.env) = eval o X.env := by rfl) (hline : (apos.endLine == mpos.line) = true := by rfl)
    (hdef : defaultsOf params X.env = ([], []) := by rfl) (hg : Gl X "sorted" := by rfl)
    (hs : starEach [.Call (.Attribute o "values" apos) [] [] mpos] X.env = (false, eval (.Call (.Attribute o "values" apos) [] [] mpos) X.env) :: starEach [] X.env := by rfl)
    (he : backTo pos (starEach [.Call (.Attribute o "values" apos) [] [] mpos] X.env) = (false, eval (.Call (.Attribute o "values" apos) [] [] mpos) X.env) :: backTo pos (starEach [] X.env) := by rfl) (hpl : (backTo pos (starEach [.Call (.Attribute o "values" apos) [] [] mpos] X.env)).any (·.1) = false := by rfl)
    (hall : (backToKw pos (keywordEach [⟨nm, .Lambda params body scope lpos, kpos⟩] X.env)).all (·.1.isSome) = true := by rfl) (hnone : (backToKw pos (keywordEach [⟨nm, .Lambda params body scope lpos, kpos⟩] X.env)).any (·.1.isNone) = false := by rfl)
    (hks : (backToKw pos (keywordEach [⟨nm, .Lambda params body scope lpos, kpos⟩] X.env)).filterMap (·.1) = [Str.ofString "key"] := by rfl) :
    E X z W (.Call (.Name "sorted" p) [.Call (.Attribute o "values" apos) [] [] mpos] [⟨nm, .Lambda params body scope lpos, kpos⟩] pos) (sSortL n js fb (sVals fd)) := by
  refine ⟨⟨fun pins s σ H Q I ⟨S, G, si, h⟩ => ?_⟩, hd.k⟩
  refine wpAny_Call_Name_kw (ld_blt I hg hm boot_sorted ?_ (by decide) (by decide))
  refine PyProof.Rows.callWith_kw (PyProof.Rows.args_cons (wpAny_Call_method0_late hbase hline (thn (hd.pe.run pins s σ H (fun x H1 => ∃ ra S1 G1, SI z S1 σ H1 G1 ∧ Go S S1 σ σ H H1 G G1 ∧ DenS z σ G1 x ra ∧ Post z W S1 G1 H1 σ Q (match look S1 ra with
    | some (.dct l) => (Res.ok (R.v (.lst (l.map (·.2)))) S1).bind (sortLk n js fb)
    | _ => .no)) I ((step si (by
      have q : sSortL n js fb (sVals fd) S = (fd S).bind fun ra S1 => match look S1 ra with
        | some (.dct l) => (Res.ok (R.v (.lst (l.map (·.2)))) S1).bind (sortLk n js fb)
        | _ => .no := by
        unfold sSortL sVals
        cases fd S with
        | ok ra S1 =>
          simp only [Res.bind]
          cases look S1 ra with
          | none => rfl
          | some d => cases d <;> rfl
        | ex => rfl
        | no => rfl
      rw [q] at h
      exact h)).mono fun x H1 q => q)) fun v s1 ⟨x, H1, I1, r1, ra, S1, G1, si1, g1, dn, h1⟩ => ?_)) hs) he hpl hall hnone
  cases ek0 : look S1 ra with
  | none => rw [ek0] at h1; exact h1.elim
  | some d0 =>
    cases d0 with
    | dct l =>
      rw [ek0] at h1
      have h1 : Post z W S1 G1 H1 σ Q (sortLk n js fb (.v (.lst (l.map (·.2)))) S1) := h1
      obtain ⟨a, kvs, rfl, hrd, hkk, rl0⟩ := (dn.view si1 ek0).dct si1.le
      obtain rfl : v = Value.ref a := r1
      obtain ⟨hsz, hsys, vs, rel, dof⟩ := dk_rd I1.hok hrd
      obtain ⟨ep, dat⟩ := dof.dictAt
      obtain ⟨ob, es, ho, ex, hdat, hko, hpr, hnd⟩ := id dat
      refine ⟨"dict", "dict.values", PySem.F.plainAttrs_dict, PySem.F.slot_dict_values, PySem.F.type_dict_values, ⟨ob, ho, ex.1⟩, fun b e => ?_, Calls.callWith_builtin rfl (PySem.evalArgs_none ?_)⟩
      · cases e
        exact ⟨ob, ho, ex.2.1⟩
      refine call_meetsIn PySem.F.slot_dict_values ⟨ob, ho, ex.1⟩ PySem.F.entry_dict_values (PySem.F.args_dict_values_1 _) (meets_dict_values (mixKind X.prog X.w) a hsys) ⟨⟨vs, dof⟩, ?_⟩
      refine PyProof.Rows.args_nil ?_
      have k1 : ∀ b u, s1.heap.get? b = some u → (s1.heap.push { cls := .type "dict_values", data := .fields #[.ref a] }).get? b = some u := fun b u e => Heap.get?_push_of_some _ e
      have I1' : Inv X pins σ H1 { s1 with heap := s1.heap.push { cls := .type "dict_values", data := .fields #[.ref a] } } := I1.kept (t' := s1.toks) k1
      have vat : (s1.heap.push { cls := .type "dict_values", data := .fields #[.ref a] }).get? s1.heap.objs.size = some { cls := .type "dict_values", data := .fields #[.ref a] } := Heap.get?_push_size _ rfl
      have Ip := I1'.pinned (fp := [s1.heap.objs.size]) (fun b hb => by rw [List.mem_singleton.mp hb]; exact I1.fpOk (H' := H1) (Nat.le_refl _) (I1.hok.fresh (Nat.le_refl _))) (fun b hb => by rw [List.mem_singleton.mp hb]; exact ⟨_, vat, fun v q => nomatch q⟩)
      show wpAny _ _ (evalAll ((do let v ← eval (.Lambda params body scope lpos) X.env; standAt pos; pure v) :: (backToKw pos (keywordEach [] X.env)).map (·.2))) _ _ { s1 with heap := s1.heap.push { cls := .type "dict_values", data := .fields #[.ref a] } }
      have hfree : ∀ y ∈ scope.names, y.2 = .free → ∃ c, X.env.cells.lookup y.1 = some c := fun y hy e => (hfS y hy e).elim (fun q => I1.ok.has _ (.inl q)) fun q => I1.ok.has _ (.inr q)
      refine wpAny_evalAll_cons (wpAny_bind (lam_makeX Ip TB hcode (tab_at si1 hT) hdef hfree fun f c' pm ctv H2 s2 I2 md tb of hf hge hco => wpAny_bind (wpAny_standAt (wpAny_pure ?_))))
      refine wpAny_evalAll_nil ?_
      rw [hks]
      show wpAny (model X.prog X.w) X.A (call (.builtin "sorted") [.ref s1.heap.objs.size] [(Str.ofString "key", .ref f)]) (EP X pins σ Q) X.xe s2
      have vw2 : s2.heap.get? s1.heap.objs.size = some { cls := .type "dict_values", data := .fields #[.ref a] } :=
        (I2.pin (s1.heap.objs.size, { cls := .type "dict_values", data := .fields #[.ref a] }) (List.mem_append_right _ (List.mem_append_right _ (mem_pinsAt List.mem_cons_self vat)))).1
      obtain ⟨si2, g2⟩ := made_si si1 hT md tb
      unfold sortLk at h1
      have el : lookLst S1 (.v (.lst (l.map (·.2)))) = some (l.map (·.2)) := rfl
      rw [el] at h1
      cases ec : capsD S1 js with
      | none => rw [ec] at h1; exact h1.elim
      | some cs =>
        rw [ec] at h1
        simp only at h1
        cases ek : keysL n fb cs (l.map (·.2)) with
        | none => rw [ek] at h1; exact h1.elim
        | some ks =>
          rw [ek] at h1
          simp only at h1
          obtain ⟨a', kvs2, ea', hrd2, hkk2, rl⟩ := ((dn.mono g2.ge).view si2 ek0).dct si2.le
          cases ea'
          obtain ⟨hsz2, hsys2, vs2, rel2, dof2⟩ := dk_rd I2.hok hrd2
          obtain ⟨ep2, dat2⟩ := dof2.dictAt
          have hu := hr.un
          obtain ⟨f0, f1, f2, f3, f4, f5⟩ := Ip.fpOk (H' := H2) hge hf
          have I3 := I2.pins_of (pins' := (pins ++ pinsAt [s1.heap.objs.size] (s1.heap.push { cls := .type "dict_values", data := .fields #[.ref a] })) ++ [(f, PySem.W.kla_obj "<lambda>" (X.env.qual ++ "<lambda>") params body scope (cloFrom X.env.cells scope.names []) pm c' ctv)]) fun q hq => (List.mem_append.mp hq).elim (fun w => I2.pin q (List.mem_append_right _ w)) fun w => by
            obtain rfl : q = _ := List.mem_singleton.mp w
            exact ⟨of, f0, f1, f2, fun v e => nomatch e⟩
          have lv : vs2.length ≤ sizeLine := by rw [← KV.length rel2]; exact hsz2
          refine thn (sorted_of_view (Q := EP X ((pins ++ pinsAt [s1.heap.objs.size] (s1.heap.push { cls := .type "dict_values", data := .fields #[.ref a] })) ++ [(f, PySem.W.kla_obj "<lambda>" (X.env.qual ++ "<lambda>") params body scope (cloFrom X.env.cells scope.names []) pm c' ctv)]) σ Q) (PySem.W.kdl_values (knd := mixKind X.prog X.w) (kvs := vs2) (ep := ep2)) (I1.ok.hd hc) ⟨⟨_, vw2, rfl, rfl⟩, dat2⟩ lv (PyProof.Rows.ksk_s1 _ _) (fun _ => PyProof.Rows.ksk_l1 _ _) fun h1' tk acc E' aL kp hsa hoL hlen hacc => ?_) fun v s3 ⟨w, H3, I4, rw', q⟩ => ⟨w, H3, I4.unpinned.unpinned, rw', q⟩
          have rv : Vals (kvs2.map (·.2)) acc := vals_of_get (by rw [List.length_map, hlen, KV.length rel2]) fun i u hu => by
            obtain ⟨k, hk⟩ := hacc i u hu
            obtain ⟨x, h1, h2⟩ := KV.at' rel2 hk
            exact ⟨x, by rw [List.getElem?_map, h1]; rfl, h2⟩
          have hkl : acc.length = ks.length := by rw [← rv.length, rl.length, (keysL_at ek).1]
          exact sortK_run2 I3 (by omega) kp hsa hoL (by rw [hlen]; exact lv) (stands_all rv rl) (fun a => PyProof.Rows.ksk_t1 f a)
            (KeyP z W S1 σ H2 G1 ks (fun H => H c' = some (CodeO c' (X.env.qual ++ "<lambda>")))) ⟨G1, si2, .refl, by rw [List.take_zero]; exact .nil, hco⟩
            (keyL_turn (F := ⟨"<lambda>", X.env.qual ++ "<lambda>", params, [], scope, cloFrom X.env.cells scope.names [], c'⟩) SC hn (fun ok => Caps.made ok hfS hfr hjs) hd.k hr (fun u => hbind _ _ _ _ u) (fun A outer s H z' hcl hrr ct => hb c' f A outer s H z' hcl hrr ct) H2 G1 ek ec rv rl _)
            (sort_fin hd.k hkl (Post.from h1 g2))
    | _ => rw [ek0] at h1; exact h1.elim
end
end L2.Dl
/-! The head's hook, with the interpreter's own table in sight (classes are read there). -/
namespace L2.Dl
open PySem PySem.Spec PyProof.Rows LamX
abbrev asZ (g : Addr → Option Obj) (n : Nat) : List Addr := He.asD g n ++ [cStatics]
def obsZ (n : Nat) (fa : List He.Fa) (fn : List He.DefD) (ts : List He.Tab) (tf : List He.Defn) (ex : PySem.W.Frag → Bool) (g : Addr → Option Obj) : He.AlX :=
  (He.obsT fa fn ts (He.frT g (asZ g n)), ex (He.frT g (asZ g n)) && He.tabsB g tf (He.frT g (asZ g n)))
theorem saysZ_of {n : Nat} {fa : List He.Fa} {fn : List He.DefD} {ts : List He.Tab} {tf : List He.Defn} {ex : PySem.W.Frag → Bool} {w : World} {h : Heap} (e : obsZ n fa fn ts tf ex h.get? = He.valX fn ts w) : He.SaysX fa fn ts tf ex w h (He.frT h.get? (asZ h.get? n)) := by
  obtain ⟨h1, h2⟩ := Bool.and_eq_true_iff.mp (show (ex (He.frT h.get? (asZ h.get? n)) && He.tabsB h.get? tf (He.frT h.get? (asZ h.get? n))) = true from congrArg Prod.snd e)
  have each : ∀ p ∈ tf, PySem.W.codeHdIn (He.frT h.get? (asZ h.get? n)) (He.cT (He.frT h.get? (asZ h.get? n)) p).1 (He.cT (He.frT h.get? (asZ h.get? n)) p).2 = true ∧ ∃ o, h.get? (He.cT (He.frT h.get? (asZ h.get? n)) p).2 = some o ∧ He.emptyTab o = true := by
    intro p hp
    obtain ⟨h3, h4⟩ := Bool.and_eq_true_iff.mp (List.all_eq_true.mp h2 p hp)
    cases q : h.get? (He.cT (He.frT h.get? (asZ h.get? n)) p).2 with
    | none => rw [q] at h4; cases h4
    | some o => rw [q] at h4; exact ⟨h3, o, rfl, h4⟩
  refine ⟨congrArg Prod.fst e, h1, fun p hp => (each p hp).1, fun p hp => ?_, fun p hp => ?_⟩
  · obtain ⟨_, o, q, em⟩ := each p hp
    exact He.frT_none q em
  · obtain ⟨_, o, q, em⟩ := each p hp
    rw [q, He.emptyTab_eq em]
def hookZ (n : Nat) (fa : List He.Fa) (fn : List He.DefD) (ts : List He.Tab) (tf : List He.Defn) (ex : PySem.W.Frag → Bool) : PySem.W.Hook where
  α := He.AlX
  obs := fun s => obsZ n fa fn ts tf ex s.heap.get?
  val := fun w => He.valX fn ts w
  says := fun w h => ∃ K : PySem.W.Frag, K.In h ∧ He.SaysX fa fn ts tf ex w h K
  of := fun _ _ e => ⟨_, He.frT_in, saysZ_of e⟩
  keeps := fun _ _ _ ⟨K, hK, c⟩ k => ⟨K, PySem.W.Frag.In.keeps hK k, ⟨c.t, c.more, c.hd, c.out, fun p hp => k _ _ (c.empty p hp)⟩⟩
theorem obsZ_eq {n : Nat} {fa : List He.Fa} {fn : List He.DefD} {ts : List He.Tab} {tf : List He.Defn} {ex : PySem.W.Frag → Bool} {g : Addr → Option Obj} {s : Shared} (h : ∀ a, g a = s.heap.get? a) : obsZ n fa fn ts tf ex g = (hookZ n fa fn ts tf ex).obs s := by
  rw [show g = s.heap.get? from funext h] <;> rfl
end L2.Dl
/-! str(x), x a number or a text; the tables of the head. -/
namespace L2.Dl
open PySem PySem.Spec PyProof.Rows
def gStr2 : List D → Option R
  | [.str s] => some (.v (.str s))
  | l => gStr l
section
variable {X : Cx} {z : Dx}
theorem cr_strD2 : CallR X (.type "str") (rDL z gStr2) := by
  intro pins s σ H xs us Q I rs hh
  obtain ⟨G, ds, r, le, vw, e, q⟩ := hh
  unfold gStr2 at e
  split at e
  · cases e
    obtain ⟨x, rfl, v⟩ := view1 vw
    obtain rfl := v.str
    exact SkE.call_str_str pins s σ H _ us Q I rs ⟨_, rfl, q.rep le (.str _)⟩
  · exact cr_strD pins s σ H xs us Q I rs ⟨G, ds, r, le, vw, e, q⟩
end
/-- .. and the values of the tables -/
def exV (ex : PySem.W.Frag → Bool) (tv : List (Str × List (Str × Str))) (K : PySem.W.Frag) : Bool := ex K && tv.all fun t => He.valsB K (He.ga K t.1) (t.2.map fun q => (q.1, He.Dv.str q.2))
theorem exV_1 {ex : PySem.W.Frag → Bool} {tv : List (Str × List (Str × Str))} {K : PySem.W.Frag} (h : exV ex tv K = true) : ex K = true := (Bool.and_eq_true_iff.mp h).1
def tabsOf (tv : List (Str × List (Str × Str))) : List He.Tab := tv.map fun t => ((fun K => He.ga K t.1), t.2.map (·.1))
theorem tbS_of {fa : List He.Fa} {fn : List He.DefD} {tv : List (Str × List (Str × Str))} {ex : PySem.W.Frag → Bool} {w : World} {K : PySem.W.Frag} {mg : Str → Option Value} (c : He.SaysT fa fn (tabsOf tv) w K) (h : exV ex tv K = true) (i : Nat) {x : Str} {kvs : List (Str × Str)} (ht : tv[i]? = some (x, kvs)) (hm : mg x = some (.ref (He.ga K x))) : TbS K w mg x kvs := by
  have e : (tabsOf tv).map (fun t => He.dicW K (t.1 K)) = (tabsOf tv).map fun t => some (He.keysIn w.params t.2) := congrArg (fun z : He.AlT => z.2) c
  have e2 : ((tabsOf tv).map fun t => He.dicW K (t.1 K))[i]? = ((tabsOf tv).map fun t => some (He.keysIn w.params t.2))[i]? := by rw [e]
  unfold tabsOf at e2
  simp only [List.getElem?_map, ht, Option.map_some] at e2
  exact TbS.of hm (Option.some.inj e2) (List.all_eq_true.mp (Bool.and_eq_true_iff.mp h).2 _ (List.mem_of_getElem? ht))
/-! ### x in TABLE, as a test -/
def sT1 (g : D → Option Bool) (fa : M R) : M Bool := fun S => (fa S).bind fun ra S1 => liftT (do let da ← look S1 ra; g da) S1
def gInB (neg : Bool) (kvs : List (Str × Str)) : D → Option Bool
  | .str s => some (if neg then !(tblO kvs s).isSome else (tblO kvs s).isSome)
  | _ => none
section
variable {X : Cx} {z : Dx} {W : WX} {a : Expr} {fa : M R} {x : Str} {kvs : List (Str × Str)} {p pos : Pos}
theorem inB_run {S : SS} {G H : Hp} {σ : L2.St} {Q : Bool → Hp → Prop} {neg : Bool} {d : Addr} (si : SI z S σ H G) (hd : ∀ s, ∃ r, PySem.W.nsIn X.K d s = some r ∧ (∀ v, tblO kvs s = some v → ∃ u, r = some u ∧ RelV (.str v) u) ∧ (tblO kvs s = none → r = none)) (h : PostT z W S G H σ Q (sT1 (gInB neg kvs) fa S)) :
    tD z W fa σ H fun y H1 => ∃ (s : Str) (r : Option Value), y = .str s ∧ V.ref d = .ref d ∧ PySem.W.nsIn X.K d s = some r ∧ ∃ k, V.bl (if neg then !r.isSome else r.isSome) = .bl k ∧ Q k H1 := by
  refine (stepT si h).mono fun y H1 ⟨ra, S1, G1, si1, _, da, h1⟩ => ?_
  cases ea : look S1 ra with
  | none => rw [ea] at h1; exact h1.elim
  | some d1 =>
    rw [ea] at h1
    have h1 : PostT z W S1 G1 H1 σ Q (liftT (gInB neg kvs d1) S1) := h1
    cases d1 with
    | str s =>
      obtain ⟨r, e, k1, k2⟩ := hd s
      have h1 : PostT z W S1 G1 H1 σ Q (liftT (some (if neg then !(tblO kvs s).isSome else (tblO kvs s).isSome)) S1) := h1
      have same : (tblO kvs s).isSome = r.isSome := by
        cases q : tblO kvs s with
        | none => rw [k2 q]; rfl
        | some v => obtain ⟨u, rfl, _⟩ := k1 v q; rfl
      rw [same] at h1
      exact ⟨s, r, (da.view si1 ea).str, rfl, e, _, rfl, h1 _ _ si1 .refl⟩
    | _ => exact h1.elim
theorem T_inT (T : TbS X.K X.w X.mg x kvs) (ha : E X z W a fa) (hg : Gl X x := by rfl) (hdb : (x == ("__debug__" : Str)) = false := by decide) (hm : behindInMarks .In (.Name x p) = false := by rfl) :
    L2.Dl.T X z W (.Compare a [.In] [.Name x p] pos) (sT1 (gInB false kvs) fa) := by
  obtain ⟨d, es, n, hx, kd, hd⟩ := T.ex
  refine ⟨PT.le (pt_cmpR (op_in_kd kd) ha.pe (pe_glob hg hx (v := .ref d) rfl hdb) hm) fun σ H Q ⟨S, G, si, h⟩ => ?_, ha.k⟩
  exact inB_run (neg := false) si hd h
theorem T_ninT (T : TbS X.K X.w X.mg x kvs) (ha : E X z W a fa) (hg : Gl X x := by rfl) (hdb : (x == ("__debug__" : Str)) = false := by decide) (hm : behindInMarks .NotIn (.Name x p) = false := by rfl) :
    L2.Dl.T X z W (.Compare a [.NotIn] [.Name x p] pos) (sT1 (gInB true kvs) fa) := by
  obtain ⟨d, es, n, hx, kd, hd⟩ := T.ex
  refine ⟨PT.le (pt_cmpR (op_notIn_kd kd) ha.pe (pe_glob hg hx (v := .ref d) rfl hdb) hm) fun σ H Q ⟨S, G, si, h⟩ => ?_, ha.k⟩
  exact inB_run (neg := true) si hd h
end
end L2.Dl
/-! A world, told apart by one row of the text. -/
namespace L2.Dl
open PySem
def setRow (w : World) (row : String) (b : Bool) : World := { w with params := { w.params with followText := fun r => if r = row then b else w.params.followText r } }
theorem setRow_eq (w : World) (row : String) : setRow w row (w.params.followText row) = w := by
  obtain ⟨d, p⟩ := w
  obtain ⟨a1, a2, a3, a4, a5, f⟩ := p
  unfold setRow
  have : (fun r => if r = row then f row else f r) = f := funext fun r => by
    by_cases z : r = row
    · rw [if_pos z, z]
    · rw [if_neg z]
  simp only [this]
theorem by_row {P : World → Prop} (row : String) (h : ∀ w b, P (setRow w row b)) (w : World) : P w := by
  have q := h w (w.params.followText row)
  rw [setRow_eq] at q
  exact q
end L2.Dl
/-! The semantics reckoned by simp: what each form unfolds to. -/
namespace L2.Dl
open PySem PySem.Spec PyProof.Rows
section
variable {S : SS} {fa fb fc : M R} {ft fu : M Bool} {f g : M Fl} {fl : M (List R)} {fi : M (List D)} {i : Nat} {d : D} {α β : Type}
@[simp] theorem ev_bind_ok (a : α) (s : SS) (k : α → SS → Res β) : (Res.ok a s).bind k = k a s := rfl
@[simp] theorem ev_bind_ex (c : Nat) (w : D) (s : SS) (k : α → SS → Res β) : (Res.ex c w s).bind k = .ex c w s := rfl
@[simp] theorem ev_sNm : sNm i S = match S[i]? with
  | some (.shr d) => .ok (.at i) S
  | some (.own t d) => .ok (.at i) S
  | _ => .no := rfl
@[simp] theorem ev_sV : sV d S = .ok (.v d) S := rfl
@[simp] theorem ev_sNil : sNil S = .ok [] S := rfl
@[simp] theorem ev_sCons : sCons fa fl S = (fa S).bind fun ra S1 => (fl S1).bind fun rs S2 => .ok (ra :: rs) S2 := rfl
@[simp] theorem ev_sOp {g : D → D → Option R} : sOp g fa fb S = (fa S).bind fun ra S1 => (fb S1).bind fun rb S2 => lift (do let da ← look S2 ra; let db ← look S2 rb; g da db) S2 := rfl
@[simp] theorem ev_sUn {g : D → Option R} : sUn g fa S = (fa S).bind fun ra S1 => lift (do let da ← look S1 ra; g da) S1 := rfl
@[simp] theorem ev_lift_some (r : R) : lift (some r) S = .ok r S := rfl
@[simp] theorem ev_liftT_some (b : Bool) : liftT (some b) S = .ok b S := rfl
@[simp] theorem ev_sTru : sTru fa S = (fa S).bind fun ra S1 => liftT (lookB S1 ra) S1 := rfl
@[simp] theorem ev_sCmpT {g : D → D → Option Bool} : sCmpT g fa fb S = (fa S).bind fun ra S1 => (fb S1).bind fun rb S2 => liftT (do let da ← look S2 ra; let db ← look S2 rb; g da db) S2 := rfl
@[simp] theorem ev_sAnd : sAnd ft fu S = (ft S).bind fun b S1 => if b = true then fu S1 else .ok false S1 := rfl
@[simp] theorem ev_sOr : sOr ft fu S = (ft S).bind fun b S1 => if b = true then .ok true S1 else fu S1 := rfl
@[simp] theorem ev_sNot : sNot ft S = (ft S).bind fun b S1 => .ok (!b) S1 := rfl
@[simp] theorem ev_sCall {g : List D → Option R} : sCall g fl S = (fl S).bind fun rs S1 => lift (do let ds ← lookL S1 rs; g ds) S1 := rfl
@[simp] theorem ev_sMake {g : List D → Option R} : sMake g fl S = (fl S).bind fun rs S1 => match valsR S1 rs with
  | none => .no
  | some (ds, S2) => lift (g ds) S2 := rfl
@[simp] theorem ev_sSeq : sSeq f g S = (f S).bind fun fl S1 => match fl with
  | .nx => g S1
  | fl => .ok fl S1 := rfl
@[simp] theorem ev_sNext : sNext S = .ok .nx S := rfl
@[simp] theorem ev_sIfS : sIfS ft f g S = (ft S).bind fun b S1 => if b = true then f S1 else g S1 := rfl
@[simp] theorem ev_sExpr : sExpr fa S = (fa S).bind fun _ S1 => .ok .nx S1 := rfl
@[simp] theorem ev_sAsg : sAsg i fa S = (fa S).bind fun ra S1 => nxt (setR S1 i ra) := rfl
@[simp] theorem ev_nxt (s : SS) : nxt (some s) = .ok .nx s := rfl
@[simp] theorem ev_sRet : sRet fa S = (fa S).bind fun ra S1 => match retR S1 ra with
  | some (d, fr, S2) => .ok (.rt d fr) S2
  | none => .no := rfl
@[simp] theorem ev_sRetN : sRetN S = .ok (.rt .non false) S := rfl
@[simp] theorem ev_tNm : tNm i d S = some (S.set i (.shr d)) := rfl
@[simp] theorem ev_sFor {tg : D → SS → Option SS} : sFor fi tg f S = (fi S).bind fun ds S1 => forL tg f ds S1 := rfl
@[simp] theorem ev_forL_nil {tg : D → SS → Option SS} : forL tg f [] S = .ok .nx S := rfl
@[simp] theorem ev_setR_v : setR S i (.v d) = some (S.set i (.shr d)) := rfl
@[simp] theorem ev_setR_f : setR S i (.f d) = some (S.set i (.own none d)) := rfl
@[simp] theorem ev_setR_at {j : Nat} : setR S i (.at j) = match S[j]? with
    | some (.shr d) => some (S.set i (.shr d))
    | some (.own t d) => some ((S.set j (.shr d)).set i (.shr d))
    | _ => none := rfl
@[simp] theorem ev_retR_v : retR S (.v d) = some (d, false, S) := rfl
@[simp] theorem ev_retR_f : retR S (.f d) = some (d, true, S) := rfl
@[simp] theorem ev_retR_at : retR S (.at i) = match S[i]? with
    | some (.shr d) => some (d, false, S)
    | some (.own none d) => some (d, true, S.set i .un)
    | _ => none := rfl
@[simp] theorem ev_look_v : look S (.v d) = some d := rfl
@[simp] theorem ev_look_f : look S (.f d) = some d := rfl
@[simp] theorem ev_look_at : look S (.at i) = slotD S i := rfl
@[simp] theorem ev_slotD : slotD S i = match S[i]? with
  | some x => x.data
  | none => none := rfl
@[simp] theorem ev_data_shr : (AV.shr d).data = some d := rfl
@[simp] theorem ev_data_own {t : Option Nat} : (AV.own t d).data = some d := rfl
@[simp] theorem ev_lookB {r : R} : lookB S r = (look S r).bind D.truth := rfl
@[simp] theorem ev_lookL_nil : lookL S [] = some [] := rfl
@[simp] theorem ev_lookL_cons {r : R} {rs : List R} : lookL S (r :: rs) = match look S r with
    | none => none
    | some d => match lookL S rs with
      | none => none
      | some ds => some (d :: ds) := rfl
@[simp] theorem ev_valR_v : valR S (.v d) = some (d, S) := rfl
@[simp] theorem ev_valR_f : valR S (.f d) = some (d, S) := rfl
@[simp] theorem ev_valR_at : valR S (.at i) = match S[i]? with
    | some (.shr d) => some (d, S)
    | some (.own t d) => some (d, S.set i (.shr d))
    | _ => none := rfl
@[simp] theorem ev_valsR_nil : valsR S [] = some ([], S) := rfl
@[simp] theorem ev_valsR_cons {r : R} {rs : List R} : valsR S (r :: rs) = match valR S r with
    | none => none
    | some (d, S1) => match valsR S1 rs with
      | none => none
      | some (ds, S2) => some (d :: ds, S2) := rfl
@[simp] theorem ev_mutL {h : List D → List D → Option (List D × D)} : mutL i h fl S = match ownL S i with
  | none => .no
  | some _ => (fl S).bind fun rs S1 => match valsR S1 rs with
    | none => .no
    | some (ds, S2) => match ownL S2 i with
      | none => .no
      | some (t, l) => match h l ds with
        | none => .no
        | some (l', d) => .ok (.v d) (S2.set i (.own t (.lst l'))) := rfl
@[simp] theorem ev_ownL : ownL S i = match S[i]? with
  | some (.own t (.lst l)) => some (t, l)
  | _ => none := rfl
@[simp] theorem ev_ownK : ownK S i = match S[i]? with
  | some (.own t (.dct l)) => some (t, l)
  | _ => none := rfl
@[simp] theorem ev_ownC : ownC S i = match S[i]? with
  | some (.own t (.lst l)) => some (t, .lst l)
  | some (.own t (.dct l)) => some (t, .dct l)
  | _ => none := rfl
@[simp] theorem ev_sPut : sPut i fa fb S = (fa S).bind fun rv S1 => match valR S1 rv with
  | none => .no
  | some (d, S2) => match ownC S2 i with
    | none => .no
    | some _ => (fb S2).bind fun rk S3 => match look S3 rk, ownC S3 i with
      | some k, some (t, c) => match putAt c k d with
        | none => .no
        | some c' => .ok .nx (S3.set i (.own t c'))
      | _, _ => .no := rfl
@[simp] theorem ev_sDel : sDel i fa S = match ownK S i with
  | none => .no
  | some _ => (fa S).bind fun rk S1 => match look S1 rk, ownK S1 i with
    | some k, some (t, l) => match keyOf k with
      | none => .no
      | some k => if (valD l k).isSome = true then .ok .nx (S1.set i (.own t (.dct (dropD l k)))) else .no
    | _, _ => .no := rfl
@[simp] theorem ev_sAugN {g : D → D → Option R} : sAugN i fa g S = match S[i]? with
  | some (.shr d0) => (fa S).bind fun re S1 => match look S1 re with
    | none => .no
    | some d1 => match g d0 d1 with
      | some (.v d) => .ok .nx (S1.set i (.shr d))
      | _ => .no
  | _ => .no := by
  unfold sAugN
  rfl
@[simp] theorem ev_sAugS {g : D → D → Option R} : sAugS i fa fb g S = match ownC S i with
  | none => .no
  | some _ => (fa S).bind fun rk S1 => match look S1 rk, ownC S1 i with
    | some k, some (_, c) => match getAt c k with
      | none => .no
      | some d0 => (fb S1).bind fun re S2 => match look S2 re, look S2 rk, ownC S2 i with
        | some d1, some k2, some (t, c2) => match g d0 d1 with
          | some (.v d2) => match putAt c2 k2 d2 with
            | none => .no
            | some c' => .ok .nx (S2.set i (.own t c'))
          | _ => .no
        | _, _, _ => .no
    | _, _ => .no := by
  unfold sAugS
  rfl
@[simp] theorem ev_iSeq : iSeq fa S = (fa S).bind fun ra S1 => match valR S1 ra with
  | none => .no
  | some (d, S2) => match seqOf d with
    | none => .no
    | some l => .ok l S2 := by
  unfold iSeq
  rfl
@[simp] theorem ev_iRng {h : List D → Option (List D)} : iRng h fl S = (fl S).bind fun rs S1 => match lookL S1 rs with
  | none => .no
  | some ds => match h ds with
    | none => .no
    | some l => .ok l S1 := rfl
@[simp] theorem ev_sGet1 : sGet1 fa fb S = (fa S).bind fun ra S1 => match lookD S1 ra with
  | none => .no
  | some _ => (fb S1).bind fun rk S2 => match lookD S2 ra, look S2 rk with
    | some l, some k => match keyOf k with
      | none => .no
      | some k => .ok (.v ((valD l k).getD .non)) S2
    | _, _ => .no := by
  unfold sGet1
  rfl
@[simp] theorem ev_lookD {r : R} : lookD S r = match look S r with
  | some (.dct l) => some l
  | _ => none := rfl
@[simp] theorem ev_callM {md : List Bool} {Fn : List D → FR} : callM md Fn fl S = (fl S).bind fun rs S1 => match argD S1 md rs with
  | none => .no
  | some (ds, io, bo) => if io.Nodup ∧ (∀ i ∈ io, i ∉ bo) then (match Fn ds with
    | .no => .no
    | .ret d fr iod => .ok (if fr then .f d else .v d) (callK S1 io bo (flatR fr d) iod)
    | .ex c w iod => .ex c w (callK S1 io bo false iod)) else .no := rfl
@[simp] theorem ev_argD_nil : argD S [] [] = some ([], [], []) := rfl
@[simp] theorem ev_argD_v {ms : List Bool} {rs : List R} : argD S (false :: ms) (.v d :: rs) = match argD S ms rs with
  | some (ds, io, bo) => some (d :: ds, io, bo)
  | none => none := by
  rw [argD.eq_2]
  simp only [look]
  cases argD S ms rs <;> rfl
@[simp] theorem ev_argD_f {ms : List Bool} {rs : List R} : argD S (false :: ms) (.f d :: rs) = match argD S ms rs with
  | some (ds, io, bo) => some (d :: ds, io, bo)
  | none => none := by
  rw [argD.eq_2]
  simp only [look]
  cases argD S ms rs <;> rfl
@[simp] theorem ev_argD_at {ms : List Bool} {rs : List R} : argD S (false :: ms) (.at i :: rs) = match S[i]? with
  | some (.shr d) => (match argD S ms rs with
    | some (ds, io, bo) => some (d :: ds, io, bo)
    | none => none)
  | some (.own t d) => (match argD S ms rs with
    | some (ds, io, bo) => some (d :: ds, io, i :: bo)
    | none => none)
  | _ => none := by
  rw [argD.eq_2]
  simp only [look, slotD]
  cases h : S[i]? with
  | none => rfl
  | some x => cases x <;> simp only [AV.data] <;> cases argD S ms rs <;> rfl
@[simp] theorem ev_argD_own {ms : List Bool} {rs : List R} : argD S (true :: ms) (.at i :: rs) = match S[i]? with
  | some (.own t d) => (match argD S ms rs with
    | some (ds, io, bo) => some (d :: ds, i :: io, bo)
    | none => none)
  | _ => none := by
  rw [argD.eq_3]
  cases h : S[i]? with
  | none => rfl
  | some x => cases x <;> cases argD S ms rs <;> rfl
end
end L2.Dl
/-! The deck that all laws draw from. -/
namespace L2.Dl
open PySem PySem.Spec PyProof.Rows
@[simp] theorem addD_int (i j : Int) : addD (.int i) (.int j) = some (.v (.int (i + j))) := rfl
@[simp] theorem iaddD_int (i j : Int) : iaddD (.int i) (.int j) = some (.v (.int (i + j))) := rfl
@[simp] theorem subD_int (i j : Int) : subD (.int i) (.int j) = some (.v (.int (i - j))) := rfl
@[simp] theorem ltD_int (i j : Int) : ltD (.int i) (.int j) = some (decide (i < j)) := rfl
@[simp] theorem leD_int (i j : Int) : leD (.int i) (.int j) = some (decide (i ≤ j)) := rfl
@[simp] theorem gtD_int (i j : Int) : gtD (.int i) (.int j) = some (decide (j < i)) := rfl
@[simp] theorem geD_int (i j : Int) : geD (.int i) (.int j) = some (decide (j ≤ i)) := rfl
@[simp] theorem negD_int (i : Int) : negD (.int i) = some (.v (.int (-i))) := rfl
@[simp] theorem gInt_int (i : Int) : gInt [.int i] = some (.v (.int i)) := rfl
@[simp] theorem gInt_bl (b : Bool) : gInt [.bl b] = some (.v (.int (if b then 1 else 0))) := rfl
@[simp] theorem gAbs_int (i : Int) : gAbs [.int i] = some (.v (.int (if i < 0 then -i else i))) := rfl
@[simp] theorem deq_int' (a b : Int) : deq (.int a) (.int b) = some (a == b) := rfl
@[simp] theorem dne_int' (a b : Int) : dne (.int a) (.int b) = some (!(a == b)) := rfl
@[simp] theorem gLen_lst (l : List D) : gLen [.lst l] = some (.v (.int l.length)) := rfl
@[simp] theorem gLen_tup (l : List D) : gLen [.tup l] = some (.v (.int l.length)) := rfl
@[simp] theorem gLen_dct (l : List (Key × D)) : gLen [.dct l] = some (.v (.int l.length)) := rfl
@[simp] theorem gLen_scr (l : List Int) : gLen [.scr l] = some (.v (.int l.length)) := rfl
@[simp] theorem gLst_0 : gLst [] = some (.f (.lst [])) := rfl
@[simp] theorem gLst_1 (a : D) : gLst [a] = some (.f (.lst [a])) := rfl
@[simp] theorem gLst_2 (a b : D) : gLst [a, b] = some (.f (.lst [a, b])) := rfl
@[simp] theorem gLst_3 (a b c : D) : gLst [a, b, c] = some (.f (.lst [a, b, c])) := rfl
@[simp] theorem gTup_1 (a : D) : gTup [a] = some (.v (.tup [a])) := rfl
@[simp] theorem gTup_2 (a b : D) : gTup [a, b] = some (.v (.tup [a, b])) := rfl
@[simp] theorem gTup_3 (a b c : D) : gTup [a, b, c] = some (.v (.tup [a, b, c])) := rfl
@[simp] theorem gTup_4 (a b c d : D) : gTup [a, b, c, d] = some (.v (.tup [a, b, c, d])) := rfl
@[simp] theorem sNewK_eq (S : SS) : sNewK S = .ok (.f (.dct [])) S := rfl
@[simp] theorem gPop_snoc (l : List D) (d : D) : gPop (l ++ [d]) [] = some (l, d) := by simp [gPop]
theorem gApp_lt {l : List D} {d : D} (h : l.length < 1000000) : gApp l [d] = some (l ++ [d], .non) := by simp [gApp, h]
@[simp] theorem gRev_eq (l : List D) : gRev l [] = some (l.reverse, .non) := rfl
@[simp] theorem truth_bl (b : Bool) : (D.bl b).truth = some b := rfl
@[simp] theorem truth_lst (l : List D) : (D.lst l).truth = some (!l.isEmpty) := rfl
@[simp] theorem truth_dct (l : List (Key × D)) : (D.dct l).truth = some (!l.isEmpty) := rfl
@[simp] theorem toB_ltD (i j : Int) : toB ltD (.int i) (.int j) = some (.v (.bl (decide (i < j)))) := rfl
theorem modD_pos {i j : Int} (h : 0 < j) : modD (.int i) (.int j) = some (.v (.int (i % j))) := by simp [modD, intD, h]
/-- a for by a fold -/
theorem forL_fold' {α β : Type} {g : D → SS → Option SS} {body : M Fl} (f : β → D) (st : α → SS) (step : α → β → α) (P : Nat → α → Prop) (N : Nat) : ∀ (xs : List β) (k : Nat) (a : α), k + xs.length ≤ N → P k a →
    (∀ x ∈ xs, ∀ k a, k < N → P k a → ∃ S1, g (f x) (st a) = some S1 ∧ body S1 = .ok .nx (st (step a x)) ∧ P (k + 1) (step a x)) → forL g body (xs.map f) (st a) = .ok .nx (st (xs.foldl step a)) ∧ P (k + xs.length) (xs.foldl step a)
  | [], k, a, _, hp, _ => ⟨rfl, hp⟩
  | x :: xs, k, a, hN, hp, h => by
    have hN' : k + (xs.length + 1) ≤ N := hN
    obtain ⟨S1, e1, e2, hp'⟩ := h x List.mem_cons_self k a (by omega) hp
    obtain ⟨e3, hp2⟩ := forL_fold' f st step P N xs (k + 1) (step a x) (by omega) hp' fun y hy => h y (List.mem_cons_of_mem _ hy)
    refine ⟨?_, by have e : k + (x :: xs).length = k + 1 + xs.length := by simp only [List.length_cons]; omega
                   rw [e]; exact hp2⟩
    simp only [List.map_cons]
    unfold forL
    simp only [e1, e2, Res.bind]
    exact e3
theorem forL_fold {α β : Type} {g : D → SS → Option SS} {body : M Fl} (f : β → D) (st : α → SS) (step : α → β → α) (P : Nat → α → Prop) (xs : List β) (a : α) (h0 : P 0 a)
    (h : ∀ x ∈ xs, ∀ k a, k < xs.length → P k a → ∃ S1, g (f x) (st a) = some S1 ∧ body S1 = .ok .nx (st (step a x)) ∧ P (k + 1) (step a x)) : forL g body (xs.map f) (st a) = .ok .nx (st (xs.foldl step a)) ∧ P xs.length (xs.foldl step a) := by
  have q := forL_fold' f st step P xs.length xs 0 a (by omega) h0 h
  rw [Nat.zero_add] at q
  exact q
theorem rangeD_eq (n : Nat) : rangeD 0 n = (List.range n).map fun k => .int (k : Nat) := by
  unfold rangeD
  apply List.map_congr_left
  intro k _
  simp
theorem fRng1_nat {n : Nat} (h : n ≤ 1000000) : fRng1 [.int (n : Int)] = some ((List.range n).map fun k => .int (k : Nat)) := by
  show (if -1000000 ≤ (n : Int) ∧ (n : Int) ≤ 1000000 then some (rangeD 0 (n : Int).toNat) else none) = _
  rw [if_pos (by omega), Int.toNat_natCast, rangeD_eq]
/-! ### the deck -/
def deckI (ds : List Int) : D := .lst (ds.map .int)
noncomputable abbrev dkA : M Fl := (sSeq (sExpr (mutL 3 gApp (sCons (sOp modD (sCall gInt (sCons (sNm 7) sNil)) (sV (.int 1000003))) sNil)))
    (sAsg 7 (sOp fdivD (sNm 7) (sV (.int 1000003)))))
noncomputable abbrev dkB : M Fl := (sSeq (sAsg 4 (sOp modD (sCall gInt (sCons (sOp addD (sOp addD (sOp mulD (sNm 4) (sV (.int 69621))) (sNm 8)) (sV (.int 1))) sNil)) (sV (.int 2147483629))))
    (sExpr (mutL 3 gApp (sCons (sOp modD (sCall gInt (sCons (sOp fdivD (sNm 4) (sV (.int 5))) sNil)) (sV (.int 1000003))) sNil))))
noncomputable abbrev dkC : M Fl := (sSeq (sAsg 6 (sV (.int 0)))
    (sSeq (sIfS (sCmpT ltD (sNm 5) (sCall gLen (sCons (sNm 0) sNil))) (sAsg 6 (sOp subscD (sNm 0) (sNm 5))) sNext)
    (sSeq (sAsg 7 (sCall gAbs (sCons (sNm 6) sNil)))
    (sIfS (sCmpT geD (sNm 7) (sOp powD (sV (.int 10)) (sV (.int 30)))) (sFor (iRng fRng1 (sCons (sNm 2) sNil)) (tNm 8) dkA) (sSeq (sAsg 4 (sOp modD (sCall gInt (sCons (sOp addD (sOp addD (sOp addD (sOp mulD (sNm 4) (sV (.int 48271))) (sOp mulD (sV (.int 2)) (sNm 7))) (sCall gInt (sCons (sOp (toB ltD) (sNm 6) (sV (.int 0))) sNil))) (sNm 5)) sNil)) (sV (.int 2147483647))))
    (sFor (iRng fRng1 (sCons (sNm 2) sNil)) (tNm 8) dkB))))))
noncomputable abbrev deckSem : M Fl := (sSeq (sAsg 3 (sMake gLst sNil))
    (sSeq (sAsg 4 (sOp addD (sV (.int 7)) (sCall gLen (sCons (sNm 0) sNil))))
    (sSeq (sFor (iRng fRng1 (sCons (sNm 1) sNil)) (tNm 5) dkC)
    (sSeq (sExpr (mutL 3 gRev sNil))
    (sRet (sNm 3))))))
abbrev dkS (ns : List Int) (c e : Nat) (ds : List Int) (seed : Int) (k cell : AV) (rest : Int) (a : AV) : SS :=
  [.shr (.scr ns), .shr (.int c), .shr (.int e), .own none (.lst (ds.map .int)), .shr (.int seed), k, cell, .shr (.int rest), a]
variable {ns ds : List Int} {c e : Nat} {seed rest : Int} {k cell a : AV}
theorem map_snoc (ds : List Int) (x : Int) : ds.map D.int ++ [.int x] = (ds ++ [x]).map .int := by simp
theorem dkA_eq (h : ds.length < 1000000) : dkA (dkS ns c e ds seed k cell rest a) = .ok .nx (dkS ns c e (ds ++ [rest % 1000003]) seed k cell (rest / 1000003) a) := by
  simp [dkA, dkS, modD, fdivD, intD, gApp, h]
theorem dkB_eq (h : ds.length < 1000000) (x : Int) : dkB (dkS ns c e ds seed k cell rest (.shr (.int x))) = .ok .nx (dkS ns c e (ds ++ [(seed * 69621 + x + 1) % 2147483629 / 5 % 1000003]) ((seed * 69621 + x + 1) % 2147483629) k cell rest (.shr (.int x))) := by
  simp [dkB, dkS, modD, fdivD, mulD, intD, gApp, h]
theorem dkA_loop (h : ds.length + e < 1000000) : ∃ ds' rest' a', forL (tNm 8) dkA ((List.range e).map fun k => .int (k : Nat)) (dkS ns c e ds seed k cell rest a) = .ok .nx (dkS ns c e ds' seed k cell rest' a') ∧ ds'.length = ds.length + e := by
  obtain ⟨e1, e2⟩ := forL_fold (g := tNm 8) (body := dkA) (fun k : Nat => D.int (k : Nat)) (fun q : List Int × Int × AV => dkS ns c e q.1 seed k cell q.2.1 q.2.2) (fun q i => (q.1 ++ [q.2.1 % 1000003], q.2.1 / 1000003, .shr (.int (i : Nat)))) (fun i q => q.1.length = ds.length + i)
    (List.range e) (ds, rest, a) rfl fun x hx i q hi hq => by
      rw [List.length_range] at hi
      exact ⟨_, rfl, dkA_eq (by omega), by simp [hq]; omega⟩
  exact ⟨_, _, _, e1, by simpa using e2⟩
theorem dkB_loop (h : ds.length + e < 1000000) : ∃ ds' seed' a', forL (tNm 8) dkB ((List.range e).map fun k => .int (k : Nat)) (dkS ns c e ds seed k cell rest a) = .ok .nx (dkS ns c e ds' seed' k cell rest a') ∧ ds'.length = ds.length + e := by
  obtain ⟨e1, e2⟩ := forL_fold (g := tNm 8) (body := dkB) (fun k : Nat => D.int (k : Nat)) (fun q : List Int × Int × AV => dkS ns c e q.1 q.2.1 k cell rest q.2.2) (fun q i => (q.1 ++ [(q.2.1 * 69621 + (i : Nat) + 1) % 2147483629 / 5 % 1000003], (q.2.1 * 69621 + (i : Nat) + 1) % 2147483629, .shr (.int (i : Nat)))) (fun i q => q.1.length = ds.length + i)
    (List.range e) (ds, seed, a) rfl fun x hx i q hi hq => by
      rw [List.length_range] at hi
      exact ⟨_, rfl, dkB_eq (by omega) _, by simp [hq]; omega⟩
  exact ⟨_, _, _, e1, by simpa using e2⟩
theorem subscD_scr {x : Nat} (h : x < ns.length) : subscD (.scr ns) (.int (x : Int)) = some (.v (.int ns[x])) := by
  show (atI ns (x : Int)).map (fun n => R.v (.int n)) = _
  unfold atI ixN
  rw [if_pos (by omega), if_pos (by omega)]
  simp [h]
theorem dkC_eq {x : Nat} {rest0 : AV} (h : ds.length + e < 1000000) (he : e ≤ 1000) : ∃ ds' seed' cell' rest' a', dkC [.shr (.scr ns), .shr (.int c), .shr (.int e), .own none (.lst (ds.map .int)), .shr (.int seed), .shr (.int x), cell, rest0, a] = .ok .nx (dkS ns c e ds' seed' (.shr (.int x)) cell' rest' a') ∧ ds'.length = ds.length + e := by
  have key : ∀ (v : Int), ∃ ds' seed' cell' rest' a', (sSeq (sAsg 7 (sCall gAbs (sCons (sNm 6) sNil)))
    (sIfS (sCmpT geD (sNm 7) (sOp powD (sV (.int 10)) (sV (.int 30)))) (sFor (iRng fRng1 (sCons (sNm 2) sNil)) (tNm 8) dkA) (sSeq (sAsg 4 (sOp modD (sCall gInt (sCons (sOp addD (sOp addD (sOp addD (sOp mulD (sNm 4) (sV (.int 48271))) (sOp mulD (sV (.int 2)) (sNm 7))) (sCall gInt (sCons (sOp (toB ltD) (sNm 6) (sV (.int 0))) sNil))) (sNm 5)) sNil)) (sV (.int 2147483647))))
    (sFor (iRng fRng1 (sCons (sNm 2) sNil)) (tNm 8) dkB)))) [.shr (.scr ns), .shr (.int c), .shr (.int e), .own none (.lst (ds.map .int)), .shr (.int seed), .shr (.int x), .shr (.int v), rest0, a] = .ok .nx (dkS ns c e ds' seed' (.shr (.int x)) cell' rest' a') ∧ ds'.length = ds.length + e := by
    intro v
    have hr := fRng1_nat (n := e) (by omega)
    have e30 : powD (.int 10) (.int 30) = some (.v (.int (10 ^ 30))) := by
      show (if decide ((0 : Int) ≤ 30 ∧ (30 : Int) ≤ 1000000 ∧ (10 : Int).natAbs < 2 ^ 64) = true then some (R.v (.int ((10 : Int) ^ (30 : Int).toNat))) else none) = _
      rw [if_pos (by decide)]
      rfl
    by_cases hb : (10 : Int) ^ 30 ≤ (if v < 0 then -v else v)
    · obtain ⟨ds', rest', a', h1, h2⟩ := dkA_loop (ns := ns) (c := c) (seed := seed) (k := .shr (.int x)) (cell := .shr (.int v)) (rest := if v < 0 then -v else v) (a := a) h
      refine ⟨ds', seed, .shr (.int v), rest', a', ?_, h2⟩
      rw [← h1]
      simp only [ev_sSeq, ev_sAsg, ev_sCall, ev_sCons, ev_sNm, ev_sNil, ev_bind_ok, ev_sIfS, ev_sCmpT, ev_sOp, ev_sV, ev_look_v, ev_look_at, ev_slotD, ev_lookL_cons, ev_lookL_nil, ev_data_shr, ev_lift_some, ev_setR_v, ev_nxt, gAbs_int, geD_int, ev_liftT_some, List.getElem?_cons_succ, List.getElem?_cons_zero, List.set_cons_succ, List.set_cons_zero, Option.bind_eq_bind, Option.bind_some, e30, decide_eq_true hb, if_true, ev_sFor, ev_iRng, hr]
    · obtain ⟨ds', seed', a', h1, h2⟩ := dkB_loop (ns := ns) (c := c) (seed := (seed * 48271 + 2 * (if v < 0 then -v else v) + (if decide (v < 0) then 1 else 0) + (x : Int)) % 2147483647) (k := .shr (.int x)) (cell := .shr (.int v)) (rest := if v < 0 then -v else v) (a := a) h
      refine ⟨ds', seed', .shr (.int v), (if v < 0 then -v else v), a', ?_, h2⟩
      rw [← h1]
      have m1 : ∀ i : Int, mulD (.int i) (.int 48271) = some (.v (.int (i * 48271))) := fun i => by simp [mulD, intD]
      have m2 : ∀ i : Int, mulD (.int 2) (.int i) = some (.v (.int (2 * i))) := fun i => by simp [mulD, intD]
      have m3 : ∀ i : Int, modD (.int i) (.int 2147483647) = some (.v (.int (i % 2147483647))) := fun i => by simp [modD, intD]
      simp only [ev_sSeq, ev_sAsg, ev_sCall, ev_sCons, ev_sNm, ev_sNil, ev_bind_ok, ev_sIfS, ev_sCmpT, ev_sOp, ev_sV, ev_look_v, ev_look_at, ev_slotD, ev_lookL_cons, ev_lookL_nil, ev_data_shr, ev_lift_some, ev_setR_v, ev_nxt, gAbs_int, geD_int, ev_liftT_some, List.getElem?_cons_succ, List.getElem?_cons_zero, List.set_cons_succ, List.set_cons_zero, Option.bind_eq_bind, Option.bind_some, e30, decide_eq_false hb, Bool.false_eq_true, if_false, ev_sFor, ev_iRng, hr, m1, m2, m3, addD_int, toB_ltD, gInt_bl, gInt_int]
  by_cases hx : x < ns.length
  · obtain ⟨ds', seed', cell', rest', a', h1, h2⟩ := key ns[x]
    refine ⟨ds', seed', cell', rest', a', ?_, h2⟩
    rw [← h1]
    have hx' : decide ((x : Int) < (ns.length : Int)) = true := decide_eq_true (by omega)
    unfold dkC
    rw [ev_sSeq]
    simp only [ev_sSeq, ev_sAsg, ev_sCall, ev_sCons, ev_sNm, ev_sNil, ev_bind_ok, ev_sIfS, ev_sCmpT, ev_sOp, ev_sV, ev_look_v, ev_look_at, ev_slotD, ev_lookL_cons, ev_lookL_nil, ev_data_shr, ev_lift_some, ev_setR_v, ev_nxt, gLen_scr, ltD_int, ev_liftT_some, List.getElem?_cons_succ, List.getElem?_cons_zero, List.set_cons_succ, List.set_cons_zero, Option.bind_eq_bind, Option.bind_some, hx', if_true, subscD_scr hx]
  · obtain ⟨ds', seed', cell', rest', a', h1, h2⟩ := key 0
    refine ⟨ds', seed', cell', rest', a', ?_, h2⟩
    rw [← h1]
    have hx' : decide ((x : Int) < (ns.length : Int)) = false := decide_eq_false (by omega)
    unfold dkC
    rw [ev_sSeq]
    simp only [ev_sSeq, ev_sAsg, ev_sCall, ev_sCons, ev_sNm, ev_sNil, ev_bind_ok, ev_sIfS, ev_sCmpT, ev_sOp, ev_sV, ev_look_v, ev_look_at, ev_slotD, ev_lookL_cons, ev_lookL_nil, ev_data_shr, ev_lift_some, ev_setR_v, ev_nxt, gLen_scr, ltD_int, ev_liftT_some, List.getElem?_cons_succ, List.getElem?_cons_zero, List.set_cons_succ, List.set_cons_zero, Option.bind_eq_bind, Option.bind_some, hx', Bool.false_eq_true, if_false, ev_sNext]
theorem deck_run (hc : c ≤ 500) (he : e ≤ 500) : ∃ ds, runF 9 [false, false, false] deckSem [.scr ns, .int c, .int e] = .ret (deckI ds) true [] := by
  have loop : ∃ S', forL (tNm 5) dkC ((List.range c).map fun k => .int (k : Nat)) [.shr (.scr ns), .shr (.int c), .shr (.int e), .own none (.lst []), .shr (.int (7 + (ns.length : Int))), .un, .un, .un, .un] = .ok .nx S' ∧
      ∃ (ds : List Int) (seed : Int) (k cell rest a : AV), S' = [.shr (.scr ns), .shr (.int c), .shr (.int e), .own none (.lst (ds.map .int)), .shr (.int seed), k, cell, rest, a] ∧ ds.length = e * (List.range c).length := by
    refine forL_list (fun k : Nat => D.int (k : Nat)) (xs := List.range c) (I := fun (pre : List Nat) S => ∃ (ds : List Int) (seed : Int) (k cell rest a : AV), S = [.shr (.scr ns), .shr (.int c), .shr (.int e), .own none (.lst (ds.map .int)), .shr (.int seed), k, cell, rest, a] ∧ ds.length = e * pre.length) (pre := []) (fun pre x S he' hI => ?_) ⟨[], _, _, _, _, _, rfl, rfl⟩
    obtain ⟨post, ep⟩ := he'
    obtain ⟨ds, seed, k, cell, rest, a, rfl, hl⟩ := hI
    have lp := congrArg List.length ep
    rw [List.length_range, List.length_append, List.length_cons] at lp
    have hb : e * pre.length ≤ 500 * 500 := Nat.mul_le_mul he (by omega)
    obtain ⟨ds', seed', cell', rest', a', h1, h2⟩ := dkC_eq (ns := ns) (c := c) (e := e) (ds := ds) (seed := seed) (x := x) (cell := cell) (rest0 := rest) (a := a) (by omega) (by omega)
    refine ⟨_, _, rfl, h1, ds', seed', _, cell', _, a', rfl, ?_⟩
    rw [h2, hl, List.length_append, List.length_singleton, Nat.mul_add, Nat.mul_one]
  obtain ⟨S', e1, ds, seed, k, cell, rest, a, rfl, _⟩ := loop
  refine ⟨ds.reverse, ?_⟩
  have hr := fRng1_nat (n := c) (by omega)
  refine ok_runF (S := [.shr (.scr ns), .shr (.int c), .shr (.int e), .un, .shr (.int seed), k, cell, rest, a]) ?_ rfl
  show deckSem [.shr (.scr ns), .shr (.int c), .shr (.int e), .un, .un, .un, .un, .un, .un] = _
  simp only [deckSem, ev_sSeq, ev_sAsg, ev_sMake, ev_sNil, ev_bind_ok, ev_valsR_nil, gLst_0, ev_lift_some, ev_setR_f, ev_nxt, List.set_cons_succ, List.set_cons_zero, ev_sOp, ev_sV, ev_sCall, ev_sCons, ev_sNm, List.getElem?_cons_succ, List.getElem?_cons_zero, ev_lookL_cons, ev_lookL_nil, ev_look_at, ev_slotD, ev_data_shr, gLen_scr, Option.bind_eq_bind, Option.bind_some, ev_look_v, addD_int, ev_setR_v, ev_sFor, ev_iRng, hr, e1, ev_sExpr, ev_mutL, ev_ownL, gRev_eq, ev_sRet, ev_retR_at, deckI, List.map_reverse]
/-! ### drawing -/
noncomputable abbrev takeSem : M Fl := (sSeq (sIfS (sCmpT deq (sCall gLen (sCons (sNm 0) sNil)) (sV (.int 0))) (sRet (sV (.int 0))) sNext)
    (sRet (sOp modD (sCall gInt (sCons (mutL 0 gPop sNil) sNil)) (sNm 1))))
def takeI (ds : List Int) (many : Int) : Int := match ds.getLast? with
  | none => 0
  | some x => x % many
theorem takeI_nonneg {many : Int} (h : 0 < many) : 0 ≤ takeI ds many := by
  unfold takeI
  split
  · omega
  · exact Int.emod_nonneg _ (by omega)
theorem takeI_lt {many : Int} (h : 0 < many) : takeI ds many < many := by
  unfold takeI
  split
  · omega
  · exact Int.emod_lt_of_pos _ h
theorem take_run {many : Int} (h : 0 < many) : runF 2 [true, false] takeSem [deckI ds, .int many] = .ret (.int (takeI ds many)) false [deckI ds.dropLast] := by
  rcases List.eq_nil_or_concat ds with rfl | ⟨init, x, he⟩
  · refine ok_runF (S := [.own (some 0) (deckI []), .shr (.int many)]) ?_ rfl
    show takeSem [.own (some 0) (.lst []), .shr (.int many)] = _
    simp [takeSem, takeI, deckI]
  · rw [List.concat_eq_append] at he
    subst he
    refine ok_runF (S := [.own (some 0) (deckI init), .shr (.int many)]) ?_ (by simp; rfl)
    show takeSem [.own (some 0) (.lst ((init ++ [x]).map .int)), .shr (.int many)] = _
    have : ¬ ((init.length : Int) + 1 = 0) := by omega
    simp [takeSem, takeI, deckI, modD_pos h, this]
end L2.Dl
/-! Names made of a letter and a number; places and wishes drawn. -/
namespace L2.Dl
open PySem PySem.Spec PyProof.Rows
@[simp] theorem ev_setIO_nil (S : SS) (io : List Nat) : setIO S io [] = S := by cases io <;> rfl
@[simp] theorem ev_setIO_nil' (S : SS) (ds : List D) : setIO S [] ds = S := by cases ds <;> rfl
@[simp] theorem ev_setIO_cons (S : SS) (i : Nat) (io : List Nat) (d : D) (ds : List D) : setIO S (i :: io) (d :: ds) = setIO (match S[i]? with
    | some (.own t _) => S.set i (.own t d)
    | _ => S) io ds := rfl
@[simp] theorem ev_callK_nil (S : SS) (io : List Nat) (b : Bool) (ds : List D) : callK S io [] b ds = setIO S io ds := by simp [callK]
/-- a number's text -/
def numS (k : Nat) : Str := ((toString (k : Int) : String) : Str)
def nmS (p : Str) (k : Nat) : Str := p ++ numS k
def namesS (p : Str) (n : Nat) : List Str := (List.range n).map (nmS p)
theorem namesS_succ (p : Str) (n : Nat) : namesS p (n + 1) = namesS p n ++ [nmS p n] := by simp [namesS, List.range_succ]
@[simp] theorem namesS_length (p : Str) (n : Nat) : (namesS p n).length = n := by simp [namesS]
@[simp] theorem namesS_0 (p : Str) : namesS p 0 = [] := rfl
/-- a letter that makes names apart -/
structure Pfx (p : Str) : Prop where
  inj : ∀ j : Nat, j < 16 → ∀ k : Nat, k < 16 → nmS p j = nmS p k → j = k
  lay : ∀ k : Nat, k < 16 → Lay (nmS p k)
  add : ∀ k : Nat, k < 16 → addD (.str p) (.str (numS k)) = some (.v (.str (nmS p k)))
theorem pfx_s : Pfx "s" := ⟨by decide +kernel, fun k hk => by unfold Lay; revert k; decide +kernel, fun k hk => by
  show (if _ then _ else _) = _
  have : ∀ k : Nat, k < 16 → (Str.ofString "s").length + (numS k).length ≤ 1000000 := by decide +kernel
  rw [if_pos (this k hk)]; rfl⟩
theorem pfx_o : Pfx "o" := ⟨by decide +kernel, fun k hk => by unfold Lay; revert k; decide +kernel, fun k hk => by
  show (if _ then _ else _) = _
  have : ∀ k : Nat, k < 16 → (Str.ofString "o").length + (numS k).length ≤ 1000000 := by decide +kernel
  rw [if_pos (this k hk)]; rfl⟩
theorem Pfx.nin {p : Str} (h : Pfx p) {n : Nat} (hn : n < 16) : nmS p n ∉ namesS p n := by
  intro q
  obtain ⟨k, hk, e⟩ := List.mem_map.mp q
  have hk := List.mem_range.mp hk
  have := h.inj k (by omega) n hn e
  omega
theorem Pfx.nodup {p : Str} (h : Pfx p) : ∀ {n : Nat}, n ≤ 16 → (namesS p n).Nodup
  | 0, _ => List.nodup_nil
  | n + 1, hn => by
    rw [namesS_succ]
    exact List.nodup_append.mpr ⟨h.nodup (by omega), by simp, fun a ha b hb e => by
      rw [List.mem_singleton.mp hb] at e
      exact h.nin (by omega) (e ▸ ha)⟩
theorem Pfx.layAll {p : Str} (h : Pfx p) {n : Nat} (hn : n ≤ 16) : ∀ s ∈ namesS p n, Lay s := fun s hs => by
  obtain ⟨k, hk, rfl⟩ := List.mem_map.mp hs
  exact h.lay k (by have := List.mem_range.mp hk; omega)
theorem gStr_nat {k : Nat} (h : k < 1000000) : gStr [.int (k : Int)] = some (.v (.str (numS k))) := by
  show (if ((k : Int)).natAbs < 2 ^ 64 then _ else _) = _
  rw [if_pos (by omega)]; rfl
noncomputable abbrev takeF : List D → FR := runF 2 [true, false] takeSem
theorem take_F {ds : List Int} {many : Int} (h : 0 < many) : takeF [deckI ds, .int many] = .ret (.int (takeI ds many)) false [deckI ds.dropLast] := take_run h
/-! ### places -/
noncomputable abbrev plB : M Fl := (sPut 2 (callM [true, false] takeF (sCons (sNm 0) (sCons (sV (.int 4)) sNil))) (sOp addD (sV (.str "s")) (sCall gStr (sCons (sNm 3) sNil))))
noncomputable abbrev placesSem : M Fl := (sSeq (sAsg 2 sNewK)
    (sSeq (sFor (iRng fRng1 (sCons (sOp addD (sV (.int 1)) (callM [true, false] takeF (sCons (sNm 0) (sCons (sNm 1) sNil)))) sNil)) (tNm 3) plB)
    (sRet (sNm 2))))
def plD (cap : Str → Nat) (Sl : List Str) : D := .dct (nd (fun s => .int (cap s)) Sl)
variable {ds : List Int}
theorem plB_eq {cap : Str → Nat} {most : D} {k : Nat} (hk : k < 16) : plB [.own (some 0) (deckI ds), .shr most, .own none (plD cap (namesS "s" k)), .shr (.int (k : Int))] =
    .ok .nx [.own (some 0) (deckI ds.dropLast), .shr most, .own none (plD (fun x => if x = nmS "s" k then (takeI ds 4).toNat else cap x) (namesS "s" (k + 1))), .shr (.int (k : Int))] := by
  have t0 := takeI_nonneg (ds := ds) (many := 4) (by decide)
  have e : nd (fun x => D.int (cap x : Nat)) (namesS "s" k) = nd (fun x => D.int ((if x = nmS "s" k then (takeI ds 4).toNat else cap x : Nat) : Int)) (namesS "s" k) := nd_congr fun x hx => by
    have : x ≠ nmS "s" k := fun z => pfx_s.nin hk (z ▸ hx)
    simp [this]
  have hp : putAt (plD cap (namesS "s" k)) (.str (nmS "s" k)) (.int (takeI ds 4)) = some (plD (fun x => if x = nmS "s" k then (takeI ds 4).toNat else cap x) (namesS "s" (k + 1))) := by
    show (if (nd (fun x => D.int (cap x : Nat)) (namesS "s" k)).length < 1000000 then some (D.dct (putD (nd (fun x => D.int (cap x : Nat)) (namesS "s" k)) (.inr (nmS "s" k)) (.int (takeI ds 4)))) else none) = _
    rw [if_pos (by simp [nd]; omega), e, putD_nd_new (pfx_s.nin hk), namesS_succ]
    · rfl
    · rw [if_pos rfl, Int.toNat_of_nonneg t0]
  have hg := gStr_nat (k := k) (by omega)
  have hd : ∀ l, D.dct l = D.dct l := fun _ => rfl
  simp [plB, take_F, hg, pfx_s.add k hk, plD] at hp ⊢
  rw [hp]
theorem places_run {most : Int} (h0 : 0 < most) (h1 : most ≤ 12) : ∃ cap ds' n, runF 4 [true, false] placesSem [deckI ds, .int most] = .ret (plD cap (namesS "s" n)) true [deckI ds'] ∧ 0 < n ∧ (n : Int) ≤ most ∧ ∀ s, cap s < 4 := by
  have t0 := takeI_nonneg (ds := ds) h0
  have t1 := takeI_lt (ds := ds) h0
  have loop : ∃ S', forL (tNm 3) plB ((List.range (1 + takeI ds most).toNat).map fun k => .int (k : Nat)) [.own (some 0) (deckI ds.dropLast), .shr (.int most), .own none (plD (fun _ => 0) (namesS "s" 0)), .un] = .ok .nx S' ∧
      ∃ ds' cap a, S' = [.own (some 0) (deckI ds'), .shr (.int most), .own none (plD cap (namesS "s" (List.range (1 + takeI ds most).toNat).length)), a] ∧ ∀ s, cap s < 4 := by
    refine forL_list (fun k : Nat => D.int (k : Nat)) (xs := List.range (1 + takeI ds most).toNat) (I := fun (pre : List Nat) S => ∃ ds' cap a, S = [.own (some 0) (deckI ds'), .shr (.int most), .own none (plD cap (namesS "s" pre.length)), a] ∧ ∀ s, cap s < 4) (pre := []) (fun pre x S he hI => ?_) ⟨_, _, _, rfl, by simp⟩
    obtain ⟨post, ep⟩ := he
    obtain ⟨ds', cap, a, rfl, hc⟩ := hI
    have hx : x = pre.length ∧ x < 16 := by
      have q : (List.range (1 + takeI ds most).toNat)[pre.length]? = some x := by rw [ep]; simp
      have l1 := congrArg List.length ep
      rw [List.length_range, List.length_append, List.length_cons] at l1
      rw [List.getElem?_range (by omega)] at q
      cases q
      exact ⟨rfl, by omega⟩
    obtain ⟨hx, hx2⟩ := hx
    subst hx
    refine ⟨_, _, rfl, plB_eq hx2, _, _, _, by rw [List.length_append]; rfl, fun s => ?_⟩
    have := takeI_lt (ds := ds') (many := 4) (by decide)
    show (if s = _ then _ else _) < 4
    split
    · omega
    · exact hc s
  obtain ⟨S', e, ds', cap, a, rfl, hc⟩ := loop
  rw [List.length_range] at e
  refine ⟨cap, ds', (1 + takeI ds most).toNat, ?_, by omega, by omega, hc⟩
  have hr : fRng1 [.int (1 + takeI ds most)] = some ((List.range (1 + takeI ds most).toNat).map fun k => .int (k : Nat)) := by
    have := fRng1_nat (n := (1 + takeI ds most).toNat) (by omega)
    rw [Int.toNat_of_nonneg (by omega)] at this
    exact this
  refine ok_runF (S := [.own (some 0) (deckI ds'), .shr (.int most), .un, a]) ?_ rfl
  show placesSem [.own (some 0) (deckI ds), .shr (.int most), .un, .un] = _
  have e' : forL (tNm 3) plB ((List.range (1 + takeI ds most).toNat).map fun k => .int (k : Nat)) [.own (some 0) (deckI ds.dropLast), .shr (.int most), .own none (.dct []), .un] = .ok .nx _ := e
  simp [-ev_sPut, placesSem, take_F, h0, hr, e']
end L2.Dl
namespace L2.Dl
open PySem PySem.Spec PyProof.Rows
/-! ### wishes -/
theorem subscD_strs {l : List Str} {i : Int} (h0 : 0 ≤ i) (h1 : i < l.length) : ∃ x ∈ l, subscD (.lst (l.map .str)) (.int i) = some (.v (.str x)) := by
  have hi : i.toNat < l.length := by omega
  refine ⟨l[i.toNat], List.getElem_mem hi, ?_⟩
  show (atI (l.map D.str) i).map R.v = _
  unfold atI ixN
  rw [if_pos h0, if_pos (by simpa using h1)]
  simp [hi]
theorem forL_range {g : D → SS → Option SS} {body : M Fl} {n : Nat} {S : SS} (I : Nat → SS → Prop) (step : ∀ k S, k < n → I k S → ∃ S1 S2, g (.int (k : Nat)) S = some S1 ∧ body S1 = .ok .nx S2 ∧ I (k + 1) S2) (h : I 0 S) :
    ∃ S', forL g body ((List.range n).map fun k => .int (k : Nat)) S = .ok .nx S' ∧ I n S' := by
  have := forL_inv (g := g) (body := body) (ds := (List.range n).map fun k => D.int (k : Nat)) (I := I) (S := S) (fun i d S hd hI => by
    rw [List.getElem?_map] at hd
    by_cases hi : i < n
    · rw [List.getElem?_range hi] at hd
      cases hd
      exact step i S hi hI
    · rw [List.getElem?_eq_none (by simpa using hi)] at hd
      cases hd) h
  simpa using this
def rwD (W : Str → List Str) (O : List Str) : D := .dct (nd (fun o => .lst ((W o).map .str)) O)
noncomputable abbrev wiB : M Fl := (sSeq (sAsg 8 (sOp subscD (sNm 3) (callM [true, false] takeF (sCons (sNm 0) (sCons (sCall gLen (sCons (sNm 3) sNil)) sNil)))))
    (sIfS (sCmpT nmemD (sNm 8) (sNm 6)) (sExpr (mutL 6 gApp (sCons (sNm 8) sNil))) sNext))
noncomputable abbrev wiC : M Fl := (sSeq (sAsg 6 (sMake gLst sNil))
    (sSeq (sFor (iRng fRng1 (sCons (callM [true, false] takeF (sCons (sNm 0) (sCons (sV (.int 4)) sNil))) sNil)) (tNm 7) wiB)
    (sPut 4 (sNm 6) (sOp addD (sV (.str "o")) (sCall gStr (sCons (sNm 5) sNil))))))
noncomputable abbrev wishesSem : M Fl := (sSeq (sAsg 3 (sCall gSorted (sCons (sNm 2) sNil)))
    (sSeq (sAsg 4 sNewK)
    (sSeq (sFor (iRng fRng1 (sCons (callM [true, false] takeF (sCons (sNm 0) (sCons (sOp addD (sNm 1) (sV (.int 1))) sNil))) sNil)) (tNm 5) wiC)
    (sRet (sNm 4)))))
variable {ds : List Int} {Sl r : List Str} {W : Str → List Str}
abbrev wiS (ds : List Int) (most pd : D) (Sl : List Str) (w : D) (a : AV) (r : List Str) (b c : AV) : SS :=
  [.own (some 0) (deckI ds), .shr most, .shr pd, .own none (.lst (Sl.map .str)), .own none w, a, .own none (.lst (r.map .str)), b, c]
theorem wiB_eq {most pd w : D} (a b c : AV) (hS : 0 < Sl.length) (hr : r.length < 100) : ∃ x r', wiB (wiS ds most pd Sl w a r b c) = .ok .nx (wiS ds.dropLast most pd Sl w a r' b (.shr (.str x))) ∧ x ∈ Sl ∧ (r' = r ∨ (r' = r ++ [x] ∧ x ∉ r)) := by
  have p : (0 : Int) < Sl.length := by omega
  obtain ⟨x, hx, e⟩ := subscD_strs (l := Sl) (takeI_nonneg (ds := ds) p) (takeI_lt (ds := ds) p)
  have tk := take_F (ds := ds) p
  by_cases hm : x ∈ r
  · refine ⟨x, r, ?_, hx, .inl rfl⟩
    simp [wiB, wiS, tk, e, nmemD_strs, hm]
  · refine ⟨x, r ++ [x], ?_, hx, .inr ⟨rfl, hm⟩⟩
    simp [wiB, wiS, tk, e, nmemD_strs, hm, gApp_lt (l := r.map D.str) (d := .str x) (by simp; omega)]
theorem wiB_loop {most pd w : D} {n : Nat} (a b c : AV) (hS : 0 < Sl.length) (hn : n < 50) : ∃ S', forL (tNm 7) wiB ((List.range n).map fun k => .int (k : Nat)) (wiS ds most pd Sl w a [] b c) = .ok .nx S' ∧
    ∃ ds' r b c, S' = wiS ds' most pd Sl w a r b c ∧ r.length ≤ n ∧ r.Nodup ∧ ∀ x ∈ r, x ∈ Sl := by
  refine forL_range (fun k S => ∃ ds' r b c, S = wiS ds' most pd Sl w a r b c ∧ r.length ≤ k ∧ r.Nodup ∧ ∀ x ∈ r, x ∈ Sl) (fun k S hk hI => ?_) ⟨ds, [], b, c, rfl, by simp, List.nodup_nil, by simp⟩
  obtain ⟨ds', r, b, c, rfl, h1, h2, h3⟩ := hI
  obtain ⟨x, r', e, hx, hr⟩ := wiB_eq (ds := ds') (most := most) (pd := pd) (w := w) a (.shr (.int (k : Nat))) c hS (r := r) (by omega)
  refine ⟨_, _, rfl, e, _, _, _, _, rfl, ?_⟩
  rcases hr with rfl | ⟨rfl, hm⟩
  · exact ⟨by omega, h2, h3⟩
  · refine ⟨by simp; omega, List.nodup_append.mpr ⟨h2, by simp, fun y hy z hz => ?_⟩, fun y hy => ?_⟩
    · rw [List.mem_singleton.mp hz]; exact fun q => hm (q ▸ hy)
    · rcases List.mem_append.mp hy with q | q
      · exact h3 y q
      · rw [List.mem_singleton.mp q]; exact hx
theorem fRng1_int {i : Int} (h0 : 0 ≤ i) (h1 : i ≤ 1000000) : fRng1 [.int i] = some ((List.range i.toNat).map fun k => .int (k : Nat)) := by
  have := fRng1_nat (n := i.toNat) (by omega)
  rw [Int.toNat_of_nonneg h0] at this
  exact this
abbrev wjS (ds : List Int) (most pd : D) (Sl : List Str) (w : D) (a r b c : AV) : SS :=
  [.own (some 0) (deckI ds), .shr most, .shr pd, .own none (.lst (Sl.map .str)), .own none w, a, r, b, c]
theorem wiC_eq {most pd : D} {k : Nat} (q b c : AV) (hS : 0 < Sl.length) (hk : k < 16) : ∃ ds' r q' b' c', wiC (wjS ds most pd Sl (rwD W (namesS "o" k)) (.shr (.int (k : Nat))) q b c) = .ok .nx (wjS ds' most pd Sl (rwD (fun o => if o = nmS "o" k then r else W o) (namesS "o" (k + 1))) (.shr (.int (k : Nat))) q' b' c') ∧
    r.length ≤ 3 ∧ r.Nodup ∧ ∀ x ∈ r, x ∈ Sl := by
  have t0 := takeI_nonneg (ds := ds) (many := 4) (by decide)
  have t1 := takeI_lt (ds := ds) (many := 4) (by decide)
  obtain ⟨S', e, ds', r, b', c', rfl, h1, h2, h3⟩ := wiB_loop (ds := ds.dropLast) (most := most) (pd := pd) (w := rwD W (namesS "o" k)) (n := (takeI ds 4).toNat) (.shr (.int (k : Nat))) b c hS (by omega)
  refine ⟨ds', r, .shr (.lst (r.map .str)), b', c', ?_, by omega, h2, h3⟩
  have e1 : nd (fun o => D.lst ((W o).map .str)) (namesS "o" k) = nd (fun o => .lst ((if o = nmS "o" k then r else W o).map .str)) (namesS "o" k) := nd_congr fun x hx => by
    have : x ≠ nmS "o" k := fun z => pfx_o.nin hk (z ▸ hx)
    simp [this]
  have hp : putAt (rwD W (namesS "o" k)) (.str (nmS "o" k)) (.lst (r.map .str)) = some (rwD (fun o => if o = nmS "o" k then r else W o) (namesS "o" (k + 1))) := by
    show (if (nd (fun o => D.lst ((W o).map .str)) (namesS "o" k)).length < 1000000 then some (D.dct (putD (nd (fun o => D.lst ((W o).map .str)) (namesS "o" k)) (.inr (nmS "o" k)) (.lst (r.map .str)))) else none) = _
    rw [if_pos (by simp [nd]; omega), e1, putD_nd_new (pfx_o.nin hk), namesS_succ]
    · rfl
    · rw [if_pos rfl]
  have hg := gStr_nat (k := k) (by omega)
  have hr := fRng1_int t0 (by omega)
  simp only [rwD, wiS, List.map_nil] at e hp
  simp [wiC, wjS, rwD, take_F, hr, e, hg, pfx_o.add k hk, hp]
theorem wishes_run {most : Int} {cap : Str → Nat} (h0 : 0 ≤ most) (h1 : most ≤ 12) (hS : 0 < Sl.length) : ∃ W ds' n, runF 9 [true, false, false] wishesSem [deckI ds, .int most, plD cap Sl] = .ret (rwD W (namesS "o" n)) true [deckI ds'] ∧ (n : Int) ≤ most ∧
    ∀ o, (W o).length ≤ 3 ∧ (W o).Nodup ∧ ∀ x ∈ W o, x ∈ Sl := by
  have hm : (0 : Int) < most + 1 := by omega
  have t0 := takeI_nonneg (ds := ds) hm
  have t1 := takeI_lt (ds := ds) hm
  have hS' : 0 < (sortS Sl).length := by rw [length_sortS]; exact hS
  have loop : ∃ S', forL (tNm 5) wiC ((List.range (takeI ds (most + 1)).toNat).map fun k => .int (k : Nat)) (wjS ds.dropLast (.int most) (plD cap Sl) (sortS Sl) (rwD (fun _ => []) (namesS "o" 0)) .un .un .un .un) = .ok .nx S' ∧
      ∃ ds' W a r b c, S' = wjS ds' (.int most) (plD cap Sl) (sortS Sl) (rwD W (namesS "o" (takeI ds (most + 1)).toNat)) a r b c ∧ ∀ o, (W o).length ≤ 3 ∧ (W o).Nodup ∧ ∀ x ∈ W o, x ∈ Sl := by
    refine forL_range (fun k S => ∃ ds' W a r b c, S = wjS ds' (.int most) (plD cap Sl) (sortS Sl) (rwD W (namesS "o" k)) a r b c ∧ ∀ o, (W o).length ≤ 3 ∧ (W o).Nodup ∧ ∀ x ∈ W o, x ∈ Sl) (fun k S hk hI => ?_) ⟨_, fun _ => [], _, _, _, _, rfl, by simp⟩
    obtain ⟨ds', W, a, r, b, c, rfl, hW⟩ := hI
    obtain ⟨ds2, r2, q2, b2, c2, e, h1, h2, h3⟩ := wiC_eq (ds := ds') (W := W) (most := .int most) (pd := plD cap Sl) (k := k) r b c hS' (by omega)
    refine ⟨_, _, rfl, e, _, _, _, _, _, _, rfl, fun o => ?_⟩
    show (if o = _ then r2 else W o).length ≤ 3 ∧ (if o = _ then r2 else W o).Nodup ∧ ∀ x ∈ (if o = _ then r2 else W o), x ∈ Sl
    split
    · exact ⟨h1, h2, fun x hx => mem_sortS.mp (h3 x hx)⟩
    · exact hW o
  obtain ⟨S', e, ds', W, a, r, b, c, rfl, hW⟩ := loop
  refine ⟨W, ds', (takeI ds (most + 1)).toNat, ?_, by omega, hW⟩
  have hr := fRng1_int t0 (by omega)
  have tk := take_F (ds := ds) hm
  have gs : gSorted [plD cap Sl] = some (.f (.lst ((sortS Sl).map .str))) := gSorted_nd _ _
  refine ok_runF (S := [.own (some 0) (deckI ds'), .shr (.int most), .shr (plD cap Sl), .own none (.lst ((sortS Sl).map .str)), .un, a, r, b, c]) ?_ rfl
  show wishesSem [.own (some 0) (deckI ds), .shr (.int most), .shr (plD cap Sl), .un, .un, .un, .un, .un, .un] = _
  have e' : forL (tNm 5) wiC ((List.range (takeI ds (most + 1)).toNat).map fun k => .int (k : Nat)) [.own (some 0) (deckI ds.dropLast), .shr (.int most), .shr (plD cap Sl), .own none (.lst ((sortS Sl).map .str)), .own none (.dct []), .un, .un, .un, .un] = .ok .nx _ := e
  simp [wishesSem, tk, hr, gs, e']
end L2.Dl
namespace L2.Dl
open PySem PySem.Spec PyProof.Rows
/-! ### dicts of names compared -/
theorem eq0_str {a b : Str} (ha : Lay a) (hb : Lay b) : eq0 (.str a) (.str b) = some (a == b) := by
  unfold eq0
  exact pyEq_str ha hb
theorem hits_names {f : D → D → Option Bool} {p q : Str → D} {e : Str → Bool} {k : List Str} : ∀ {l : List Str}, (∀ o ∈ l, o ∈ k → f (p o) (q o) = some (e o)) → hitsD f (nd q k) (nd p l) = some (decide (∀ o ∈ l, o ∈ k ∧ e o = true))
  | [], _ => by simp [hitsD, nd]
  | o :: l, h => by
    have ih := hits_names (l := l) fun x hx => h x (List.mem_cons_of_mem _ hx)
    show (match valD (nd q k) (.inr o) with
      | none => some false
      | some u => match f (p o) u, hitsD f (nd q k) (nd p l) with
        | some e, some b => some (e && b)
        | _, _ => none) = _
    by_cases hk : o ∈ k
    · rw [valD_nd hk]
      simp only [h o List.mem_cons_self hk, ih]
      congr 1
      rw [Bool.eq_iff_iff]
      simp [hk]
    · rw [valD_nd_none hk]
      simp [hk]
theorem toPy_dct (l : List (Key × D)) : toPy (.dct l) = none := by unfold toPy; rfl
theorem pyEq_dct (l : List (Key × D)) (d : D) : pyEq (.dct l) d = none := by
  unfold pyEq
  rw [toPy_dct]
theorem nodup_length_le {l m : List Str} (h : l.Nodup) (hs : ∀ x ∈ l, x ∈ m) : l.length ≤ m.length := by
  induction l generalizing m with
  | nil => simp
  | cons a l ih =>
    obtain ⟨h1, h2⟩ := List.nodup_cons.mp h
    have ha := hs a List.mem_cons_self
    have := ih (m := m.erase a) h2 fun x hx => by
      have ne : x ≠ a := fun z => h1 (z ▸ hx)
      exact (List.mem_erase_of_ne ne).mpr (hs x (List.mem_cons_of_mem _ hx))
    rw [List.length_erase_of_mem ha] at this
    have : 0 < m.length := List.length_pos_of_mem ha
    simp only [List.length_cons]
    omega
theorem mem_of_le {l m : List Str} (h : l.Nodup) (hs : ∀ x ∈ l, x ∈ m) (hl : m.length ≤ l.length) (hm : m.Nodup) : ∀ x ∈ m, x ∈ l := by
  intro x hx
  by_cases q : x ∈ l
  · exact q
  · exfalso
    have := nodup_length_le (l := x :: l) (m := m) (List.nodup_cons.mpr ⟨q, h⟩) fun y hy => by
      rcases List.mem_cons.mp hy with z | z
      · exact z ▸ hx
      · exact hs y z
    simp only [List.length_cons] at this
    omega
/-- the same keys with equal values -/
def SameK (e : Str → Bool) (l k : List Str) : Prop := (∀ o, o ∈ l ↔ o ∈ k) ∧ ∀ o ∈ l, e o = true
theorem hits_len {f : D → D → Option Bool} {p q : Str → D} {e : Str → Bool} {l k : List Str} (hl : l.Nodup) (hk : k.Nodup) (h : ∀ o ∈ l, o ∈ k → f (p o) (q o) = some (e o)) :
    ∃ b, (if (nd p l).length = (nd q k).length then hitsD f (nd q k) (nd p l) else some false) = some b ∧ (b = true ↔ SameK e l k) := by
  by_cases hn : l.length = k.length
  · refine ⟨decide (∀ o ∈ l, o ∈ k ∧ e o = true), ?_, ?_⟩
    · rw [if_pos (by simp [nd, hn]), hits_names h]
    · rw [decide_eq_true_iff]
      constructor
      · intro q
        exact ⟨fun o => ⟨fun ho => (q o ho).1, fun ho => mem_of_le hl (fun x hx => (q x hx).1) (by omega) hk o ho⟩, fun o ho => (q o ho).2⟩
      · intro q o ho
        exact ⟨(q.1 o).mp ho, q.2 o ho⟩
  · refine ⟨false, ?_, ?_⟩
    · rw [if_neg (by simpa [nd] using hn)]
    · constructor
      · intro z; cases z
      · intro q
        exact absurd ((List.perm_ext_iff_of_nodup hl hk).mpr q.1).length_eq hn
theorem deq_nd {p q : Str → D} {e : Str → Bool} {l k : List Str} (hl : l.Nodup) (hk : k.Nodup) (h : ∀ o ∈ l, o ∈ k → eq0 (p o) (q o) = some (e o)) :
    ∃ b, deq (.dct (nd p l)) (.dct (nd q k)) = some b ∧ (b = true ↔ SameK e l k) := by
  obtain ⟨b, h1, h2⟩ := hits_len (f := eq0) hl hk h
  refine ⟨b, ?_, h2⟩
  unfold deq
  rw [pyEq_dct]
  exact h1
theorem eq0_nd {p q : Str → D} {e : Str → Bool} {l k : List Str} (hl : l.Nodup) (hk : k.Nodup) (h : ∀ o ∈ l, o ∈ k → pyEq (p o) (q o) = some (e o)) :
    ∃ b, eq0 (.dct (nd p l)) (.dct (nd q k)) = some b ∧ (b = true ↔ SameK e l k) := hits_len hl hk h
theorem toPyL_dct {d : D} {l : List D} (h : toPy d = none) : toPyL (d :: l) = none := by
  unfold toPyL
  rw [h]
theorem deq_nil (l : List D) : deq (.lst l) (.lst []) = some l.isEmpty := by
  cases l with
  | nil => rfl
  | cons a l =>
    unfold deq
    have q : pyEq (.lst (a :: l)) (.lst []) = none ∨ pyEq (.lst (a :: l)) (.lst []) = some false := by
      unfold pyEq
      simp only [toPy, toPyL]
      cases toPy a with
      | none => exact .inl rfl
      | some p =>
        cases toPyL l with
        | none => exact .inl rfl
        | some ps =>
          simp only []
          split
          · exact .inr rfl
          · exact .inl rfl
    rcases q with q | q <;> rw [q] <;> simp
theorem gPopAt_strs {l : List Str} {i : Int} (h0 : 0 ≤ i) (h1 : i < l.length) (hl : l.length < 1000000) : ∃ x l', gPopAt (l.map .str) [.int i] = some (l'.map .str, .str x) ∧ l.Perm (x :: l') ∧ l'.length + 1 = l.length := by
  have hi : i.toNat < l.length := by omega
  have e : l = l.take i.toNat ++ l[i.toNat] :: l.drop (i.toNat + 1) := by
    rw [← List.drop_eq_getElem_cons hi, List.take_append_drop]
  refine ⟨l[i.toNat], l.take i.toNat ++ l.drop (i.toNat + 1), ?_, ?_, ?_⟩
  · show (if -(2 ^ 63) ≤ i ∧ i < 2 ^ 63 then _ else none) = _
    rw [if_pos (by omega)]
    simp only [List.length_map, seqIndex_of h0 h1, List.getElem?_map, List.getElem?_eq_getElem hi, Option.map_some, List.eraseIdx_eq_take_drop_succ, List.map_append, List.map_take, List.map_drop]
  · exact (List.Perm.of_eq e).trans List.perm_middle
  · simp
    omega
@[simp] theorem ev_freezeL_nil (S : SS) : freezeL S [] = S := rfl
@[simp] theorem ev_freezeL_cons (S : SS) (i : Nat) (bo : List Nat) : freezeL S (i :: bo) = freezeL (freeze S i) bo := rfl
@[simp] theorem ev_freeze (S : SS) (i : Nat) : freeze S i = match S[i]? with
  | some (.own t d) => S.set i (.shr d)
  | _ => S := by unfold freeze; rfl
theorem callK_keep {S : SS} {io bo : List Nat} {fl : Bool} {iod : List D} (h : (fl && iod.all D.flat) = true) : callK S io bo fl iod = setIO S io iod := by
  unfold callK
  rw [h, Bool.or_true, if_pos rfl]
theorem callK_frz {S : SS} {io : List Nat} {i : Nat} {bo : List Nat} {fl : Bool} {iod : List D} (h : (fl && iod.all D.flat) = false) : callK S io (i :: bo) fl iod = setIO (freezeL S (i :: bo)) io iod := by
  unfold callK
  rw [h]
  rfl
theorem deckI_flat (ds : List Int) : (deckI ds).flat = true := by simp [deckI, D.flat, D.sc]
end L2.Dl
namespace L2.Dl
open PySem PySem.Spec PyProof.Rows
/-! ### plain data -/
/-- lists, tuples, texts, numbers: no deeper than n, no list longer than N -/
inductive OkD (N : Nat) : Nat → D → Prop
  | non {n} : OkD N n .non
  | bl {n b} : OkD N n (.bl b)
  | int {n i} : OkD N n (.int i)
  | str {n s} : Lay s → OkD N n (.str s)
  | lst {n l} : l.length ≤ N → (∀ d ∈ l, OkD N n d) → OkD N (n + 1) (.lst l)
  | tup {n l} : l.length ≤ N → (∀ d ∈ l, OkD N n d) → OkD N (n + 1) (.tup l)
theorem toPyL_of {l : List D} {n : Nat} (h : ∀ d ∈ l, ∃ p, toPy d = some p ∧ p.canLay0 = true ∧ p.depth ≤ n) : ∃ ps, toPyL l = some ps ∧ PyData.canLayAll0 ps = true ∧ PyData.depthAll ps ≤ n := by
  induction l with
  | nil => exact ⟨[], rfl, rfl, Nat.zero_le _⟩
  | cons d l ih =>
    obtain ⟨p, h1, h2, h3⟩ := h d List.mem_cons_self
    obtain ⟨ps, g1, g2, g3⟩ := ih fun x hx => h x (List.mem_cons_of_mem _ hx)
    refine ⟨p :: ps, ?_, ?_, ?_⟩
    · simp only [toPyL, h1, g1]
    · simp only [PyData.canLayAll0, h2, g2, Bool.and_self]
    · simp only [PyData.depthAll]
      omega
theorem OkD.py {N n : Nat} {d : D} (h : OkD N n d) : ∃ p, toPy d = some p ∧ p.canLay0 = true ∧ p.depth ≤ n := by
  induction h with
  | non => exact ⟨.none, rfl, rfl, Nat.zero_le _⟩
  | bl => exact ⟨.bool _, rfl, rfl, Nat.zero_le _⟩
  | int => exact ⟨.int _, rfl, rfl, Nat.zero_le _⟩
  | str h => exact ⟨.str _, rfl, h, Nat.zero_le _⟩
  | lst _ _ ih =>
    obtain ⟨ps, g1, g2, g3⟩ := toPyL_of ih
    exact ⟨.list ps, by simp only [toPy, g1], by simp only [PyData.canLay0, g2], by simp only [PyData.depth]; omega⟩
  | tup _ _ ih =>
    obtain ⟨ps, g1, g2, g3⟩ := toPyL_of ih
    exact ⟨.tuple ps, by simp only [toPy, g1], by simp only [PyData.canLay0, g2], by simp only [PyData.depth]; omega⟩
theorem OkD.pyEq_self {N n : Nat} {d : D} (h : OkD N n d) (hn : n ≤ 64) : pyEq d d = some true := by
  obtain ⟨p, h1, h2, h3⟩ := h.py
  unfold pyEq
  simp only [h1]
  have : SeqAt.shaped p = true := by
    unfold SeqAt.shaped
    rw [h2, decide_eq_true (by omega)]
    rfl
  rw [this, SeqAt.eqv_refl p h2]
  rfl
theorem OkD.deq_self {N n : Nat} {d : D} (h : OkD N n d) (hn : n ≤ 64) : deq d d = some true := by
  unfold deq
  rw [h.pyEq_self hn]
theorem OkD.dne_self {N n : Nat} {d : D} (h : OkD N n d) (hn : n ≤ 64) : dne d d = some false := by
  unfold dne
  rw [h.deq_self hn]
  rfl
theorem OkD.up {N n : Nat} {d : D} (h : OkD N n d) : OkD N (n + 1) d := by
  induction h with
  | non => exact .non
  | bl => exact .bl
  | int => exact .int
  | str h => exact .str h
  | lst hl _ ih => exact .lst hl ih
  | tup hl _ ih => exact .tup hl ih
/-! ### the laws' own telling of a value -/
noncomputable def plainSem (Fr : List D → FR) : M Fl := (sSeq (sIfS (sTru (sIsi ["tuple", "list"] (sNm 0))) (sRet (sOp addD (sMake gLst (sCons (sIsi ["list"] (sNm 0)) sNil)) (sLc [1] (iSeq (sNm 0)) (tNm 1) sYes (callM [false] Fr (sCons (sNm 1) sNil))))) sNext)
    (sSeq (sIfS (sOr (sCmpT (isD false) (sNm 0) (sV .non)) (sTru (sIsi ["bool"] (sNm 0)))) (sRet (sOp subscD (sMake gLst (sCons (sV (.str "None")) (sCons (sV (.str "False")) (sCons (sV (.str "True")) sNil)))) (sOp addD (sCall gInt (sCons (sOp (toB (isD true)) (sNm 0) (sV .non)) sNil)) (sCall gInt (sCons (sOp (toB (isD false)) (sNm 0) (sV (.bl true))) sNil))))) sNext)
    (sSeq (sIfS (sTru (sIsi ["int", "str"] (sNm 0))) (sRet (sMake gLst (sCons (sIsi ["str"] (sNm 0)) (sCons (sNm 0) sNil)))) sNext)
    (sRet (sV (.str "another"))))))
noncomputable def plainF : Nat → List D → FR
  | 0 => fun _ => .no
  | n + 1 => runF 2 [false] (plainSem (plainF n))
@[simp] theorem ev_sIsi {Ts : List String} {fa : M R} {S : SS} : sIsi Ts fa S = (fa S).bind fun ra S1 => match look S1 ra with
  | none => .no
  | some d => match tyD d with
    | none => .no
    | some t => .ok (.v (.bl (Ts.any (isTy t)))) S1 := rfl
def resD : FR → D
  | .ret e _ _ => e
  | _ => .non
theorem ok_plain_list {Fr : List D → FR} {N n : Nat} {d : D} {l : List D} {b : Bool} (hd : (d = .lst l ∧ b = true) ∨ (d = .tup l ∧ b = false)) (hN : N < 1000000) (hl : l.length ≤ N) (h : ∀ x ∈ l, ∃ e fr, Fr [x] = .ret e fr [] ∧ OkD (N + 1) (n + 1) e) (h2 : 2 ≤ N) :
    ∃ e, runF 2 [false] (plainSem Fr) [d] = .ret e true [] ∧ OkD (N + 1) (n + 2) e := by
  obtain ⟨Y, hY⟩ : ∃ Y : D → D, ∀ x ∈ l, (∃ fr, Fr [x] = .ret (Y x) fr []) ∧ OkD (N + 1) (n + 1) (Y x) := by
    refine ⟨fun x => resD (Fr [x]), fun x hx => ?_⟩
    obtain ⟨e, fr, h1, h2⟩ := h x hx
    show (∃ fr, Fr [x] = .ret (resD (Fr [x])) fr []) ∧ OkD (N + 1) (n + 1) (resD (Fr [x]))
    rw [h1]
    exact ⟨⟨fr, rfl⟩, h2⟩
  have e1 : sLc [1] (iSeq (sNm 0)) (tNm 1) sYes (callM [false] Fr (sCons (sNm 1) sNil)) [.shr d, .un] = .ok (.f (.lst (l.map Y))) [.shr d, .un] := by
    have q := sLc_pure (v := 1) (fi := iSeq (sNm 0)) (ft := sYes) (fe := callM [false] Fr (sCons (sNm 1) sNil)) (S := [.shr d, .un]) (S1 := [.shr d, .un]) (ds := l) (w := .un) (fun _ => true) Y (by rcases hd with ⟨rfl, _⟩ | ⟨rfl, _⟩ <;> rfl) (by omega) rfl fun x hx => by
      obtain ⟨⟨fr, h1⟩, _⟩ := hY x hx
      refine ⟨rfl, fun _ => ?_⟩
      cases fr with
      | true => exact ⟨.f (Y x), by simp [h1], rfl⟩
      | false => exact ⟨.v (Y x), by simp [h1], rfl⟩
    rw [q]
    congr 3
    rw [List.filter_eq_self.mpr fun _ _ => rfl]
  have ad : addD (.lst [.bl b]) (.lst (l.map Y)) = some (.f (.lst (.bl b :: l.map Y))) := by
    show (if [D.bl b].length + (l.map Y).length ≤ 1000000 then _ else none) = _
    rw [if_pos (by simp; omega)]
    rfl
  refine ⟨.lst (.bl b :: l.map Y), ok_runF (S := [.shr d, .un]) ?_ rfl, .lst (by simp; omega) fun x hx => ?_⟩
  · unfold plainSem
    rw [ev_sSeq]
    have : sIfS (sTru (sIsi ["tuple", "list"] (sNm 0))) (sRet (sOp addD (sMake gLst (sCons (sIsi ["list"] (sNm 0)) sNil)) (sLc [1] (iSeq (sNm 0)) (tNm 1) sYes (callM [false] Fr (sCons (sNm 1) sNil))))) sNext [.shr d, .un] = .ok (.rt (.lst (.bl b :: l.map Y)) true) [.shr d, .un] := by
      rw [ev_sIfS]
      have c : sTru (sIsi ["tuple", "list"] (sNm 0)) [.shr d, .un] = .ok true [.shr d, .un] := by
        rcases hd with ⟨rfl, _⟩ | ⟨rfl, _⟩ <;> rfl
      rw [c]
      simp only [ev_bind_ok, if_true]
      have m : sMake gLst (sCons (sIsi ["list"] (sNm 0)) sNil) [.shr d, .un] = .ok (.f (.lst [.bl b])) [.shr d, .un] := by
        rcases hd with ⟨rfl, rfl⟩ | ⟨rfl, rfl⟩ <;> rfl
      simp only [ev_sRet, ev_sOp, m, ev_bind_ok, e1, ev_look_f, Option.bind_eq_bind, Option.bind_some, ad, ev_lift_some, ev_retR_f]
    have tup : [AV.shr d, AV.un] = [AV.shr d, AV.un] := rfl
    show (sIfS _ _ _ [.shr d, .un]).bind _ = _
    rw [this]
    rfl
  · rcases List.mem_cons.mp hx with rfl | hx
    · exact .bl
    · obtain ⟨y, hy, rfl⟩ := List.mem_map.mp hx
      exact (hY y hy).2
theorem plain_run {N n : Nat} {d : D} (hN : N < 1000000) (h2 : 2 ≤ N) (h : OkD N n d) : ∀ k, n < k → ∃ e fr, plainF k [d] = .ret e fr [] ∧ OkD (N + 1) (n + 1) e := by
  induction h with
  | non =>
    intro k hk
    obtain ⟨k, rfl⟩ : ∃ j, k = j + 1 := ⟨k - 1, by omega⟩
    exact ⟨.str "None", false, rfl, .str (by unfold Lay; decide +kernel)⟩
  | @bl n b =>
    intro k hk
    obtain ⟨k, rfl⟩ : ∃ j, k = j + 1 := ⟨k - 1, by omega⟩
    cases b with
    | true => exact ⟨.str "True", false, rfl, .str (by unfold Lay; decide +kernel)⟩
    | false => exact ⟨.str "False", false, rfl, .str (by unfold Lay; decide +kernel)⟩
  | int =>
    intro k hk
    obtain ⟨k, rfl⟩ : ∃ j, k = j + 1 := ⟨k - 1, by omega⟩
    refine ⟨.lst [.bl false, .int _], true, rfl, .lst (by simp; omega) fun x hx => ?_⟩
    simp at hx
    rcases hx with rfl | rfl
    · exact .bl
    · exact .int
  | str hs =>
    intro k hk
    obtain ⟨k, rfl⟩ : ∃ j, k = j + 1 := ⟨k - 1, by omega⟩
    refine ⟨.lst [.bl true, .str _], true, rfl, .lst (by simp; omega) fun x hx => ?_⟩
    simp at hx
    rcases hx with rfl | rfl
    · exact .bl
    · exact .str hs
  | lst hl _ ih =>
    intro k hk
    obtain ⟨k, rfl⟩ : ∃ j, k = j + 1 := ⟨k - 1, by omega⟩
    obtain ⟨e, h1, h3⟩ := ok_plain_list (b := true) (.inl ⟨rfl, rfl⟩) hN hl (fun x hx => ih x hx k (by omega)) h2
    exact ⟨e, true, h1, h3⟩
  | tup hl _ ih =>
    intro k hk
    obtain ⟨k, rfl⟩ : ∃ j, k = j + 1 := ⟨k - 1, by omega⟩
    obtain ⟨e, h1, h3⟩ := ok_plain_list (b := false) (.inr ⟨rfl, rfl⟩) hN hl (fun x hx => ih x hx k (by omega)) h2
    exact ⟨e, true, h1, h3⟩
end L2.Dl
namespace L2.Dl
open PySem PySem.Spec PyProof.Rows
/-! ### comprehensions over any list, the state kept within I -/
theorem lcL_map {α : Type} {vs : List Nat} {g : D → SS → Option SS} {ft : M Bool} {fe : M R} (f : α → D) (T : α → Bool) (Y : α → D) (I : SS → Prop) : ∀ (xs : List α),
    (∀ x ∈ xs, ∀ S, I S → ∃ S1 S2, g (f x) S = some S1 ∧ ft S1 = .ok (T x) S2 ∧ (T x = true → ∃ r S3 S4, fe S2 = .ok r S3 ∧ valR S3 r = some (Y x, S4) ∧ I (wipeS S4 vs)) ∧ (T x = false → I (wipeS S2 vs))) →
    ∀ S, I S → ∃ S', lcL vs g ft fe (xs.map f) S = .ok ((xs.filter T).map Y) S' ∧ I S'
  | [], _, S, hI => ⟨S, rfl, hI⟩
  | x :: xs, h, S, hI => by
    obtain ⟨S1, S2, h1, h2, h3, h4⟩ := h x List.mem_cons_self S hI
    have ih := lcL_map (ft := ft) (fe := fe) f T Y I xs fun y hy => h y (List.mem_cons_of_mem _ hy)
    simp only [List.map_cons, lcL, h1, h2, noEx, Res.bind]
    cases c : T x with
    | true =>
      obtain ⟨r, S3, S4, e1, e2, e3⟩ := h3 c
      obtain ⟨S', q1, q2⟩ := ih _ e3
      refine ⟨S', ?_, q2⟩
      simp only [if_true, e1, noEx, Res.bind, e2, q1, List.filter_cons, c, List.map_cons]
    | false =>
      obtain ⟨S', q1, q2⟩ := ih _ (h4 c)
      refine ⟨S', ?_, q2⟩
      simp only [q1, List.filter_cons, c]
      simp
theorem lc_map {α : Type} {vs : List Nat} {fi : M (List D)} {g : D → SS → Option SS} {ft : M Bool} {fe : M R} {S S1 : SS} (f : α → D) (T : α → Bool) (Y : α → D) (I : SS → Prop) {xs : List α} (hi : fi S = .ok (xs.map f) S1) (hl : xs.length ≤ 1000000)
    (h : ∀ x ∈ xs, ∀ S, I S → ∃ S1 S2, g (f x) S = some S1 ∧ ft S1 = .ok (T x) S2 ∧ (T x = true → ∃ r S3 S4, fe S2 = .ok r S3 ∧ valR S3 r = some (Y x, S4) ∧ I (wipeS S4 vs)) ∧ (T x = false → I (wipeS S2 vs)))
    (hI : I (wipeS S1 vs)) : ∃ S', sLc vs fi g ft fe S = .ok (.f (.lst ((xs.filter T).map Y))) (unwipe S1 S' vs) ∧ I S' := by
  obtain ⟨S', e, q⟩ := lcL_map (ft := ft) (fe := fe) f T Y I xs h (wipeS S1 vs) hI
  refine ⟨S', ?_, q⟩
  unfold sLc
  simp only [hi, Res.bind, List.length_map, if_pos hl, e, noEx]
end L2.Dl
namespace L2.Dl
open PySem PySem.Spec PyProof.Rows
/-- a for that raises at one of its items -/
theorem forL_list_ex {g : D → SS → Option SS} {body : M Fl} {α : Type} (f : α → D) {xs pre post : List α} {x : α} {I : List α → SS → Prop} {S : SS} {c : Nat} {w : D} (e : xs = pre ++ x :: post)
    (step : ∀ p y S, (∃ r, pre = p ++ y :: r) → I p S → ∃ S1 S2, g (f y) S = some S1 ∧ body S1 = .ok .nx S2 ∧ I (p ++ [y]) S2)
    {Q : SS → Prop} (last : ∀ S, I pre S → ∃ S1 S2, g (f x) S = some S1 ∧ body S1 = .ex c w S2 ∧ Q S2) (h : I [] S) : ∃ S', forL g body (xs.map f) S = .ex c w S' ∧ Q S' := by
  have key : ∀ (r p : List α) (S : SS), pre = p ++ r → I p S → ∃ S', forL g body ((r ++ x :: post).map f) S = .ex c w S' ∧ Q S' := by
    intro r
    induction r with
    | nil =>
      intro p S e hI
      rw [List.append_nil] at e
      obtain ⟨S1, S2, e1, e2, hQ⟩ := last S (e ▸ hI)
      refine ⟨S2, ?_, hQ⟩
      simp only [List.nil_append, List.map_cons]
      unfold forL
      simp only [e1, e2, Res.bind]
    | cons y r ih =>
      intro p S e hI
      obtain ⟨S1, S2, e1, e2, h2⟩ := step p y S ⟨r, e⟩ hI
      obtain ⟨S', e3, hQ⟩ := ih (p ++ [y]) S2 (by rw [e]; simp) h2
      refine ⟨S', ?_, hQ⟩
      simp only [List.cons_append, List.map_cons]
      unfold forL
      simp only [e1, e2, Res.bind]
      exact e3
  rw [e]
  exact key pre [] S rfl h
section
variable {S S1 : SS} {f g : M Fl} {c : Nat} {w : D}
theorem ex_runF {n : Nat} {md : List Bool} {ds : List D} {io : List D} (h : f (startS md ds 0 ++ List.replicate (n - ds.length) .un) = .ex c w S) (ho : outS md S 0 = some io) : runF n md f ds = .ex c w io := by
  unfold runF; simp only [h, ho]
theorem ex_sSeq (hf : f S = .ex c w S1) : sSeq f g S = .ex c w S1 := by unfold sSeq; simp only [hf, Res.bind]
theorem ex_callM {md : List Bool} {Fn : List D → FR} {fl : M (List R)} {rs : List R} {ds : List D} {io bo : List Nat} {iod : List D} (hl : fl S = .ok rs S1) (ha : argD S1 md rs = some (ds, io, bo)) (hn : io.Nodup ∧ ∀ i ∈ io, i ∉ bo) (hf : Fn ds = .ex c w iod) :
    callM md Fn fl S = .ex c w (callK S1 io bo false iod) := by
  unfold callM; simp only [hl, Res.bind, ha, if_pos hn, hf]
theorem ex_sExpr {fa : M R} (ha : fa S = .ex c w S1) : sExpr fa S = .ex c w S1 := by unfold sExpr; simp only [ha, Res.bind]
end
end L2.Dl
namespace L2.Dl
open PySem PySem.Spec PyProof.Rows
/-! ### more of the semantics reckoned by simp -/
section
variable {S : SS} {fa fb fl fu : M R} {ft : M Bool}
@[simp] theorem ev_sM1 {g : D → D → Option R} : sM1 g fa fb S = (fa S).bind fun ra S1 => match look S1 ra with
  | some (.str _) => (fb S1).bind fun rb S2 => lift (do let da ← look S2 ra; let db ← look S2 rb; g da db) S2
  | _ => .no := rfl
@[simp] theorem ev_sT1 {g : D → Option Bool} : sT1 g fa S = (fa S).bind fun ra S1 => liftT (do let da ← look S1 ra; g da) S1 := rfl
@[simp] theorem ev_sIf : sIf ft fa fb S = (ft S).bind fun b S1 => if b = true then fa S1 else fb S1 := rfl
@[simp] theorem ev_sVals : sVals fa S = (fa S).bind fun r S1 => match look S1 r with
  | some (.dct l) => .ok (.v (.lst (l.map (·.2)))) S1
  | _ => .no := rfl
@[simp] theorem ev_sIdx' {S : SS} : sIdx fa fb S = (fa S).bind fun ra S1 => match lookLst S1 ra with
  | none => .no
  | some _ => (fb S1).bind fun rb S2 => lift (do let da ← look S2 ra; let db ← look S2 rb; gIndex [da, db]) S2 := rfl
@[simp] theorem ev_lookLst' {S : SS} {r : R} : lookLst S r = match look S r with
  | some (.lst l) => some l
  | _ => none := rfl
@[simp] theorem ev_sh_v' (d : D) : (R.v d).sh = .v d := rfl
@[simp] theorem ev_sh_f' (d : D) : (R.f d).sh = .v d := rfl
@[simp] theorem ev_sAndV' : sAndV fa fb S = (fa S).bind fun ra S1 => match lookB S1 ra with
  | none => .no
  | some true => fb S1
  | some false => .ok ra.sh S1 := rfl
@[simp] theorem ev_sOrV' : sOrV fa fb S = (fa S).bind fun ra S1 => match lookB S1 ra with
  | none => .no
  | some true => .ok ra.sh S1
  | some false => fb S1 := rfl
@[simp] theorem ev_partD {r : R} : partD S r = match look S r with
  | some (.int i) => some i
  | _ => none := rfl
@[simp] theorem ev_sSlLo : sSlLo fa fl S = (fa S).bind fun ra S1 => (fl S1).bind fun rl S2 => match partD S2 rl, look S2 ra with
  | some lo, some d => lift (gSl d (some lo) none) S2
  | _, _ => .no := rfl
@[simp] theorem ev_sSlHi : sSlHi fa fu S = (fa S).bind fun ra S1 => (fu S1).bind fun ru S2 => match partD S2 ru, look S2 ra with
  | some hi, some d => lift (gSl d none (some hi)) S2
  | _, _ => .no := rfl
@[simp] theorem ev_iMake' {g : List D → Option (List D)} {fl : M (List R)} {S : SS} : iMake g fl S = (fl S).bind fun rs S1 => match valsR S1 rs with
  | none => .no
  | some (ds, S2) => match g ds with
    | none => .no
    | some l => .ok l S2 := rfl
end
end L2.Dl
namespace L2.Dl
open PySem PySem.Spec PyProof.Rows
/-! ### sorted by a number, then a text -/
def keyTS (t : Int) (s : Str) : PyData := .tuple [.int t, .str s]
def ltTS (t : Int) (s : Str) (t' : Int) (s' : Str) : Bool := decide (t < t' ∨ (t = t' ∧ s.cps.toList < s'.cps.toList))
theorem dataLt_ts (a c : Int) (b d : Str) : PySem.W.dataLt (keyTS a b) (keyTS c d) = ltTS a b c d := by
  unfold keyTS ltTS
  rw [PySem.W.dataLt_pair (by simp [PySem.W.alike]) (by simp [PySem.W.alike]), PySem.W.dataLt_int, PySem.W.dataLt_str]
  simp only [PyData.eqv, beq_iff_eq]
  by_cases h1 : a = c
  · by_cases h2 : b = d
    · subst h1 h2
      simp [List.lt_irrefl]
    · simp [h1, h2]
  · simp [h1]
section
variable {α : Type}
def leE (t : α → Int) (s : α → Str) (a b : α) : Bool := !ltTS (t b) (s b) (t a) (s a)
def sortTS (t : α → Int) (s : α → Str) (l : List α) : List α := l.mergeSort (leE t s)
theorem sortTS_perm (t : α → Int) (s : α → Str) (l : List α) : (sortTS t s l).Perm l := List.mergeSort_perm l _
theorem leE_iff (t : α → Int) (s : α → Str) (a b : α) : leE t s a b = true ↔ t a < t b ∨ (t a = t b ∧ (s a).cps.toList ≤ (s b).cps.toList) := by
  unfold leE ltTS
  rw [Bool.not_eq_true', decide_eq_false_iff_not]
  constructor
  · intro h
    by_cases h1 : t a < t b
    · exact .inl h1
    · by_cases h2 : t a = t b
      · refine .inr ⟨h2, ?_⟩
        exact List.not_lt.mp fun z => h (.inr ⟨h2.symm, z⟩)
      · exact absurd (.inl (by omega)) h
  · rintro (h | ⟨h1, h2⟩) (z | ⟨z1, z2⟩)
    · omega
    · omega
    · omega
    · exact List.not_lt.mpr h2 z2
theorem sortTS_sorted (t : α → Int) (s : α → Str) (l : List α) : (sortTS t s l).Pairwise fun a b => leE t s a b = true := by
  refine List.pairwise_mergeSort (le := leE t s) (fun a b c h1 h2 => ?_) (fun a b => ?_) l
  · rw [leE_iff] at h1 h2 ⊢
    rcases h1 with h1 | ⟨h1, g1⟩ <;> rcases h2 with h2 | ⟨h2, g2⟩
    · exact .inl (by omega)
    · exact .inl (by omega)
    · exact .inl (by omega)
    · exact .inr ⟨by omega, List.le_trans g1 g2⟩
  · rw [Bool.or_eq_true, leE_iff, leE_iff]
    rcases Int.lt_trichotomy (t a) (t b) with h | h | h
    · exact .inl (.inl h)
    · rcases List.le_total (s a).cps.toList (s b).cps.toList with g | g
      · exact .inl (.inr ⟨h, g⟩)
      · exact .inr (.inr ⟨h.symm, g⟩)
    · exact .inr (.inl h)
/-- two sorted lists of the same items, the texts apart -/
theorem sorted_unique {t : α → Int} {s : α → Str} : ∀ {l m : List α}, l.Perm m → (l.Pairwise fun a b => leE t s a b = true) → (m.Pairwise fun a b => leE t s a b = true) → (l.Pairwise fun a b => s a ≠ s b) → l = m
  | [], m, h, _, _, _ => by rw [List.nil_perm.mp h]
  | a :: l, [], h, _, _, _ => by exact absurd h.length_eq (by simp)
  | a :: l, b :: m, h, h1, h2, h3 => by
    obtain ⟨p1, p2⟩ := List.pairwise_cons.mp h1
    obtain ⟨q1, q2⟩ := List.pairwise_cons.mp h2
    obtain ⟨r1, r2⟩ := List.pairwise_cons.mp h3
    have e : a = b := by
      rcases List.mem_cons.mp (h.mem_iff.mpr List.mem_cons_self : b ∈ a :: l) with z | z
      · exact z.symm
      · rcases List.mem_cons.mp (h.mem_iff.mp List.mem_cons_self : a ∈ b :: m) with w | w
        · exact w
        · exfalso
          have k1 := (leE_iff t s a b).mp (p1 b z)
          have k2 := (leE_iff t s b a).mp (q1 a w)
          have ne := r1 b z
          rcases k1 with k1 | ⟨k1, g1⟩ <;> rcases k2 with k2 | ⟨k2, g2⟩
          · omega
          · omega
          · omega
          · have := List.le_antisymm g1 g2
            apply ne
            have e1 : (s a).cps = (s b).cps := by rw [← Array.toArray_toList (xs := (s a).cps), this, Array.toArray_toList]
            cases hsa : s a; cases hsb : s b
            rw [hsa, hsb] at e1
            exact congrArg Str.mk e1
    subst e
    rw [sorted_unique (List.Perm.cons_inv h) p2 q2 r2]
theorem sortTS_eq {t : α → Int} {s : α → Str} {l m : List α} (h : l.Perm m) (hd : l.Pairwise fun a b => s a ≠ s b) : sortTS t s l = sortTS t s m := by
  refine sorted_unique ((sortTS_perm t s l).trans (h.trans (sortTS_perm t s m).symm)) (sortTS_sorted t s l) (sortTS_sorted t s m) ?_
  exact (sortTS_perm t s l).symm.pairwise hd fun h => Ne.symm h
theorem sortTS_self {t : α → Int} {s : α → Str} {l : List α} (h : l.Pairwise fun a b => leE t s a b = true) (hd : l.Pairwise fun a b => s a ≠ s b) : sortTS t s l = l :=
  (sorted_unique (sortTS_perm t s l).symm h (sortTS_sorted t s l) hd).symm
theorem toPyL_ts (t : α → Int) (s : α → Str) (l : List α) : toPyL (l.map fun x => .tup [.int (t x), .str (s x)]) = some (l.map fun x => keyTS (t x) (s x)) := by
  induction l with
  | nil => rfl
  | cons a l ih => simp only [List.map_cons, toPyL, toPy, ih]; rfl
theorem okSort_ts (t : α → Int) (s : α → Str) (l : List α) : okSort (l.map fun x => keyTS (t x) (s x)) = true := by
  unfold okSort
  simp only [List.all_map, Bool.and_eq_true, List.all_eq_true, Function.comp]
  refine ⟨⟨fun a _ b _ => rfl, ?_⟩, fun a _ => rfl⟩
  rw [Bool.or_eq_true]
  exact .inl (by simp [List.all_eq_true, tup1, keyTS])
theorem sortR_ts (f : α → D) (t : α → Int) (s : α → Str) (l : List α) : sortR (l.map f) (l.map fun x => .tup [.int (t x), .str (s x)]) = some (.f (.lst ((sortTS t s l).map f))) := by
  unfold sortR
  rw [toPyL_ts]
  simp only [okSort_ts, if_true]
  unfold sortK sortTS
  have e2 : (l.map f).zip (l.map fun x => keyTS (t x) (s x)) = l.map fun x => (f x, keyTS (t x) (s x)) := by
    rw [List.zip_map']
  rw [e2]
  have e3 : (l.map fun x => (f x, keyTS (t x) (s x))).mergeSort (PySem.W.dataLe false Prod.snd) = (l.mergeSort (leE t s)).map fun x => (f x, keyTS (t x) (s x)) := by
    rw [List.map_mergeSort]
    intro a _ b _
    show leE t s a b = PySem.W.dataLe false Prod.snd (f a, keyTS (t a) (s a)) (f b, keyTS (t b) (s b))
    unfold leE
    rw [← dataLt_ts]
    rfl
  rw [e3, List.map_map]
  rfl
end
end L2.Dl
namespace Lk84
open PySem PySem.Spec PyProof.Rows L2 L2.Dl LamX NdefX
def top (i : Nat) : Stmt := PySem.Challenge.pw_slotwork_k84_whole_seals.main.body.getD i (.Pass ⟨0, 0, 0, 0⟩)
/-- what the text's top leaves -/
structure TopF (mg : Str → Option Value) : Prop where
  f_abs : mg "abs" = none
  f_all : mg "all" = none
  f_bool : mg "bool" = none
  f_int : mg "int" = none
  f_isinstance : mg "isinstance" = none
  f_len : mg "len" = none
  f_list : mg "list" = none
  f_min : mg "min" = none
  f_ord : mg "ord" = none
  f_range : mg "range" = none
  f_reversed : mg "reversed" = none
  f_sorted : mg "sorted" = none
  f_str : mg "str" = none
  f_tuple : mg "tuple" = none
  f_zip : mg "zip" = none
  g_FACTOR : ∃ t, mg "FACTOR" = some (.int 1000003 t)
  g_MODULUS : ∃ t, mg "MODULUS" = some (.int 2305843009213693951 t)
  g_MOST_EVENTS : ∃ t, mg "MOST_EVENTS" = some (.int 2000 t)
  g_MOST_SIGNS : ∃ t, mg "MOST_SIGNS" = some (.int 40 t)
  g_SIGNS : ∃ t, mg "SIGNS" = some (.str "abcdefghijklmnopqrstuvwxyz0123456789-" t)
  g_SIGN_FACTOR : ∃ t, mg "SIGN_FACTOR" = some (.int 257 t)
abbrev kv_KINDS : List (Str × Str) := [("slot", "name places"), ("places", "name places"), ("order", "name wishes"), ("wish", "name wishes"), ("cancel", "name"), ("note", "text")]
section
variable {P : Program} {w : World} {K : PySem.W.Frag} {mg : Str → Option Value} {base : Heap} {br : Brings}
/-! ### is_name -/
abbrev st_is_name : Stmt := top 7
noncomputable def sem_is_name : M Fl := (sRet (sAndV (sChain leD leD (sV (.int 1)) (sCall gLen (sCons (sNm 0) sNil)) (sV (.int 40))) (sUn notD (sLc [1] (iSeq (sNm 0)) (tNm 1) (sCmpT nmemD (sNm 1) (sV (.str "abcdefghijklmnopqrstuvwxyz0123456789-"))) (sNm 1)))))
noncomputable def Fn_is_name : List D → FR := runF 2 [false] sem_is_name
theorem sc_is_name : FnScope ["text", "sign"] ["text"] (defScope st_is_name) := ⟨rfl, rfl, rfl, by decide +kernel, rfl, by decide +kernel, by decide +kernel⟩
theorem ok_is_name {f : Addr} {fd : FuncData} (F : FunD K "is_name" "is_name" (defArgs st_is_name) (defBody st_is_name) (defScope st_is_name) [] [] f fd) (T : TopF mg)  :
    FnOk P w K mg base (L2.CX P w) 1 f fd ["text"] (spD br K [false] Fn_is_name) := FnD (k := 0) F sc_is_name rfl fun cdv A outer s H E z W hcode hcl hr c =>
    (Ss_one (S_ret (E_and (E_chain op_leD op_leD (E_int c.hk) (E_callB c.hk (cr_lenD c.hk) (by rfl) T.f_len (by rfl) (L_cons (E_nm c.hk 0) L_nil)) (E_gintX c.hk T.g_MOST_SIGNS)) (E_one (E_not (E_lc c (IT_seq (E_nm c.hk 0)) (blkOk_by (N := ["text", "sign"]) (sc := defScope st_is_name) (own := [("sign", 1)]) (by decide +kernel)) (by decide) (fun s H C cl fp => (Tg_nm (c.blk s H _ _ fp).nd rfl (by first | exact Or.inl rfl | exact Or.inr rfl))) (fun s H C cl fp => (Ts_one (T_cmp (op_nmemD (c.blk s H _ _ fp).hk (hu1 hr)) (E_nm (c.blk s H _ _ fp).hk 1) (E_gstrX (c.blk s H _ _ fp).hk T.g_SIGNS) (by rfl)))) (fun s H C cl fp => (E_nm (c.blk s H _ _ fp).hk 1))))))))

/-! ### is_part -/
abbrev st_is_part : Stmt := top 11
noncomputable def sem_is_part : M Fl := (sSeq (sIfS (sCmpT deq (sNm 0) (sV (.str "places"))) (sRet (sAndV (sIsi ["int"] (sNm 1)) (sUn notD (sIsi ["bool"] (sNm 1))))) sNext)
    (sSeq (sIfS (sCmpT deq (sNm 0) (sV (.str "wishes"))) (sSeq (sIfS (sNot (sTru (sIsi ["tuple"] (sNm 1)))) (sRet (sV (.bl false))) sNext)
    (sRet (sUn notD (sLc [2] (iSeq (sNm 1)) (tNm 2) (sOr (sNot (sTru (sIsi ["str"] (sNm 2)))) (sNot (sTru (callM [false] Fn_is_name (sCons (sNm 2) sNil))))) (sNm 2))))) sNext)
    (sSeq (sIfS (sNot (sTru (sIsi ["str"] (sNm 1)))) (sRet (sV (.bl false))) sNext)
    (sRet (sIf (sCmpT deq (sNm 0) (sV (.str "name"))) (callM [false] Fn_is_name (sCons (sNm 1) sNil)) (sOp (toB nmemD) (sV (.str "\n")) (sNm 1)))))))
noncomputable def Fn_is_part : List D → FR := runF 3 [false, false] sem_is_part
theorem sc_is_part : FnScope ["kind", "value", "name"] ["kind", "value"] (defScope st_is_part) := ⟨rfl, rfl, rfl, by decide +kernel, rfl, by decide +kernel, by decide +kernel⟩
theorem ok_is_part {f : Addr} {fd : FuncData} (F : FunD K "is_part" "is_part" (defArgs st_is_part) (defBody st_is_part) (defScope st_is_part) [] [] f fd) (T : TopF mg) (h_is_name : Cl P w K mg base br "is_name" ["text"] [false] 1 Fn_is_name) :
    FnOk P w K mg base (L2.CX P w) 2 f fd ["kind", "value"] (spD br K [false, false] Fn_is_part) := FnD (k := 1) F sc_is_part rfl fun cdv A outer s H E z W hcode hcl hr c =>
    (Ss_cons (S_if (T_cmp (op_deq c.hk (hu70 hr)) (E_nm c.hk 0) (E_str c.hk) (by rfl)) (Ss_one (S_ret (E_and (E_isi T.f_isinstance T.f_int (E_nm c.hk 1)) (E_one (E_not (E_isi T.f_isinstance T.f_bool (E_nm c.hk 1))))))) Ss_nil)
    (Ss_cons (S_if (T_cmp (op_deq c.hk (hu70 hr)) (E_nm c.hk 0) (E_str c.hk) (by rfl)) (Ss_cons (S_if (T_not (T_tru (E_isi T.f_isinstance T.f_tuple (E_nm c.hk 1)))) (Ss_one (S_ret (E_bl c.hk))) Ss_nil)
    (Ss_one (S_ret (E_not (E_lc c (IT_seq (E_nm c.hk 1)) (blkOk_by (N := ["kind", "value", "name"]) (sc := defScope st_is_part) (own := [("name", 2)]) (by decide +kernel)) (by decide) (fun s H C cl fp => (Tg_nm (c.blk s H _ _ fp).nd rfl (by first | exact Or.inl rfl | exact Or.inr rfl))) (fun s H C cl fp => (Ts_one (Tw_or (T_not (T_tru (E_isi T.f_isinstance T.f_str (E_nm (c.blk s H _ _ fp).hk 2)))) (Tw_or1 (T_not (T_tru (E_cl (c.blk s H _ _ fp) h_is_name hcl hr (L_cons (E_nm (c.blk s H _ _ fp).hk 2) L_nil)))))).t)) (fun s H C cl fp => (E_nm (c.blk s H _ _ fp).hk 2))))))) Ss_nil)
    (Ss_cons (S_if (T_not (T_tru (E_isi T.f_isinstance T.f_str (E_nm c.hk 1)))) (Ss_one (S_ret (E_bl c.hk))) Ss_nil)
    (Ss_one (S_ret (E_if (T_cmp (op_deq c.hk (hu70 hr)) (E_nm c.hk 0) (E_str c.hk) (by rfl)) (E_cl c h_is_name hcl hr (L_cons (E_nm c.hk 1) L_nil)) (E_cmp (op_nmemD c.hk (hu1 hr)) (E_str c.hk) (E_nm c.hk 1) (by rfl))))))))

/-! ### is_event -/
abbrev st_is_event : Stmt := top 12
noncomputable def sem_is_event : M Fl := (sSeq (sIfS (sOr (sNot (sTru (sIsi ["tuple"] (sNm 0)))) (sCmpT ltD (sCall gLen (sCons (sNm 0) sNil)) (sV (.int 4)))) (sRet (sV (.bl false))) sNext)
    (sSeq (sIfS (sOr (sNot (sTru (callM [false, false] Fn_is_part (sCons (sV (.str "name")) (sCons (sOp subscD (sNm 0) (sV (.int 0))) sNil))))) (sNot (sTru (callM [false, false] Fn_is_part (sCons (sV (.str "places")) (sCons (sOp subscD (sNm 0) (sV (.int 1))) sNil)))))) (sRet (sV (.bl false))) sNext)
    (sSeq (sIfS (sOr (sNot (sTru (sIsi ["str"] (sOp subscD (sNm 0) (sV (.int 2)))))) (sT1 (gInB true kv_KINDS) (sOp subscD (sNm 0) (sV (.int 2))))) (sRet (sV (.bl false))) sNext)
    (sSeq (sAsg 1 (sM1 gSplit (sUn (gIxT kv_KINDS) (sOp subscD (sNm 0) (sV (.int 2)))) (sV (.str " "))))
    (sRet (sAndV (sOp (toB deq) (sCall gLen (sCons (sNm 0) sNil)) (sOp addD (sV (.int 3)) (sCall gLen (sCons (sNm 1) sNil)))) (sCall gAll (sCons (sLc [2, 3] (iMake gZip2 (sCons (sNm 1) (sCons (sSlLo (sNm 0) (sV (.int 3))) sNil))) (tTupT 2 (tCons (tNm 2) (tCons (tNm 3) tNil))) sYes (callM [false, false] Fn_is_part (sCons (sNm 2) (sCons (sNm 3) sNil)))) sNil))))))))
noncomputable def Fn_is_event : List D → FR := runF 4 [false] sem_is_event
theorem sc_is_event : FnScope ["event", "parts", "part", "value"] ["event"] (defScope st_is_event) := ⟨rfl, rfl, rfl, by decide +kernel, rfl, by decide +kernel, by decide +kernel⟩
theorem ok_is_event {f : Addr} {fd : FuncData} (F : FunD K "is_event" "is_event" (defArgs st_is_event) (defBody st_is_event) (defScope st_is_event) [] [] f fd) (T : TopF mg) (h_is_part : Cl P w K mg base br "is_part" ["kind", "value"] [false, false] 2 Fn_is_part) (t_KINDS : TbS K w mg "KINDS" kv_KINDS) :
    FnOk P w K mg base (L2.CX P w) 3 f fd ["event"] (spD br K [false] Fn_is_event) := FnD (k := 2) F sc_is_event rfl fun cdv A outer s H E z W hcode hcl hr c =>
    (Ss_cons (S_if (Tw_or (T_not (T_tru (E_isi T.f_isinstance T.f_tuple (E_nm c.hk 0)))) (Tw_or1 (T_cmp op_ltD (E_callB c.hk (cr_lenD c.hk) (by rfl) T.f_len (by rfl) (L_cons (E_nm c.hk 0) L_nil)) (E_int c.hk) (by rfl)))).t (Ss_one (S_ret (E_bl c.hk))) Ss_nil)
    (Ss_cons (S_if (Tw_or (T_not (T_tru (E_cl c h_is_part hcl hr (L_cons (E_str c.hk) (L_cons (E_ix (ix_sub c.hk (hu1 hr)) (E_nm c.hk 0) (E_int c.hk) (by intro _ _; rfl)) L_nil))))) (Tw_or1 (T_not (T_tru (E_cl c h_is_part hcl hr (L_cons (E_str c.hk) (L_cons (E_ix (ix_sub c.hk (hu1 hr)) (E_nm c.hk 0) (E_int c.hk) (by intro _ _; rfl)) L_nil))))))).t (Ss_one (S_ret (E_bl c.hk))) Ss_nil)
    (Ss_cons (S_if (Tw_or (T_not (T_tru (E_isi T.f_isinstance T.f_str (E_ix (ix_sub c.hk (hu1 hr)) (E_nm c.hk 0) (E_int c.hk) (by intro _ _; rfl))))) (Tw_or1 (T_ninT t_KINDS (E_ix (ix_sub c.hk (hu1 hr)) (E_nm c.hk 0) (E_int c.hk) (by intro _ _; rfl))))).t (Ss_one (S_ret (E_bl c.hk))) Ss_nil)
    (Ss_cons (S_set c rfl (by first | exact Or.inl rfl | exact Or.inr rfl) (E_split c.hk (E_ixT t_KINDS (E_ix (ix_sub c.hk (hu1 hr)) (E_nm c.hk 0) (E_int c.hk) (by intro _ _; rfl)) (by intro _ _; rfl)) (E_str c.hk)))
    (Ss_one (S_ret (E_and (E_cmp (op_deq c.hk (hu70 hr)) (E_callB c.hk (cr_lenD c.hk) (by rfl) T.f_len (by rfl) (L_cons (E_nm c.hk 0) L_nil)) (E_bin (op_addD c.hk) (E_int c.hk) (E_callB c.hk (cr_lenD c.hk) (by rfl) T.f_len (by rfl) (L_cons (E_nm c.hk 1) L_nil))) (by rfl)) (E_one (E_callB c.hk (cr_allD c.calm) (by rfl) T.f_all (by rfl) (L_cons (E_lc c (IT_zip2 c.hk T.f_zip (L_cons (E_nm c.hk 1) (L_cons (E_slLo (E_nm c.hk 0) (E_int c.hk)) L_nil))) (blkOk_by (N := ["event", "parts", "part", "value"]) (sc := defScope st_is_event) (own := [("part", 2), ("value", 3)]) (by decide +kernel)) (by decide) (fun s H C cl fp => (Tg_tup (c.blk s H _ _ fp).hk (c.blk s H _ _ fp).calm (Tgs_cons (Tg_nm (c.blk s H _ _ fp).nd rfl (by first | exact Or.inl rfl | exact Or.inr rfl)) (Tgs_cons (Tg_nm (c.blk s H _ _ fp).nd rfl (by first | exact Or.inl rfl | exact Or.inr rfl)) Tgs_nil)))) (fun s H C cl fp => Ts_nil) (fun s H C cl fp => (E_cl (c.blk s H _ _ fp) h_is_part hcl hr (L_cons (E_nm (c.blk s H _ _ fp).hk 2) (L_cons (E_nm (c.blk s H _ _ fp).hk 3) L_nil))))) L_nil))))))))))

/-! ### text_of -/
abbrev st_text_of : Stmt := top 18
noncomputable def sem_text_of : M Fl := (sSeq (sAsg 1 (sMake gLst (sCons (sOp subscD (sNm 0) (sV (.int 0))) (sCons (sCall gStr2 (sCons (sOp subscD (sNm 0) (sV (.int 1))) sNil)) (sCons (sOp subscD (sNm 0) (sV (.int 2))) sNil)))))
    (sSeq (sFor (iSeq (sSlLo (sNm 0) (sV (.int 3)))) (tNm 2) (sExpr (mutL 1 gApp (sCons (sIf (sTru (sIsi ["tuple"] (sNm 2))) (sM1 gJoin (sV (.str ",")) (sNm 2)) (sCall gStr2 (sCons (sNm 2) sNil))) sNil))))
    (sRet (sM1 gJoin (sV (.str " ")) (sNm 1)))))
noncomputable def Fn_text_of : List D → FR := runF 3 [false] sem_text_of
theorem sc_text_of : FnScope ["event", "parts", "part"] ["event"] (defScope st_text_of) := ⟨rfl, rfl, rfl, by decide +kernel, rfl, by decide +kernel, by decide +kernel⟩
theorem ok_text_of {f : Addr} {fd : FuncData} (F : FunD K "text_of" "text_of" (defArgs st_text_of) (defBody st_text_of) (defScope st_text_of) [] [] f fd) (T : TopF mg)  :
    FnOk P w K mg base (L2.CX P w) 1 f fd ["event"] (spD br K [false] Fn_text_of) := FnD (k := 0) F sc_text_of rfl fun cdv A outer s H E z W hcode hcl hr c =>
    (Ss_cons (S_set c rfl (by first | exact Or.inl rfl | exact Or.inr rfl) (E_lst c.hk (L_cons (E_ix (ix_sub c.hk (hu1 hr)) (E_nm c.hk 0) (E_int c.hk) (by intro _ _; rfl)) (L_cons (E_callT c.hk cr_strD2 (by rfl) T.f_str (by rfl) (L_cons (E_ix (ix_sub c.hk (hu1 hr)) (E_nm c.hk 0) (E_int c.hk) (by intro _ _; rfl)) L_nil)) (L_cons (E_ix (ix_sub c.hk (hu1 hr)) (E_nm c.hk 0) (E_int c.hk) (by intro _ _; rfl)) L_nil)))))
    (Ss_cons (S_for c (IT_seq (E_slLo (E_nm c.hk 0) (E_int c.hk))) (Tg_nm c.nd rfl (by first | exact Or.inl rfl | exact Or.inr rfl)) (Ss_one (S_expr (E_append c.hk 1 (L_cons (E_if (T_tru (E_isi T.f_isinstance T.f_tuple (E_nm c.hk 2))) (E_join c.hk (E_str c.hk) (E_nm c.hk 2)) (E_callT c.hk cr_strD2 (by rfl) T.f_str (by rfl) (L_cons (E_nm c.hk 2) L_nil))) L_nil)))))
    (Ss_one (S_ret (E_join c.hk (E_str c.hk) (E_nm c.hk 1))))))

/-! ### line_of -/
abbrev st_line_of : Stmt := top 19
noncomputable def sem_line_of : M Fl := (sSeq (sIfS (sNot (sTru (callM [false] Fn_is_event (sCons (sNm 0) sNil)))) (sRaise 0 "invalid event: " (sV (.str "form"))) sNext)
    (sRet (callM [false] Fn_text_of (sCons (sNm 0) sNil))))
noncomputable def Fn_line_of : List D → FR := runF 1 [false] sem_line_of
theorem sc_line_of : FnScope ["event"] ["event"] (defScope st_line_of) := ⟨rfl, rfl, rfl, by decide +kernel, rfl, by decide +kernel, by decide +kernel⟩
theorem ok_line_of {f : Addr} {fd : FuncData} (F : FunD K "line_of" "line_of" (defArgs st_line_of) (defBody st_line_of) (defScope st_line_of) [] [] f fd) (T : TopF mg) (h_is_event : Cl P w K mg base br "is_event" ["event"] [false] 3 Fn_is_event) (h_text_of : Cl P w K mg base br "text_of" ["event"] [false] 1 Fn_text_of) (e_InvalidEvent : ErrC P w K mg base br 0 "InvalidEvent" "invalid event: ") :
    FnOk P w K mg base (L2.CX P w) 4 f fd ["event"] (spD br K [false] Fn_line_of) := FnD (k := 3) F sc_line_of rfl fun cdv A outer s H E z W hcode hcl hr c =>
    (Ss_cons (S_if (T_not (T_tru (E_cl c h_is_event hcl hr (L_cons (E_nm c.hk 0) L_nil)))) (Ss_one (S_raise c e_InvalidEvent hcl (hr.mono (by decide)) (E_str c.hk))) Ss_nil)
    (Ss_one (S_ret (E_cl c h_text_of hcl hr (L_cons (E_nm c.hk 0) L_nil)))))

/-! ### in_order -/
abbrev st_in_order : Stmt := top 13
noncomputable def sem_in_order : M Fl := (sSeq (sIfS (sTru (sLc [2] (iSeq (sNm 0)) (tNm 2) (sNot (sTru (callM [false] Fn_is_event (sCons (sNm 2) sNil)))) (sNm 2))) (sRaise 0 "invalid event: " (sV (.str "form"))) sNext)
    (sSeq (sAsg 1 sNewK)
    (sSeq (sFor (iSeq (sNm 0)) (tNm 2) (sIfS (sCmpT dne (sSetd 1 (sOp subscD (sNm 2) (sV (.int 0))) (sNm 2)) (sNm 2)) (sRaise 0 "invalid event: " (sV (.str "ids"))) sNext))
    (sSeq (sIfS (sCmpT gtD (sCall gLen (sCons (sNm 1) sNil)) (sV (.int 2000))) (sRaise 1 "too many " (sV (.str "events"))) sNext)
    (sRet (sSortL 1 [] (sMake gTup (sCons (sOp subscD (sNm 0) (sV (.int 1))) (sCons (sOp subscD (sNm 0) (sV (.int 0))) sNil))) (sVals (sNm 1))))))))
noncomputable def Fn_in_order : List D → FR := runF 3 [false] sem_in_order
theorem sc_in_order : FnScope ["book", "known", "event"] ["book"] (defScope st_in_order) := ⟨rfl, rfl, rfl, by decide +kernel, rfl, by decide +kernel, by decide +kernel⟩
theorem ok_in_order {f : Addr} {fd : FuncData} (F : FunD K "in_order" "in_order" (defArgs st_in_order) (defBody st_in_order) (defScope st_in_order) [] [] f fd) (T : TopF mg) (h_is_event : Cl P w K mg base br "is_event" ["event"] [false] 3 Fn_is_event) (e_InvalidEvent : ErrC P w K mg base br 0 "InvalidEvent" "invalid event: ") (e_TooMany : ErrC P w K mg base br 1 "TooMany" "too many ") {cc PT : Addr} (TB : TabB base mg cc PT) (hTc : fd.code = .ref cc) (hTT : (PT, ("in_order" : Str) ++ ".<locals>." ++ "<lambda>") ∈ br.T) :
    FnOk P w K mg base (L2.CX P w) 4 f fd ["book"] (spD br K [false] Fn_in_order) := FnD (k := 3) F sc_in_order rfl fun cdv A outer s H E z W hcode hcl hr c =>
    (Ss_cons (S_if (T_tru (E_lc c (IT_seq (E_nm c.hk 0)) (blkOk_by (N := ["book", "known", "event"]) (sc := defScope st_in_order) (own := [("event", 2)]) (by decide +kernel)) (by decide) (fun s H C cl fp => (Tg_nm (c.blk s H _ _ fp).nd rfl (by first | exact Or.inl rfl | exact Or.inr rfl))) (fun s H C cl fp => (Ts_one (T_not (T_tru (E_cl (c.blk s H _ _ fp) h_is_event hcl hr (L_cons (E_nm (c.blk s H _ _ fp).hk 2) L_nil)))))) (fun s H C cl fp => (E_nm (c.blk s H _ _ fp).hk 2)))) (Ss_one (S_raise c e_InvalidEvent hcl (hr.mono (by decide)) (E_str c.hk))) Ss_nil)
    (Ss_cons (S_set c rfl (by first | exact Or.inl rfl | exact Or.inr rfl) (E_newK c.hk))
    (Ss_cons (S_for c (IT_seq (E_nm c.hk 0)) (Tg_nm c.nd rfl (by first | exact Or.inl rfl | exact Or.inr rfl)) (Ss_one (S_if (T_cmp (op_dne c.hk (hu70 hr)) (E_setd 1 (E_ix (ix_sub c.hk (hu1 hr)) (E_nm c.hk 2) (E_int c.hk) (by intro _ _; rfl)) (E_nm c.hk 2) ⟨by rfl, by rfl, by rfl, by rfl⟩) (E_nm c.hk 2) (by rfl)) (Ss_one (S_raise c e_InvalidEvent hcl (hr.mono (by decide)) (E_str c.hk))) Ss_nil)))
    (Ss_cons (S_if (T_cmp op_gtD (E_callB c.hk (cr_lenD c.hk) (by rfl) T.f_len (by rfl) (L_cons (E_nm c.hk 1) L_nil)) (E_gintX c.hk T.g_MOST_EVENTS) (by rfl)) (Ss_one (S_raise c e_TooMany hcl (hr.mono (by decide)) (E_str c.hk))) Ss_nil)
    (Ss_one (S_ret (E_sortLV (k := 0) (N := ["event"]) (fr := []) (xp := "event") (js := []) (n := 1) c.calm (E_nm c.hk 1) TB (hcode.symm.trans hTc) (by rw [hcl]; exact hTT) T.f_sorted (hr.mono (by decide)) (nscope_by (by decide +kernel)) rfl rfl (capS_by (sc := defScope st_in_order) (by decide +kernel)) (by decide +kernel) (fun c1 f1 A1 outer1 s1 H1 z1 hz1 hrL ct => have hclL := hz1.trans hcl; (E_tup ct.hk (L_cons (E_ix (ix_sub ct.hk (hu1 hrL)) (E_nm ct.hk 0) (E_int ct.hk) (by intro _ _; rfl)) (L_cons (E_ix (ix_sub ct.hk (hu1 hrL)) (E_nm ct.hk 0) (E_int ct.hk) (by intro _ _; rfl)) L_nil)))))))))))

/-! ### value_of -/
abbrev st_value_of : Stmt := top 20
noncomputable def sem_value_of : M Fl := (sSeq (sAsg 1 (sV (.int 0)))
    (sSeq (sFor (iSeq (callM [false] Fn_text_of (sCons (sNm 0) sNil))) (tNm 2) (sAsg 1 (sOp modD (sOp addD (sOp mulD (sNm 1) (sV (.int 257))) (sCall gOrd (sCons (sNm 2) sNil))) (sV (.int 2305843009213693951)))))
    (sRet (sNm 1))))
noncomputable def Fn_value_of : List D → FR := runF 3 [false] sem_value_of
theorem sc_value_of : FnScope ["event", "found", "sign"] ["event"] (defScope st_value_of) := ⟨rfl, rfl, rfl, by decide +kernel, rfl, by decide +kernel, by decide +kernel⟩
theorem ok_value_of {f : Addr} {fd : FuncData} (F : FunD K "value_of" "value_of" (defArgs st_value_of) (defBody st_value_of) (defScope st_value_of) [] [] f fd) (T : TopF mg) (h_text_of : Cl P w K mg base br "text_of" ["event"] [false] 1 Fn_text_of) :
    FnOk P w K mg base (L2.CX P w) 2 f fd ["event"] (spD br K [false] Fn_value_of) := FnD (k := 1) F sc_value_of rfl fun cdv A outer s H E z W hcode hcl hr c =>
    (Ss_cons (S_set c rfl (by first | exact Or.inl rfl | exact Or.inr rfl) (E_int c.hk))
    (Ss_cons (S_for c (IT_seq (E_cl c h_text_of hcl hr (L_cons (E_nm c.hk 0) L_nil))) (Tg_nm c.nd rfl (by first | exact Or.inl rfl | exact Or.inr rfl)) (Ss_one (S_set c rfl (by first | exact Or.inl rfl | exact Or.inr rfl) (E_bin op_modD (E_bin (op_addD c.hk) (E_bin op_mulD (E_nm c.hk 1) (E_gintX c.hk T.g_SIGN_FACTOR)) (E_callB c.hk cr_ordD (by rfl) T.f_ord (by rfl) (L_cons (E_nm c.hk 2) L_nil))) (E_gintX c.hk T.g_MODULUS)))))
    (Ss_one (S_ret (E_nm c.hk 1)))))

/-! ### seal -/
abbrev st_seal : Stmt := top 21
noncomputable def sem_seal : M Fl := (sSeq (sAsg 1 (sMake gLst sNil))
    (sSeq (sAsg 2 (sV (.int 1)))
    (sSeq (sFor (iSeq (callM [false] Fn_in_order (sCons (sNm 0) sNil))) (tNm 3) (sSeq (sAsg 2 (sOp modD (sOp addD (sOp mulD (sNm 2) (sV (.int 1000003))) (callM [false] Fn_value_of (sCons (sNm 3) sNil))) (sV (.int 2305843009213693951))))
    (sExpr (mutL 1 gApp (sCons (sNm 2) sNil)))))
    (sRet (sNm 1)))))
noncomputable def Fn_seal : List D → FR := runF 4 [false] sem_seal
theorem sc_seal : FnScope ["book", "found", "here", "event"] ["book"] (defScope st_seal) := ⟨rfl, rfl, rfl, by decide +kernel, rfl, by decide +kernel, by decide +kernel⟩
theorem ok_seal {f : Addr} {fd : FuncData} (F : FunD K "seal" "seal" (defArgs st_seal) (defBody st_seal) (defScope st_seal) [] [] f fd) (T : TopF mg) (h_in_order : Cl P w K mg base br "in_order" ["book"] [false] 4 Fn_in_order) (h_value_of : Cl P w K mg base br "value_of" ["event"] [false] 2 Fn_value_of) :
    FnOk P w K mg base (L2.CX P w) 5 f fd ["book"] (spD br K [false] Fn_seal) := FnD (k := 4) F sc_seal rfl fun cdv A outer s H E z W hcode hcl hr c =>
    (Ss_cons (S_set c rfl (by first | exact Or.inl rfl | exact Or.inr rfl) (E_lst c.hk L_nil))
    (Ss_cons (S_set c rfl (by first | exact Or.inl rfl | exact Or.inr rfl) (E_int c.hk))
    (Ss_cons (S_for c (IT_seq (E_cl c h_in_order hcl hr (L_cons (E_nm c.hk 0) L_nil))) (Tg_nm c.nd rfl (by first | exact Or.inl rfl | exact Or.inr rfl)) (Ss_cons (S_set c rfl (by first | exact Or.inl rfl | exact Or.inr rfl) (E_bin op_modD (E_bin (op_addD c.hk) (E_bin op_mulD (E_nm c.hk 2) (E_gintX c.hk T.g_FACTOR)) (E_cl c h_value_of hcl hr (L_cons (E_nm c.hk 3) L_nil))) (E_gintX c.hk T.g_MODULUS)))
    (Ss_one (S_expr (E_append c.hk 1 (L_cons (E_nm c.hk 2) L_nil))))))
    (Ss_one (S_ret (E_nm c.hk 1))))))

/-! ### judge_seal -/
abbrev st_judge_seal : Stmt := top 22
noncomputable def sem_judge_seal : M Fl := (sRet (sOp (toB deq) (callM [false] Fn_seal (sCons (sNm 0) sNil)) (sCall gList (sCons (sNm 1) sNil))))
noncomputable def Fn_judge_seal : List D → FR := runF 2 [false, false] sem_judge_seal
theorem sc_judge_seal : FnScope ["book", "numbers"] ["book", "numbers"] (defScope st_judge_seal) := ⟨rfl, rfl, rfl, by decide +kernel, rfl, by decide +kernel, by decide +kernel⟩
theorem ok_judge_seal {f : Addr} {fd : FuncData} (F : FunD K "judge_seal" "judge_seal" (defArgs st_judge_seal) (defBody st_judge_seal) (defScope st_judge_seal) [] [] f fd) (T : TopF mg) (h_seal : Cl P w K mg base br "seal" ["book"] [false] 5 Fn_seal) :
    FnOk P w K mg base (L2.CX P w) 6 f fd ["book", "numbers"] (spD br K [false, false] Fn_judge_seal) := FnD (k := 5) F sc_judge_seal rfl fun cdv A outer s H E z W hcode hcl hr c =>
    (Ss_one (S_ret (E_cmp (op_deq c.hk (hu70 hr)) (E_cl c h_seal hcl hr (L_cons (E_nm c.hk 0) L_nil)) (E_callT c.hk (cr_listD c.hk c.calm) (by rfl) T.f_list (by rfl) (L_cons (E_nm c.hk 1) L_nil)) (by rfl))))

/-! ### first_difference -/
abbrev st_first_difference : Stmt := top 23
noncomputable def sem_first_difference : M Fl := (sSeq (sAsg 2 (callM [false] Fn_seal (sCons (sNm 0) sNil)))
    (sSeq (sAsg 3 (callM [false] Fn_seal (sCons (sNm 1) sNil)))
    (sSeq (sFor (iRng fRng1 (sCons (sCall gMin (sCons (sCall gLen (sCons (sNm 2) sNil)) (sCons (sCall gLen (sCons (sNm 3) sNil)) sNil))) sNil)) (tNm 4) (sIfS (sCmpT dne (sOp subscD (sNm 2) (sNm 4)) (sOp subscD (sNm 3) (sNm 4))) (sRet (sNm 4)) sNext))
    (sRet (sIf (sCmpT deq (sCall gLen (sCons (sNm 2) sNil)) (sCall gLen (sCons (sNm 3) sNil))) (sV .non) (sCall gMin (sCons (sCall gLen (sCons (sNm 2) sNil)) (sCons (sCall gLen (sCons (sNm 3) sNil)) sNil))))))))
noncomputable def Fn_first_difference : List D → FR := runF 5 [false, false] sem_first_difference
theorem sc_first_difference : FnScope ["first", "second", "one", "two", "at"] ["first", "second"] (defScope st_first_difference) := ⟨rfl, rfl, rfl, by decide +kernel, rfl, by decide +kernel, by decide +kernel⟩
theorem ok_first_difference {f : Addr} {fd : FuncData} (F : FunD K "first_difference" "first_difference" (defArgs st_first_difference) (defBody st_first_difference) (defScope st_first_difference) [] [] f fd) (T : TopF mg) (h_seal : Cl P w K mg base br "seal" ["book"] [false] 5 Fn_seal) :
    FnOk P w K mg base (L2.CX P w) 6 f fd ["first", "second"] (spD br K [false, false] Fn_first_difference) := FnD (k := 5) F sc_first_difference rfl fun cdv A outer s H E z W hcode hcl hr c =>
    (Ss_cons (S_set c rfl (by first | exact Or.inl rfl | exact Or.inr rfl) (E_cl c h_seal hcl hr (L_cons (E_nm c.hk 0) L_nil)))
    (Ss_cons (S_set c rfl (by first | exact Or.inl rfl | exact Or.inr rfl) (E_cl c h_seal hcl hr (L_cons (E_nm c.hk 1) L_nil)))
    (Ss_cons (S_for c (IT_range1 (by rfl) T.f_range (L_cons (E_callB c.hk (cr_minD c.calm) (by rfl) T.f_min (by rfl) (L_cons (E_callB c.hk (cr_lenD c.hk) (by rfl) T.f_len (by rfl) (L_cons (E_nm c.hk 2) L_nil)) (L_cons (E_callB c.hk (cr_lenD c.hk) (by rfl) T.f_len (by rfl) (L_cons (E_nm c.hk 3) L_nil)) L_nil))) L_nil)) (Tg_nm c.nd rfl (by first | exact Or.inl rfl | exact Or.inr rfl)) (Ss_one (S_if (T_cmp (op_dne c.hk (hu70 hr)) (E_ix (ix_sub c.hk (hu1 hr)) (E_nm c.hk 2) (E_nm c.hk 4) (by intro _ _; rfl)) (E_ix (ix_sub c.hk (hu1 hr)) (E_nm c.hk 3) (E_nm c.hk 4) (by intro _ _; rfl)) (by rfl)) (Ss_one (S_ret (E_nm c.hk 4))) Ss_nil)))
    (Ss_one (S_ret (E_if (T_cmp (op_deq c.hk (hu70 hr)) (E_callB c.hk (cr_lenD c.hk) (by rfl) T.f_len (by rfl) (L_cons (E_nm c.hk 2) L_nil)) (E_callB c.hk (cr_lenD c.hk) (by rfl) T.f_len (by rfl) (L_cons (E_nm c.hk 3) L_nil)) (by rfl)) (E_non c.hk) (E_callB c.hk (cr_minD c.calm) (by rfl) T.f_min (by rfl) (L_cons (E_callB c.hk (cr_lenD c.hk) (by rfl) T.f_len (by rfl) (L_cons (E_nm c.hk 2) L_nil)) (L_cons (E_callB c.hk (cr_lenD c.hk) (by rfl) T.f_len (by rfl) (L_cons (E_nm c.hk 3) L_nil)) L_nil)))))))))

/-! ### _law_deck -/
abbrev st__law_deck : Stmt := top 25
noncomputable def sem__law_deck : M Fl := (sSeq (sAsg 3 (sMake gLst sNil))
    (sSeq (sAsg 4 (sOp addD (sV (.int 7)) (sCall gLen (sCons (sNm 0) sNil))))
    (sSeq (sFor (iRng fRng1 (sCons (sNm 1) sNil)) (tNm 5) (sSeq (sAsg 6 (sV (.int 0)))
    (sSeq (sIfS (sCmpT ltD (sNm 5) (sCall gLen (sCons (sNm 0) sNil))) (sAsg 6 (sOp subscD (sNm 0) (sNm 5))) sNext)
    (sSeq (sAsg 7 (sCall gAbs (sCons (sNm 6) sNil)))
    (sIfS (sCmpT geD (sNm 7) (sOp powD (sV (.int 10)) (sV (.int 30)))) (sFor (iRng fRng1 (sCons (sNm 2) sNil)) (tNm 8) (sSeq (sExpr (mutL 3 gApp (sCons (sOp modD (sCall gInt (sCons (sNm 7) sNil)) (sV (.int 1000003))) sNil)))
    (sAsg 7 (sOp fdivD (sNm 7) (sV (.int 1000003)))))) (sSeq (sAsg 4 (sOp modD (sCall gInt (sCons (sOp addD (sOp addD (sOp addD (sOp mulD (sNm 4) (sV (.int 48271))) (sOp mulD (sV (.int 2)) (sNm 7))) (sCall gInt (sCons (sOp (toB ltD) (sNm 6) (sV (.int 0))) sNil))) (sNm 5)) sNil)) (sV (.int 2147483647))))
    (sFor (iRng fRng1 (sCons (sNm 2) sNil)) (tNm 8) (sSeq (sAsg 4 (sOp modD (sCall gInt (sCons (sOp addD (sOp addD (sOp mulD (sNm 4) (sV (.int 69621))) (sNm 8)) (sV (.int 1))) sNil)) (sV (.int 2147483629))))
    (sExpr (mutL 3 gApp (sCons (sOp modD (sCall gInt (sCons (sOp fdivD (sNm 4) (sV (.int 5))) sNil)) (sV (.int 1000003))) sNil)))))))))))
    (sSeq (sExpr (mutL 3 gRev sNil))
    (sRet (sNm 3))))))
noncomputable def Fn__law_deck : List D → FR := runF 9 [false, false, false] sem__law_deck
theorem sc__law_deck : FnScope ["script", "cells", "each", "deck", "seed", "k", "cell", "rest", "at"] ["script", "cells", "each"] (defScope st__law_deck) := ⟨rfl, rfl, rfl, by decide +kernel, rfl, by decide +kernel, by decide +kernel⟩
theorem ok__law_deck {f : Addr} {fd : FuncData} (F : FunD K "_law_deck" "_law_deck" (defArgs st__law_deck) (defBody st__law_deck) (defScope st__law_deck) [] [] f fd) (T : TopF mg)  :
    FnOk P w K mg base (L2.CX P w) 1 f fd ["script", "cells", "each"] (spD br K [false, false, false] Fn__law_deck) := FnD (k := 0) F sc__law_deck rfl fun cdv A outer s H E z W hcode hcl hr c =>
    (Ss_cons (S_set c rfl (by first | exact Or.inl rfl | exact Or.inr rfl) (E_lst c.hk L_nil))
    (Ss_cons (S_set c rfl (by first | exact Or.inl rfl | exact Or.inr rfl) (E_bin (op_addD c.hk) (E_int c.hk) (E_callB c.hk (cr_lenD c.hk) (by rfl) T.f_len (by rfl) (L_cons (E_nm c.hk 0) L_nil))))
    (Ss_cons (S_for c (IT_range1 (by rfl) T.f_range (L_cons (E_nm c.hk 1) L_nil)) (Tg_nm c.nd rfl (by first | exact Or.inl rfl | exact Or.inr rfl)) (Ss_cons (S_set c rfl (by first | exact Or.inl rfl | exact Or.inr rfl) (E_int c.hk))
    (Ss_cons (S_if (T_cmp op_ltD (E_nm c.hk 5) (E_callB c.hk (cr_lenD c.hk) (by rfl) T.f_len (by rfl) (L_cons (E_nm c.hk 0) L_nil)) (by rfl)) (Ss_one (S_set c rfl (by first | exact Or.inl rfl | exact Or.inr rfl) (E_ix (ix_sub c.hk (hu1 hr)) (E_nm c.hk 0) (E_nm c.hk 5) (by intro _ _; rfl)))) Ss_nil)
    (Ss_cons (S_set c rfl (by first | exact Or.inl rfl | exact Or.inr rfl) (E_callB c.hk cr_absD (by rfl) T.f_abs (by rfl) (L_cons (E_nm c.hk 6) L_nil)))
    (Ss_one (S_if (T_cmp op_geD (E_nm c.hk 7) (E_bin op_powD (E_int c.hk) (E_int c.hk)) (by rfl)) (Ss_one (S_for c (IT_range1 (by rfl) T.f_range (L_cons (E_nm c.hk 2) L_nil)) (Tg_nm c.nd rfl (by first | exact Or.inl rfl | exact Or.inr rfl)) (Ss_cons (S_expr (E_append c.hk 3 (L_cons (E_bin op_modD (E_callT c.hk cr_intD (by rfl) T.f_int (by rfl) (L_cons (E_nm c.hk 7) L_nil)) (E_int c.hk)) L_nil)))
    (Ss_one (S_set c rfl (by first | exact Or.inl rfl | exact Or.inr rfl) (E_bin op_fdivD (E_nm c.hk 7) (E_int c.hk))))))) (Ss_cons (S_set c rfl (by first | exact Or.inl rfl | exact Or.inr rfl) (E_bin op_modD (E_callT c.hk cr_intD (by rfl) T.f_int (by rfl) (L_cons (E_bin (op_addD c.hk) (E_bin (op_addD c.hk) (E_bin (op_addD c.hk) (E_bin op_mulD (E_nm c.hk 4) (E_int c.hk)) (E_bin op_mulD (E_int c.hk) (E_nm c.hk 7))) (E_callT c.hk cr_intD (by rfl) T.f_int (by rfl) (L_cons (E_cmp op_ltD (E_nm c.hk 6) (E_int c.hk) (by rfl)) L_nil))) (E_nm c.hk 5)) L_nil)) (E_int c.hk)))
    (Ss_one (S_for c (IT_range1 (by rfl) T.f_range (L_cons (E_nm c.hk 2) L_nil)) (Tg_nm c.nd rfl (by first | exact Or.inl rfl | exact Or.inr rfl)) (Ss_cons (S_set c rfl (by first | exact Or.inl rfl | exact Or.inr rfl) (E_bin op_modD (E_callT c.hk cr_intD (by rfl) T.f_int (by rfl) (L_cons (E_bin (op_addD c.hk) (E_bin (op_addD c.hk) (E_bin op_mulD (E_nm c.hk 4) (E_int c.hk)) (E_nm c.hk 8)) (E_int c.hk)) L_nil)) (E_int c.hk)))
    (Ss_one (S_expr (E_append c.hk 3 (L_cons (E_bin op_modD (E_callT c.hk cr_intD (by rfl) T.f_int (by rfl) (L_cons (E_bin op_fdivD (E_nm c.hk 4) (E_int c.hk)) L_nil)) (E_int c.hk)) L_nil))))))))))))))
    (Ss_cons (S_expr (E_reverse c.hk 3))
    (Ss_one (S_ret (E_nm c.hk 3)))))))

/-! ### _law_take -/
abbrev st__law_take : Stmt := top 26
noncomputable def sem__law_take : M Fl := (sSeq (sIfS (sCmpT deq (sCall gLen (sCons (sNm 0) sNil)) (sV (.int 0))) (sRet (sV (.int 0))) sNext)
    (sRet (sOp modD (sCall gInt (sCons (mutL 0 gPop sNil) sNil)) (sNm 1))))
noncomputable def Fn__law_take : List D → FR := runF 2 [true, false] sem__law_take
theorem sc__law_take : FnScope ["deck", "many"] ["deck", "many"] (defScope st__law_take) := ⟨rfl, rfl, rfl, by decide +kernel, rfl, by decide +kernel, by decide +kernel⟩
theorem ok__law_take {f : Addr} {fd : FuncData} (F : FunD K "_law_take" "_law_take" (defArgs st__law_take) (defBody st__law_take) (defScope st__law_take) [] [] f fd) (T : TopF mg)  :
    FnOk P w K mg base (L2.CX P w) 1 f fd ["deck", "many"] (spD br K [true, false] Fn__law_take) := FnD (k := 0) F sc__law_take rfl fun cdv A outer s H E z W hcode hcl hr c =>
    (Ss_cons (S_if (T_cmp (op_deq c.hk (hu70 hr)) (E_callB c.hk (cr_lenD c.hk) (by rfl) T.f_len (by rfl) (L_cons (E_nm c.hk 0) L_nil)) (E_int c.hk) (by rfl)) (Ss_one (S_ret (E_int c.hk))) Ss_nil)
    (Ss_one (S_ret (E_bin op_modD (E_callT c.hk cr_intD (by rfl) T.f_int (by rfl) (L_cons (E_pop c.hk 0) L_nil)) (E_nm c.hk 1)))))

/-! ### _law_plain -/
abbrev st__law_plain : Stmt := top 27
noncomputable def sem__law_plain (Fr : List D → FR) : M Fl := (sSeq (sIfS (sTru (sIsi ["tuple", "list"] (sNm 0))) (sRet (sOp addD (sMake gLst (sCons (sIsi ["list"] (sNm 0)) sNil)) (sLc [1] (iSeq (sNm 0)) (tNm 1) sYes (callM [false] Fr (sCons (sNm 1) sNil))))) sNext)
    (sSeq (sIfS (sOr (sCmpT (isD false) (sNm 0) (sV .non)) (sTru (sIsi ["bool"] (sNm 0)))) (sRet (sOp subscD (sMake gLst (sCons (sV (.str "None")) (sCons (sV (.str "False")) (sCons (sV (.str "True")) sNil)))) (sOp addD (sCall gInt (sCons (sOp (toB (isD true)) (sNm 0) (sV .non)) sNil)) (sCall gInt (sCons (sOp (toB (isD false)) (sNm 0) (sV (.bl true))) sNil))))) sNext)
    (sSeq (sIfS (sTru (sIsi ["int", "str"] (sNm 0))) (sRet (sMake gLst (sCons (sIsi ["str"] (sNm 0)) (sCons (sNm 0) sNil)))) sNext)
    (sRet (sV (.str "another"))))))
noncomputable def Fn__law_plain : Nat → List D → FR
  | 0 => fun _ => .no
  | n + 1 => runF 2 [false] (sem__law_plain (Fn__law_plain n))
theorem sc__law_plain : FnScope ["value", "item"] ["value"] (defScope st__law_plain) := ⟨rfl, rfl, rfl, by decide +kernel, rfl, by decide +kernel, by decide +kernel⟩
theorem ok__law_plain {f : Addr} {fd : FuncData} (F : FunD K "_law_plain" "_law_plain" (defArgs st__law_plain) (defBody st__law_plain) (defScope st__law_plain) [] [] f fd) (T : TopF mg) {n : Nat} {Fr : List D → FR} (h__law_plain : Cl P w K mg base br "_law_plain" ["value"] [false] (n + 0) Fr)  :
    FnOk P w K mg base (L2.CX P w) (n + 0 + 1) f fd ["value"] (spD br K [false] (runF 2 [false] (sem__law_plain Fr))) := FnD (k := n + 0) F sc__law_plain rfl fun cdv A outer s H E z W hcode hcl hr c =>
    (Ss_cons (S_if (T_tru (E_isi2 T.f_isinstance T.f_tuple T.f_list (E_nm c.hk 0))) (Ss_one (S_ret (E_bin (op_addD c.hk) (E_lst c.hk (L_cons (E_isi T.f_isinstance T.f_list (E_nm c.hk 0)) L_nil)) (E_lc c (IT_seq (E_nm c.hk 0)) (blkOk_by (N := ["value", "item"]) (sc := defScope st__law_plain) (own := [("item", 1)]) (by decide +kernel)) (by decide) (fun s H C cl fp => (Tg_nm (c.blk s H _ _ fp).nd rfl (by first | exact Or.inl rfl | exact Or.inr rfl))) (fun s H C cl fp => Ts_nil) (fun s H C cl fp => (E_cl (c.blk s H _ _ fp) h__law_plain hcl hr (L_cons (E_nm (c.blk s H _ _ fp).hk 1) L_nil) (hj := by omega))))))) Ss_nil)
    (Ss_cons (S_if (Tw_or (T_cmp op_isD (E_nm c.hk 0) (E_non c.hk) (by rfl)) (Tw_or1 (T_tru (E_isi T.f_isinstance T.f_bool (E_nm c.hk 0))))).t (Ss_one (S_ret (E_ix (ix_sub c.hk (hu1 hr)) (E_lst c.hk (L_cons (E_str c.hk) (L_cons (E_str c.hk) (L_cons (E_str c.hk) L_nil)))) (E_bin (op_addD c.hk) (E_callT c.hk cr_intD (by rfl) T.f_int (by rfl) (L_cons (E_cmp op_isnotD (E_nm c.hk 0) (E_non c.hk) (by rfl)) L_nil)) (E_callT c.hk cr_intD (by rfl) T.f_int (by rfl) (L_cons (E_cmp op_isD (E_nm c.hk 0) (E_bl c.hk) (by rfl)) L_nil))) (by intro _ _; rfl)))) Ss_nil)
    (Ss_cons (S_if (T_tru (E_isi2 T.f_isinstance T.f_int T.f_str (E_nm c.hk 0))) (Ss_one (S_ret (E_lst c.hk (L_cons (E_isi T.f_isinstance T.f_str (E_nm c.hk 0)) (L_cons (E_nm c.hk 0) L_nil))))) Ss_nil)
    (Ss_one (S_ret (E_str c.hk))))))

/-! ### _law_event -/
abbrev st__law_event : Stmt := top 28
noncomputable def sem__law_event : M Fl := (sSeq (sAsg 2 (sMake gLst (sCons (sV (.str "slot")) (sCons (sV (.str "slot")) (sCons (sV (.str "order")) (sCons (sV (.str "order")) (sCons (sV (.str "order")) (sCons (sV (.str "order")) (sCons (sV (.str "places")) (sCons (sV (.str "wish")) (sCons (sV (.str "cancel")) (sCons (sV (.str "note")) sNil))))))))))))
    (sSeq (sAsg 3 (sOp subscD (sNm 2) (callM [true, false] Fn__law_take (sCons (sNm 0) (sCons (sV (.int 10)) sNil)))))
    (sSeq (sAsg 4 (sOp addD (sIf (sCmpT memD (sNm 3) (sMake gTup (sCons (sV (.str "slot")) (sCons (sV (.str "places")) sNil)))) (sV (.str "s")) (sV (.str "o"))) (sCall gStr (sCons (callM [true, false] Fn__law_take (sCons (sNm 0) (sCons (sV (.int 5)) sNil))) sNil))))
    (sSeq (sAsg 5 (sMake gTup (sCons (sOp addD (sV (.str "e")) (sCall gStr (sCons (sNm 1) sNil))) (sCons (callM [true, false] Fn__law_take (sCons (sNm 0) (sCons (sV (.int 12)) sNil))) (sCons (sNm 3) sNil)))))
    (sSeq (sIfS (sCmpT memD (sNm 3) (sMake gTup (sCons (sV (.str "slot")) (sCons (sV (.str "places")) sNil)))) (sRet (sOp addD (sNm 5) (sMake gTup (sCons (sNm 4) (sCons (sOp subD (callM [true, false] Fn__law_take (sCons (sNm 0) (sCons (sV (.int 5)) sNil))) (sV (.int 1))) sNil))))) sNext)
    (sSeq (sIfS (sCmpT deq (sNm 3) (sV (.str "cancel"))) (sRet (sOp addD (sNm 5) (sMake gTup (sCons (sNm 4) sNil)))) sNext)
    (sSeq (sIfS (sCmpT deq (sNm 3) (sV (.str "note"))) (sRet (sOp addD (sNm 5) (sMake gTup (sCons (sV (.str "a note")) sNil)))) sNext)
    (sSeq (sAsg 6 (sCall gTuple (sCons (sLc [7] (iRng fRng1 (sCons (callM [true, false] Fn__law_take (sCons (sNm 0) (sCons (sV (.int 4)) sNil))) sNil)) (tNm 7) sYes (sOp addD (sV (.str "s")) (sCall gStr (sCons (callM [true, false] Fn__law_take (sCons (sNm 0) (sCons (sV (.int 5)) sNil))) sNil)))) sNil)))
    (sRet (sOp addD (sNm 5) (sMake gTup (sCons (sNm 4) (sCons (sNm 6) sNil)))))))))))))
noncomputable def Fn__law_event : List D → FR := runF 8 [true, false] sem__law_event
theorem sc__law_event : FnScope ["deck", "at", "kinds", "kind", "name", "key", "wishes", "turn"] ["deck", "at"] (defScope st__law_event) := ⟨rfl, rfl, rfl, by decide +kernel, rfl, by decide +kernel, by decide +kernel⟩
theorem ok__law_event {f : Addr} {fd : FuncData} (F : FunD K "_law_event" "_law_event" (defArgs st__law_event) (defBody st__law_event) (defScope st__law_event) [] [] f fd) (T : TopF mg) (h__law_take : Cl P w K mg base br "_law_take" ["deck", "many"] [true, false] 1 Fn__law_take) :
    FnOk P w K mg base (L2.CX P w) 2 f fd ["deck", "at"] (spD br K [true, false] Fn__law_event) := FnD (k := 1) F sc__law_event rfl fun cdv A outer s H E z W hcode hcl hr c =>
    (Ss_cons (S_set c rfl (by first | exact Or.inl rfl | exact Or.inr rfl) (E_lst c.hk (L_cons (E_str c.hk) (L_cons (E_str c.hk) (L_cons (E_str c.hk) (L_cons (E_str c.hk) (L_cons (E_str c.hk) (L_cons (E_str c.hk) (L_cons (E_str c.hk) (L_cons (E_str c.hk) (L_cons (E_str c.hk) (L_cons (E_str c.hk) L_nil))))))))))))
    (Ss_cons (S_set c rfl (by first | exact Or.inl rfl | exact Or.inr rfl) (E_ix (ix_sub c.hk (hu1 hr)) (E_nm c.hk 2) (E_cl c h__law_take hcl hr (L_cons (E_nm c.hk 0) (L_cons (E_int c.hk) L_nil))) (by intro _ _; rfl)))
    (Ss_cons (S_set c rfl (by first | exact Or.inl rfl | exact Or.inr rfl) (E_bin (op_addD c.hk) (E_if (T_cmp (op_memD c.hk (hu1 hr)) (E_nm c.hk 3) (E_tup c.hk (L_cons (E_str c.hk) (L_cons (E_str c.hk) L_nil))) (by rfl)) (E_str c.hk) (E_str c.hk)) (E_callT c.hk cr_strD (by rfl) T.f_str (by rfl) (L_cons (E_cl c h__law_take hcl hr (L_cons (E_nm c.hk 0) (L_cons (E_int c.hk) L_nil))) L_nil))))
    (Ss_cons (S_set c rfl (by first | exact Or.inl rfl | exact Or.inr rfl) (E_tup c.hk (L_cons (E_bin (op_addD c.hk) (E_str c.hk) (E_callT c.hk cr_strD (by rfl) T.f_str (by rfl) (L_cons (E_nm c.hk 1) L_nil))) (L_cons (E_cl c h__law_take hcl hr (L_cons (E_nm c.hk 0) (L_cons (E_int c.hk) L_nil))) (L_cons (E_nm c.hk 3) L_nil)))))
    (Ss_cons (S_if (T_cmp (op_memD c.hk (hu1 hr)) (E_nm c.hk 3) (E_tup c.hk (L_cons (E_str c.hk) (L_cons (E_str c.hk) L_nil))) (by rfl)) (Ss_one (S_ret (E_bin (op_addD c.hk) (E_nm c.hk 5) (E_tup c.hk (L_cons (E_nm c.hk 4) (L_cons (E_bin op_subD (E_cl c h__law_take hcl hr (L_cons (E_nm c.hk 0) (L_cons (E_int c.hk) L_nil))) (E_int c.hk)) L_nil)))))) Ss_nil)
    (Ss_cons (S_if (T_cmp (op_deq c.hk (hu70 hr)) (E_nm c.hk 3) (E_str c.hk) (by rfl)) (Ss_one (S_ret (E_bin (op_addD c.hk) (E_nm c.hk 5) (E_tup c.hk (L_cons (E_nm c.hk 4) L_nil))))) Ss_nil)
    (Ss_cons (S_if (T_cmp (op_deq c.hk (hu70 hr)) (E_nm c.hk 3) (E_str c.hk) (by rfl)) (Ss_one (S_ret (E_bin (op_addD c.hk) (E_nm c.hk 5) (E_tup c.hk (L_cons (E_str c.hk) L_nil))))) Ss_nil)
    (Ss_cons (S_set c rfl (by first | exact Or.inl rfl | exact Or.inr rfl) (E_callT c.hk (cr_tupleD c.hk) (by rfl) T.f_tuple (by rfl) (L_cons (E_lc c (IT_range1 (by rfl) T.f_range (L_cons (E_cl c h__law_take hcl hr (L_cons (E_nm c.hk 0) (L_cons (E_int c.hk) L_nil))) L_nil)) (blkOk_by (N := ["deck", "at", "kinds", "kind", "name", "key", "wishes", "turn"]) (sc := defScope st__law_event) (own := [("turn", 7)]) (by decide +kernel)) (by decide) (fun s H C cl fp => (Tg_nm (c.blk s H _ _ fp).nd rfl (by first | exact Or.inl rfl | exact Or.inr rfl))) (fun s H C cl fp => Ts_nil) (fun s H C cl fp => (E_bin (op_addD (c.blk s H _ _ fp).hk) (E_str (c.blk s H _ _ fp).hk) (E_callT (c.blk s H _ _ fp).hk cr_strD (by rfl) T.f_str (by rfl) (L_cons (E_cl (c.blk s H _ _ fp) h__law_take hcl hr (L_cons (E_nm (c.blk s H _ _ fp).hk 0) (L_cons (E_int (c.blk s H _ _ fp).hk) L_nil))) L_nil))))) L_nil)))
    (Ss_one (S_ret (E_bin (op_addD c.hk) (E_nm c.hk 5) (E_tup c.hk (L_cons (E_nm c.hk 4) (L_cons (E_nm c.hk 6) L_nil))))))))))))))

/-! ### _law_book -/
abbrev st__law_book : Stmt := top 29
noncomputable def sem__law_book : M Fl := (sRet (sLc [2] (iRng fRng1 (sCons (callM [true, false] Fn__law_take (sCons (sNm 0) (sCons (sOp addD (sNm 1) (sV (.int 1))) sNil))) sNil)) (tNm 2) sYes (callM [true, false] Fn__law_event (sCons (sNm 0) (sCons (sNm 2) sNil)))))
noncomputable def Fn__law_book : List D → FR := runF 3 [true, false] sem__law_book
theorem sc__law_book : FnScope ["deck", "most", "at"] ["deck", "most"] (defScope st__law_book) := ⟨rfl, rfl, rfl, by decide +kernel, rfl, by decide +kernel, by decide +kernel⟩
theorem ok__law_book {f : Addr} {fd : FuncData} (F : FunD K "_law_book" "_law_book" (defArgs st__law_book) (defBody st__law_book) (defScope st__law_book) [] [] f fd) (T : TopF mg) (h__law_take : Cl P w K mg base br "_law_take" ["deck", "many"] [true, false] 1 Fn__law_take) (h__law_event : Cl P w K mg base br "_law_event" ["deck", "at"] [true, false] 2 Fn__law_event) :
    FnOk P w K mg base (L2.CX P w) 3 f fd ["deck", "most"] (spD br K [true, false] Fn__law_book) := FnD (k := 2) F sc__law_book rfl fun cdv A outer s H E z W hcode hcl hr c =>
    (Ss_one (S_ret (E_lc c (IT_range1 (by rfl) T.f_range (L_cons (E_cl c h__law_take hcl hr (L_cons (E_nm c.hk 0) (L_cons (E_bin (op_addD c.hk) (E_nm c.hk 1) (E_int c.hk)) L_nil))) L_nil)) (blkOk_by (N := ["deck", "most", "at"]) (sc := defScope st__law_book) (own := [("at", 2)]) (by decide +kernel)) (by decide) (fun s H C cl fp => (Tg_nm (c.blk s H _ _ fp).nd rfl (by first | exact Or.inl rfl | exact Or.inr rfl))) (fun s H C cl fp => Ts_nil) (fun s H C cl fp => (E_cl (c.blk s H _ _ fp) h__law_event hcl hr (L_cons (E_nm (c.blk s H _ _ fp).hk 0) (L_cons (E_nm (c.blk s H _ _ fp).hk 2) L_nil)))))))

/-! ### _law_key -/
abbrev st__law_key : Stmt := top 30
noncomputable def sem__law_key : M Fl := (sRet (sMake gTup (sCons (sOp subscD (sNm 0) (sV (.int 1))) (sCons (sOp subscD (sNm 0) (sV (.int 0))) sNil))))
noncomputable def Fn__law_key : List D → FR := runF 1 [false] sem__law_key
theorem sc__law_key : FnScope ["event"] ["event"] (defScope st__law_key) := ⟨rfl, rfl, rfl, by decide +kernel, rfl, by decide +kernel, by decide +kernel⟩
theorem ok__law_key {f : Addr} {fd : FuncData} (F : FunD K "_law_key" "_law_key" (defArgs st__law_key) (defBody st__law_key) (defScope st__law_key) [] [] f fd) (T : TopF mg)  :
    FnOk P w K mg base (L2.CX P w) 1 f fd ["event"] (spD br K [false] Fn__law_key) := FnD (k := 0) F sc__law_key rfl fun cdv A outer s H E z W hcode hcl hr c =>
    (Ss_one (S_ret (E_tup c.hk (L_cons (E_ix (ix_sub c.hk (hu1 hr)) (E_nm c.hk 0) (E_int c.hk) (by intro _ _; rfl)) (L_cons (E_ix (ix_sub c.hk (hu1 hr)) (E_nm c.hk 0) (E_int c.hk) (by intro _ _; rfl)) L_nil)))))

/-! ### _law_digits -/
abbrev st__law_digits : Stmt := top 31
noncomputable def sem__law_digits (Fr : List D → FR) : M Fl := (sSeq (sIfS (sCmpT ltD (sNm 0) (sV (.int 0))) (sRet (sOp addD (sV (.str "-")) (callM [false] Fr (sCons (sUn negD (sNm 0)) sNil)))) sNext)
    (sSeq (sAsg 1 (sV (.str "")))
    (sSeq (sAsg 2 (sNm 0))
    (sSeq (whileN (sCmpT gtD (sNm 2) (sV (.int 9))) (sSeq (sAsg 1 (sOp addD (sOp subscD (sV (.str "0123456789")) (sOp modD (sCall gInt (sCons (sNm 2) sNil)) (sV (.int 10)))) (sNm 1)))
    (sAsg 2 (sOp fdivD (sNm 2) (sV (.int 10))))) 1000000)
    (sRet (sOp addD (sOp subscD (sV (.str "0123456789")) (sCall gInt (sCons (sNm 2) sNil))) (sNm 1)))))))
noncomputable def Fn__law_digits : Nat → List D → FR
  | 0 => fun _ => .no
  | n + 1 => runF 3 [false] (sem__law_digits (Fn__law_digits n))
theorem sc__law_digits : FnScope ["number", "found", "left"] ["number"] (defScope st__law_digits) := ⟨rfl, rfl, rfl, by decide +kernel, rfl, by decide +kernel, by decide +kernel⟩
theorem ok__law_digits {f : Addr} {fd : FuncData} (F : FunD K "_law_digits" "_law_digits" (defArgs st__law_digits) (defBody st__law_digits) (defScope st__law_digits) [] [] f fd) (T : TopF mg) {n : Nat} {Fr : List D → FR} (h__law_digits : Cl P w K mg base br "_law_digits" ["number"] [false] (n + 0) Fr)  :
    FnOk P w K mg base (L2.CX P w) (n + 0 + 1) f fd ["number"] (spD br K [false] (runF 3 [false] (sem__law_digits Fr))) := FnD (k := n + 0) F sc__law_digits rfl fun cdv A outer s H E z W hcode hcl hr c =>
    (Ss_cons (S_if (T_cmp op_ltD (E_nm c.hk 0) (E_int c.hk) (by rfl)) (Ss_one (S_ret (E_bin (op_addD c.hk) (E_str c.hk) (E_cl c h__law_digits hcl hr (L_cons (E_un un_negD (E_nm c.hk 0)) L_nil) (hj := by omega))))) Ss_nil)
    (Ss_cons (S_set c rfl (by first | exact Or.inl rfl | exact Or.inr rfl) (E_str c.hk))
    (Ss_cons (S_set c rfl (by first | exact Or.inl rfl | exact Or.inr rfl) (E_nm c.hk 0))
    (Ss_cons (S_while 1000000 c (T_cmp op_gtD (E_nm c.hk 2) (E_int c.hk) (by rfl)) (Ss_cons (S_set c rfl (by first | exact Or.inl rfl | exact Or.inr rfl) (E_bin (op_addD c.hk) (E_ix (ix_sub c.hk (hu1 hr)) (E_str c.hk) (E_bin op_modD (E_callT c.hk cr_intD (by rfl) T.f_int (by rfl) (L_cons (E_nm c.hk 2) L_nil)) (E_int c.hk)) (by intro _ _; rfl)) (E_nm c.hk 1)))
    (Ss_one (S_set c rfl (by first | exact Or.inl rfl | exact Or.inr rfl) (E_bin op_fdivD (E_nm c.hk 2) (E_int c.hk))))))
    (Ss_one (S_ret (E_bin (op_addD c.hk) (E_ix (ix_sub c.hk (hu1 hr)) (E_str c.hk) (E_callT c.hk cr_intD (by rfl) T.f_int (by rfl) (L_cons (E_nm c.hk 2) L_nil)) (by intro _ _; rfl)) (E_nm c.hk 1))))))))

/-! ### _law_line -/
abbrev st__law_line : Stmt := top 32
noncomputable def sem__law_line : M Fl := (sSeq (sAsg 1 (sOp addD (sOp addD (sOp addD (sOp addD (sOp addD (sOp addD (sOp subscD (sNm 0) (sV (.int 0))) (sV (.str " "))) (callM [false] (Fn__law_digits 8) (sCons (sOp subscD (sNm 0) (sV (.int 1))) sNil))) (sV (.str " "))) (sOp subscD (sNm 0) (sV (.int 2)))) (sV (.str " "))) (sOp subscD (sNm 0) (sV (.int 3)))))
    (sSeq (sIfS (sCmpT memD (sOp subscD (sNm 0) (sV (.int 2))) (sMake gTup (sCons (sV (.str "slot")) (sCons (sV (.str "places")) sNil)))) (sRet (sOp addD (sOp addD (sNm 1) (sV (.str " "))) (callM [false] (Fn__law_digits 8) (sCons (sOp subscD (sNm 0) (sV (.int 4))) sNil)))) sNext)
    (sSeq (sIfS (sCmpT memD (sOp subscD (sNm 0) (sV (.int 2))) (sMake gTup (sCons (sV (.str "order")) (sCons (sV (.str "wish")) sNil)))) (sRet (sOp addD (sOp addD (sNm 1) (sV (.str " "))) (sM1 gJoin (sV (.str ",")) (sOp subscD (sNm 0) (sV (.int 4)))))) sNext)
    (sRet (sNm 1)))))
noncomputable def Fn__law_line : List D → FR := runF 2 [false] sem__law_line
theorem sc__law_line : FnScope ["event", "found"] ["event"] (defScope st__law_line) := ⟨rfl, rfl, rfl, by decide +kernel, rfl, by decide +kernel, by decide +kernel⟩
theorem ok__law_line {f : Addr} {fd : FuncData} (F : FunD K "_law_line" "_law_line" (defArgs st__law_line) (defBody st__law_line) (defScope st__law_line) [] [] f fd) (T : TopF mg) (h__law_digits : Cl P w K mg base br "_law_digits" ["number"] [false] 8 (Fn__law_digits 8)) :
    FnOk P w K mg base (L2.CX P w) 9 f fd ["event"] (spD br K [false] Fn__law_line) := FnD (k := 8) F sc__law_line rfl fun cdv A outer s H E z W hcode hcl hr c =>
    (Ss_cons (S_set c rfl (by first | exact Or.inl rfl | exact Or.inr rfl) (E_bin (op_addD c.hk) (E_bin (op_addD c.hk) (E_bin (op_addD c.hk) (E_bin (op_addD c.hk) (E_bin (op_addD c.hk) (E_bin (op_addD c.hk) (E_ix (ix_sub c.hk (hu1 hr)) (E_nm c.hk 0) (E_int c.hk) (by intro _ _; rfl)) (E_str c.hk)) (E_cl c h__law_digits hcl hr (L_cons (E_ix (ix_sub c.hk (hu1 hr)) (E_nm c.hk 0) (E_int c.hk) (by intro _ _; rfl)) L_nil))) (E_str c.hk)) (E_ix (ix_sub c.hk (hu1 hr)) (E_nm c.hk 0) (E_int c.hk) (by intro _ _; rfl))) (E_str c.hk)) (E_ix (ix_sub c.hk (hu1 hr)) (E_nm c.hk 0) (E_int c.hk) (by intro _ _; rfl))))
    (Ss_cons (S_if (T_cmp (op_memD c.hk (hu1 hr)) (E_ix (ix_sub c.hk (hu1 hr)) (E_nm c.hk 0) (E_int c.hk) (by intro _ _; rfl)) (E_tup c.hk (L_cons (E_str c.hk) (L_cons (E_str c.hk) L_nil))) (by rfl)) (Ss_one (S_ret (E_bin (op_addD c.hk) (E_bin (op_addD c.hk) (E_nm c.hk 1) (E_str c.hk)) (E_cl c h__law_digits hcl hr (L_cons (E_ix (ix_sub c.hk (hu1 hr)) (E_nm c.hk 0) (E_int c.hk) (by intro _ _; rfl)) L_nil))))) Ss_nil)
    (Ss_cons (S_if (T_cmp (op_memD c.hk (hu1 hr)) (E_ix (ix_sub c.hk (hu1 hr)) (E_nm c.hk 0) (E_int c.hk) (by intro _ _; rfl)) (E_tup c.hk (L_cons (E_str c.hk) (L_cons (E_str c.hk) L_nil))) (by rfl)) (Ss_one (S_ret (E_bin (op_addD c.hk) (E_bin (op_addD c.hk) (E_nm c.hk 1) (E_str c.hk)) (E_join c.hk (E_str c.hk) (E_ix (ix_sub c.hk (hu1 hr)) (E_nm c.hk 0) (E_int c.hk) (by intro _ _; rfl)))))) Ss_nil)
    (Ss_one (S_ret (E_nm c.hk 1))))))

/-! ### _law_codes -/
abbrev st__law_codes : Stmt := top 33
noncomputable def sem__law_codes : M Fl := (sSeq (sAsg 0 sNewK)
    (sSeq (sFor (iRng fRng1 (sCons (sV (.int 26)) sNil)) (tNm 1) (sPut 0 (sOp addD (sV (.int 97)) (sNm 1)) (sOp subscD (sV (.str "abcdefghijklmnopqrstuvwxyz")) (sNm 1))))
    (sSeq (sFor (iRng fRng1 (sCons (sV (.int 10)) sNil)) (tNm 1) (sPut 0 (sOp addD (sV (.int 48)) (sNm 1)) (sOp subscD (sV (.str "0123456789")) (sNm 1))))
    (sSeq (sPut 0 (sV (.int 32)) (sV (.str " ")))
    (sSeq (sPut 0 (sV (.int 45)) (sV (.str "-")))
    (sSeq (sPut 0 (sV (.int 44)) (sV (.str ",")))
    (sRet (sNm 0))))))))
noncomputable def Fn__law_codes : List D → FR := runF 2 [] sem__law_codes
theorem sc__law_codes : FnScope ["found", "at"] [] (defScope st__law_codes) := ⟨rfl, rfl, rfl, by decide +kernel, rfl, by decide +kernel, by decide +kernel⟩
theorem ok__law_codes {f : Addr} {fd : FuncData} (F : FunD K "_law_codes" "_law_codes" (defArgs st__law_codes) (defBody st__law_codes) (defScope st__law_codes) [] [] f fd) (T : TopF mg)  :
    FnOk P w K mg base (L2.CX P w) 1 f fd [] (spD br K [] Fn__law_codes) := FnD (k := 0) F sc__law_codes rfl fun cdv A outer s H E z W hcode hcl hr c =>
    (Ss_cons (S_set c rfl (by first | exact Or.inl rfl | exact Or.inr rfl) (E_newK c.hk))
    (Ss_cons (S_for c (IT_range1 (by rfl) T.f_range (L_cons (E_int c.hk) L_nil)) (Tg_nm c.nd rfl (by first | exact Or.inl rfl | exact Or.inr rfl)) (Ss_one (S_put c (hu1 hr) 0 (E_bin (op_addD c.hk) (E_int c.hk) (E_nm c.hk 1)) (E_ix (ix_sub c.hk (hu1 hr)) (E_str c.hk) (E_nm c.hk 1) (by intro _ _; rfl)))))
    (Ss_cons (S_for c (IT_range1 (by rfl) T.f_range (L_cons (E_int c.hk) L_nil)) (Tg_nm c.nd rfl (by first | exact Or.inl rfl | exact Or.inr rfl)) (Ss_one (S_put c (hu1 hr) 0 (E_bin (op_addD c.hk) (E_int c.hk) (E_nm c.hk 1)) (E_ix (ix_sub c.hk (hu1 hr)) (E_str c.hk) (E_nm c.hk 1) (by intro _ _; rfl)))))
    (Ss_cons (S_put c (hu1 hr) 0 (E_int c.hk) (E_str c.hk))
    (Ss_cons (S_put c (hu1 hr) 0 (E_int c.hk) (E_str c.hk))
    (Ss_cons (S_put c (hu1 hr) 0 (E_int c.hk) (E_str c.hk))
    (Ss_one (S_ret (E_nm c.hk 0)))))))))

/-! ### _law_seal -/
abbrev st__law_seal : Stmt := top 34
noncomputable def sem__law_seal : M Fl := (sSeq (sAsg 1 (sV (.int 2305843009213693951)))
    (sSeq (sAsg 2 (callM [] Fn__law_codes sNil))
    (sSeq (sAsg 3 (sMake gLst sNil))
    (sSeq (sAsg 4 (sV (.int 1)))
    (sSeq (sFor (iSeq (sNm 0)) (tNm 5) (sSeq (sAsg 6 (sV (.int 0)))
    (sSeq (sFor (iSeq (callM [false] Fn__law_line (sCons (sNm 5) sNil))) (tNm 7) (sAsg 6 (sOp modD (sCall gInt (sCons (sOp addD (sOp mulD (sV (.int 257)) (sNm 6)) (sOp subscD (sNm 2) (sNm 7))) sNil)) (sNm 1))))
    (sSeq (sAsg 4 (sOp modD (sCall gInt (sCons (sOp addD (sOp mulD (sNm 4) (sV (.int 1000003))) (sNm 6)) sNil)) (sNm 1)))
    (sExpr (mutL 3 gApp (sCons (sNm 4) sNil)))))))
    (sRet (sNm 3)))))))
noncomputable def Fn__law_seal : List D → FR := runF 8 [false] sem__law_seal
theorem sc__law_seal : FnScope ["events", "modulus", "codes", "found", "here", "event", "value", "sign"] ["events"] (defScope st__law_seal) := ⟨rfl, rfl, rfl, by decide +kernel, rfl, by decide +kernel, by decide +kernel⟩
theorem ok__law_seal {f : Addr} {fd : FuncData} (F : FunD K "_law_seal" "_law_seal" (defArgs st__law_seal) (defBody st__law_seal) (defScope st__law_seal) [] [] f fd) (T : TopF mg) (h__law_codes : Cl P w K mg base br "_law_codes" [] [] 1 Fn__law_codes) (h__law_line : Cl P w K mg base br "_law_line" ["event"] [false] 9 Fn__law_line) :
    FnOk P w K mg base (L2.CX P w) 10 f fd ["events"] (spD br K [false] Fn__law_seal) := FnD (k := 9) F sc__law_seal rfl fun cdv A outer s H E z W hcode hcl hr c =>
    (Ss_cons (S_set c rfl (by first | exact Or.inl rfl | exact Or.inr rfl) (E_int c.hk))
    (Ss_cons (S_set c rfl (by first | exact Or.inl rfl | exact Or.inr rfl) (E_cl0 c h__law_codes hcl hr))
    (Ss_cons (S_set c rfl (by first | exact Or.inl rfl | exact Or.inr rfl) (E_lst c.hk L_nil))
    (Ss_cons (S_set c rfl (by first | exact Or.inl rfl | exact Or.inr rfl) (E_int c.hk))
    (Ss_cons (S_for c (IT_seq (E_nm c.hk 0)) (Tg_nm c.nd rfl (by first | exact Or.inl rfl | exact Or.inr rfl)) (Ss_cons (S_set c rfl (by first | exact Or.inl rfl | exact Or.inr rfl) (E_int c.hk))
    (Ss_cons (S_for c (IT_seq (E_cl c h__law_line hcl hr (L_cons (E_nm c.hk 5) L_nil))) (Tg_nm c.nd rfl (by first | exact Or.inl rfl | exact Or.inr rfl)) (Ss_one (S_set c rfl (by first | exact Or.inl rfl | exact Or.inr rfl) (E_bin op_modD (E_callT c.hk cr_intD (by rfl) T.f_int (by rfl) (L_cons (E_bin (op_addD c.hk) (E_bin op_mulD (E_int c.hk) (E_nm c.hk 6)) (E_ix (ix_sub c.hk (hu1 hr)) (E_nm c.hk 2) (E_nm c.hk 7) (by intro _ _; rfl))) L_nil)) (E_nm c.hk 1)))))
    (Ss_cons (S_set c rfl (by first | exact Or.inl rfl | exact Or.inr rfl) (E_bin op_modD (E_callT c.hk cr_intD (by rfl) T.f_int (by rfl) (L_cons (E_bin (op_addD c.hk) (E_bin op_mulD (E_nm c.hk 4) (E_int c.hk)) (E_nm c.hk 6)) L_nil)) (E_nm c.hk 1)))
    (Ss_one (S_expr (E_append c.hk 3 (L_cons (E_nm c.hk 4) L_nil))))))))
    (Ss_one (S_ret (E_nm c.hk 3))))))))

/-! ### _law_refused -/
abbrev st__law_refused : Stmt := top 35
noncomputable def sem__law_refused : M Fl := (sSeq (sTry 2 1 (sExpr (callM [false] Fn_line_of (sCons (sNm 0) sNil))) [(0, .eq "form")])
    (sRet (sV (.bl false))))
noncomputable def Fn__law_refused : List D → FR := runF 2 [false] sem__law_refused
theorem sc__law_refused : FnScope ["value", "error"] ["value"] (defScope st__law_refused) := ⟨rfl, rfl, rfl, by decide +kernel, rfl, by decide +kernel, by decide +kernel⟩
theorem ok__law_refused {f : Addr} {fd : FuncData} (F : FunD K "_law_refused" "_law_refused" (defArgs st__law_refused) (defBody st__law_refused) (defScope st__law_refused) [] [] f fd) (T : TopF mg) (h_line_of : Cl P w K mg base br "line_of" ["event"] [false] 4 Fn_line_of) (hd_InvalidEvent : HdC K mg br 0 "InvalidEvent") (xm : XM K br 2) :
    FnOk P w K mg base (L2.CX P w) 5 f fd ["value"] (spD br K [false] Fn__law_refused) := FnD (k := 4) F sc__law_refused rfl fun cdv A outer s H E z W hcode hcl hr c =>
    (Ss_cons (S_try (nc := 2) (hs := [(0, .eq "form")]) c hcl rfl (fun W1 pn1 xe1 c1 => (Ss_one (S_expr (E_cl c1 h_line_of hcl hr (L_cons (E_nm c1.hk 0) L_nil))))) (.cons ⟨by rfl, by decide, .inl hd_InvalidEvent.gl⟩ (fun ad ob cls dx pn hz hf => su_eq hd_InvalidEvent.xf hd_InvalidEvent.na hz hf rfl) .nil) (xm_at xm (by decide)))
    (Ss_one (S_ret (E_bl c.hk))))

/-! ### law -/
abbrev st_law : Stmt := top 36
noncomputable def sem_law : M Fl := (sSeq (sAsg 1 (callM [false, false, false] Fn__law_deck (sCons (sNm 0) (sCons (sV (.int 90)) (sCons (sV (.int 14)) sNil)))))
    (sSeq (sAsg 2 (callM [true, false] Fn__law_book (sCons (sNm 1) (sCons (sV (.int 10)) sNil))))
    (sSeq (sAsg 3 (sSortF Fn__law_key (sNm 2)))
    (sSeq (sIfS (sCmpT dne (callM [false] (Fn__law_plain 8) (sCons (sLc [8] (iSeq (sNm 3)) (tNm 8) sYes (callM [false] Fn_line_of (sCons (sNm 8) sNil))) sNil)) (callM [false] (Fn__law_plain 8) (sCons (sLc [8] (iSeq (sNm 3)) (tNm 8) sYes (callM [false] Fn__law_line (sCons (sNm 8) sNil))) sNil))) (sRet (sV (.bl false))) sNext)
    (sSeq (sAsg 4 (callM [false] Fn__law_seal (sCons (sNm 3) sNil)))
    (sSeq (sIfS (sOr (sCmpT dne (callM [false] (Fn__law_plain 8) (sCons (callM [false] Fn_seal (sCons (sUn gRv (sNm 2)) sNil)) sNil)) (callM [false] (Fn__law_plain 8) (sCons (sNm 4) sNil))) (sCmpT (isD true) (callM [false, false] Fn_judge_seal (sCons (sNm 2) (sCons (sNm 4) sNil))) (sV (.bl true)))) (sRet (sV (.bl false))) sNext)
    (sSeq (sAsg 5 (callM [true, false] Fn__law_take (sCons (sNm 1) (sCons (sOp addD (sCall gLen (sCons (sNm 3) sNil)) (sV (.int 1))) sNil))))
    (sSeq (sIfS (sOr (sCmpT dne (callM [false] Fn_seal (sCons (sSlHi (sNm 3) (sNm 5)) sNil)) (sSlHi (sNm 4) (sNm 5))) (sCmpT (isD true) (callM [false, false] Fn_judge_seal (sCons (sNm 2) (sCons (sOp addD (sNm 4) (sMake gLst (sCons (sV (.int 1)) sNil))) sNil))) (sV (.bl false)))) (sRet (sV (.bl false))) sNext)
    (sSeq (sAsg 6 (callM [false, false] Fn_first_difference (sCons (sNm 2) (sCons (sSlHi (sNm 3) (sNm 5)) sNil))))
    (sSeq (sIfS (sOr (sCmpT dne (callM [false] (Fn__law_plain 8) (sCons (sNm 6) sNil)) (callM [false] (Fn__law_plain 8) (sCons (sIf (sCmpT ltD (sNm 5) (sCall gLen (sCons (sNm 3) sNil))) (sNm 5) (sV .non)) sNil))) (sCmpT (isD true) (callM [false, false] Fn_first_difference (sCons (sNm 2) (sCons (sNm 2) sNil))) (sV .non))) (sRet (sV (.bl false))) sNext)
    (sSeq (sIfS (sCmpT gtD (sCall gLen (sCons (sNm 3) sNil)) (sV (.int 0))) (sSeq (sAsg 7 (callM [true, false] Fn__law_take (sCons (sNm 1) (sCons (sCall gLen (sCons (sNm 3) sNil)) sNil))))
    (sSeq (sAsg 8 (sOp subscD (sNm 3) (sNm 7)))
    (sSeq (sAsg 9 (sOp addD (sOp addD (sSlHi (sNm 3) (sNm 7)) (sMake gLst (sCons (sMake gTup (sCons (sOp subscD (sNm 8) (sV (.int 0))) (sCons (sOp subscD (sNm 8) (sV (.int 1))) (sCons (sV (.str "note")) (sCons (sV (.str "changed here")) sNil))))) sNil))) (sSlLo (sNm 3) (sOp addD (sNm 7) (sV (.int 1))))))
    (sSeq (sAsg 10 (callM [false] Fn__law_seal (sCons (sNm 9) sNil)))
    (sSeq (sAsg 11 (sLc [6] (iRng fRng1 (sCons (sCall gLen (sCons (sNm 10) sNil)) sNil)) (tNm 6) (sCmpT dne (sOp subscD (sNm 10) (sNm 6)) (sOp subscD (sNm 4) (sNm 6))) (sNm 6)))
    (sSeq (sIfS (sCmpT dne (callM [false] (Fn__law_plain 8) (sCons (callM [false, false] Fn_first_difference (sCons (sNm 9) (sCons (sNm 2) sNil))) sNil)) (callM [false] (Fn__law_plain 8) (sCons (sIf (sCmpT gtD (sCall gLen (sCons (sNm 11) sNil)) (sV (.int 0))) (sOp subscD (sNm 11) (sV (.int 0))) (sV .non)) sNil))) (sRet (sV (.bl false))) sNext)
    (sSeq (sIfS (sCmpT dne (callM [false, false] Fn_judge_seal (sCons (sNm 9) (sCons (sNm 4) sNil))) (sOp (toB deq) (sNm 10) (sNm 4))) (sRet (sV (.bl false))) sNext)
    (sSeq (sAsg 12 (sCall gList (sCons (sNm 4) sNil)))
    (sSeq (sPut 12 (sOp addD (sOp subscD (sNm 12) (sNm 7)) (sV (.int 1))) (sNm 7))
    (sIfS (sCmpT (isD true) (callM [false, false] Fn_judge_seal (sCons (sNm 2) (sCons (sNm 12) sNil))) (sV (.bl false))) (sRet (sV (.bl false))) sNext)))))))))) sNext)
    (sRet (callM [false] Fn__law_refused (sCons (sOp subscD (sMake gLst (sCons (sMake gTup (sCons (sV (.str "e")) (sCons (sV (.int 1)) sNil))) (sCons (sMake gTup (sCons (sV (.str "e")) (sCons (sV (.int 1)) (sCons (sV (.str "note")) (sCons (sV (.int 5)) sNil))))) (sCons (sV .non) sNil)))) (callM [true, false] Fn__law_take (sCons (sNm 1) (sCons (sV (.int 3)) sNil)))) sNil))))))))))))))
noncomputable def Fn_law : List D → FR := runF 13 [false] sem_law
theorem sc_law : FnScope ["script", "deck", "book", "events", "due", "cut", "place", "at", "event", "other", "row", "apart", "bent"] ["script"] (defScope st_law) := ⟨rfl, rfl, rfl, by decide +kernel, rfl, by decide +kernel, by decide +kernel⟩
theorem ok_law {f : Addr} {fd : FuncData} (F : FunD K "law" "law" (defArgs st_law) (defBody st_law) (defScope st_law) [] [] f fd) (T : TopF mg) (h__law_deck : Cl P w K mg base br "_law_deck" ["script", "cells", "each"] [false, false, false] 1 Fn__law_deck) (h__law_book : Cl P w K mg base br "_law_book" ["deck", "most"] [true, false] 3 Fn__law_book) (h__law_key : Cl P w K mg base br "_law_key" ["event"] [false] 1 Fn__law_key) (h__law_plain : Cl P w K mg base br "_law_plain" ["value"] [false] 8 (Fn__law_plain 8)) (h_line_of : Cl P w K mg base br "line_of" ["event"] [false] 4 Fn_line_of) (h__law_line : Cl P w K mg base br "_law_line" ["event"] [false] 9 Fn__law_line) (h__law_seal : Cl P w K mg base br "_law_seal" ["events"] [false] 10 Fn__law_seal) (h_seal : Cl P w K mg base br "seal" ["book"] [false] 5 Fn_seal) (h_judge_seal : Cl P w K mg base br "judge_seal" ["book", "numbers"] [false, false] 6 Fn_judge_seal) (h__law_take : Cl P w K mg base br "_law_take" ["deck", "many"] [true, false] 1 Fn__law_take) (h_first_difference : Cl P w K mg base br "first_difference" ["first", "second"] [false, false] 6 Fn_first_difference) (h__law_refused : Cl P w K mg base br "_law_refused" ["value"] [false] 5 Fn__law_refused) :
    FnOk P w K mg base (L2.CX P w) 11 f fd ["script"] (spD br K [false] Fn_law) := FnD (k := 10) F sc_law rfl fun cdv A outer s H E z W hcode hcl hr c =>
    (Ss_cons (S_set c rfl (by first | exact Or.inl rfl | exact Or.inr rfl) (E_cl c h__law_deck hcl hr (L_cons (E_nm c.hk 0) (L_cons (E_int c.hk) (L_cons (E_int c.hk) L_nil)))))
    (Ss_cons (S_set c rfl (by first | exact Or.inl rfl | exact Or.inr rfl) (E_cl c h__law_book hcl hr (L_cons (E_nm c.hk 1) (L_cons (E_int c.hk) L_nil))))
    (Ss_cons (S_set c rfl (by first | exact Or.inl rfl | exact Or.inr rfl) (E_sf h__law_key hcl hr T.f_sorted (E_nm c.hk 2)))
    (Ss_cons (S_if (T_cmp (op_dne c.hk (hu70 hr)) (E_cl c h__law_plain hcl hr (L_cons (E_lc c (IT_seq (E_nm c.hk 3)) (blkOk_by (N := ["script", "deck", "book", "events", "due", "cut", "place", "at", "event", "other", "row", "apart", "bent"]) (sc := defScope st_law) (own := [("event", 8)]) (by decide +kernel)) (by decide) (fun s H C cl fp => (Tg_nm (c.blk s H _ _ fp).nd rfl (by first | exact Or.inl rfl | exact Or.inr rfl))) (fun s H C cl fp => Ts_nil) (fun s H C cl fp => (E_cl (c.blk s H _ _ fp) h_line_of hcl hr (L_cons (E_nm (c.blk s H _ _ fp).hk 8) L_nil)))) L_nil)) (E_cl c h__law_plain hcl hr (L_cons (E_lc c (IT_seq (E_nm c.hk 3)) (blkOk_by (N := ["script", "deck", "book", "events", "due", "cut", "place", "at", "event", "other", "row", "apart", "bent"]) (sc := defScope st_law) (own := [("event", 8)]) (by decide +kernel)) (by decide) (fun s H C cl fp => (Tg_nm (c.blk s H _ _ fp).nd rfl (by first | exact Or.inl rfl | exact Or.inr rfl))) (fun s H C cl fp => Ts_nil) (fun s H C cl fp => (E_cl (c.blk s H _ _ fp) h__law_line hcl hr (L_cons (E_nm (c.blk s H _ _ fp).hk 8) L_nil)))) L_nil)) (by rfl)) (Ss_one (S_ret (E_bl c.hk))) Ss_nil)
    (Ss_cons (S_set c rfl (by first | exact Or.inl rfl | exact Or.inr rfl) (E_cl c h__law_seal hcl hr (L_cons (E_nm c.hk 3) L_nil)))
    (Ss_cons (S_if (Tw_or (T_cmp (op_dne c.hk (hu70 hr)) (E_cl c h__law_plain hcl hr (L_cons (E_cl c h_seal hcl hr (L_cons (E_listRv c.calm T.f_list T.f_reversed (E_nm c.hk 2)) L_nil)) L_nil)) (E_cl c h__law_plain hcl hr (L_cons (E_nm c.hk 4) L_nil)) (by rfl)) (Tw_or1 (T_cmp op_isnotD (E_cl c h_judge_seal hcl hr (L_cons (E_nm c.hk 2) (L_cons (E_nm c.hk 4) L_nil))) (E_bl c.hk) (by rfl)))).t (Ss_one (S_ret (E_bl c.hk))) Ss_nil)
    (Ss_cons (S_set c rfl (by first | exact Or.inl rfl | exact Or.inr rfl) (E_cl c h__law_take hcl hr (L_cons (E_nm c.hk 1) (L_cons (E_bin (op_addD c.hk) (E_callB c.hk (cr_lenD c.hk) (by rfl) T.f_len (by rfl) (L_cons (E_nm c.hk 3) L_nil)) (E_int c.hk)) L_nil))))
    (Ss_cons (S_if (Tw_or (T_cmp (op_dne c.hk (hu70 hr)) (E_cl c h_seal hcl hr (L_cons (E_slHi (E_nm c.hk 3) (E_nm c.hk 5)) L_nil)) (E_slHi (E_nm c.hk 4) (E_nm c.hk 5)) (by rfl)) (Tw_or1 (T_cmp op_isnotD (E_cl c h_judge_seal hcl hr (L_cons (E_nm c.hk 2) (L_cons (E_bin (op_addD c.hk) (E_nm c.hk 4) (E_lst c.hk (L_cons (E_int c.hk) L_nil))) L_nil))) (E_bl c.hk) (by rfl)))).t (Ss_one (S_ret (E_bl c.hk))) Ss_nil)
    (Ss_cons (S_set c rfl (by first | exact Or.inl rfl | exact Or.inr rfl) (E_cl c h_first_difference hcl hr (L_cons (E_nm c.hk 2) (L_cons (E_slHi (E_nm c.hk 3) (E_nm c.hk 5)) L_nil))))
    (Ss_cons (S_if (Tw_or (T_cmp (op_dne c.hk (hu70 hr)) (E_cl c h__law_plain hcl hr (L_cons (E_nm c.hk 6) L_nil)) (E_cl c h__law_plain hcl hr (L_cons (E_if (T_cmp op_ltD (E_nm c.hk 5) (E_callB c.hk (cr_lenD c.hk) (by rfl) T.f_len (by rfl) (L_cons (E_nm c.hk 3) L_nil)) (by rfl)) (E_nm c.hk 5) (E_non c.hk)) L_nil)) (by rfl)) (Tw_or1 (T_cmp op_isnotD (E_cl c h_first_difference hcl hr (L_cons (E_nm c.hk 2) (L_cons (E_nm c.hk 2) L_nil))) (E_non c.hk) (by rfl)))).t (Ss_one (S_ret (E_bl c.hk))) Ss_nil)
    (Ss_cons (S_if (T_cmp op_gtD (E_callB c.hk (cr_lenD c.hk) (by rfl) T.f_len (by rfl) (L_cons (E_nm c.hk 3) L_nil)) (E_int c.hk) (by rfl)) (Ss_cons (S_set c rfl (by first | exact Or.inl rfl | exact Or.inr rfl) (E_cl c h__law_take hcl hr (L_cons (E_nm c.hk 1) (L_cons (E_callB c.hk (cr_lenD c.hk) (by rfl) T.f_len (by rfl) (L_cons (E_nm c.hk 3) L_nil)) L_nil))))
    (Ss_cons (S_set c rfl (by first | exact Or.inl rfl | exact Or.inr rfl) (E_ix (ix_sub c.hk (hu1 hr)) (E_nm c.hk 3) (E_nm c.hk 7) (by intro _ _; rfl)))
    (Ss_cons (S_set c rfl (by first | exact Or.inl rfl | exact Or.inr rfl) (E_bin (op_addD c.hk) (E_bin (op_addD c.hk) (E_slHi (E_nm c.hk 3) (E_nm c.hk 7)) (E_lst c.hk (L_cons (E_tup c.hk (L_cons (E_ix (ix_sub c.hk (hu1 hr)) (E_nm c.hk 8) (E_int c.hk) (by intro _ _; rfl)) (L_cons (E_ix (ix_sub c.hk (hu1 hr)) (E_nm c.hk 8) (E_int c.hk) (by intro _ _; rfl)) (L_cons (E_str c.hk) (L_cons (E_str c.hk) L_nil))))) L_nil))) (E_slLo (E_nm c.hk 3) (E_bin (op_addD c.hk) (E_nm c.hk 7) (E_int c.hk)))))
    (Ss_cons (S_set c rfl (by first | exact Or.inl rfl | exact Or.inr rfl) (E_cl c h__law_seal hcl hr (L_cons (E_nm c.hk 9) L_nil)))
    (Ss_cons (S_setLcN c (IT_range1 (by rfl) T.f_range (L_cons (E_callB c.hk (cr_lenD c.hk) (by rfl) T.f_len (by rfl) (L_cons (E_nm c.hk 10) L_nil)) L_nil)) (blkOk_by (N := ["script", "deck", "book", "events", "due", "cut", "place", "at", "event", "other", "row", "apart", "bent"]) (sc := defScope st_law) (own := [("place", 6)]) (by decide +kernel)) (by decide) (fun s H C cl fp => (Tg_nm (c.blk s H _ _ fp).nd rfl (by first | exact Or.inl rfl | exact Or.inr rfl))) (fun s H C cl fp => (Ts_one (T_cmp (op_dne (c.blk s H _ _ fp).hk (hu70 hr)) (E_ix (ix_sub (c.blk s H _ _ fp).hk (hu1 hr)) (E_nm (c.blk s H _ _ fp).hk 10) (E_nm (c.blk s H _ _ fp).hk 6) (by intro _ _; rfl)) (E_ix (ix_sub (c.blk s H _ _ fp).hk (hu1 hr)) (E_nm (c.blk s H _ _ fp).hk 4) (E_nm (c.blk s H _ _ fp).hk 6) (by intro _ _; rfl)) (by rfl)))) (fun s H C cl fp => (E_nm (c.blk s H _ _ fp).hk 6)))
    (Ss_cons (S_if (T_cmp (op_dne c.hk (hu70 hr)) (E_cl c h__law_plain hcl hr (L_cons (E_cl c h_first_difference hcl hr (L_cons (E_nm c.hk 9) (L_cons (E_nm c.hk 2) L_nil))) L_nil)) (E_cl c h__law_plain hcl hr (L_cons (E_if (T_cmp op_gtD (E_callB c.hk (cr_lenD c.hk) (by rfl) T.f_len (by rfl) (L_cons (E_nm c.hk 11) L_nil)) (E_int c.hk) (by rfl)) (E_ix (ix_sub c.hk (hu1 hr)) (E_nm c.hk 11) (E_int c.hk) (by intro _ _; rfl)) (E_non c.hk)) L_nil)) (by rfl)) (Ss_one (S_ret (E_bl c.hk))) Ss_nil)
    (Ss_cons (S_if (T_cmp (op_dne c.hk (hu70 hr)) (E_cl c h_judge_seal hcl hr (L_cons (E_nm c.hk 9) (L_cons (E_nm c.hk 4) L_nil))) (E_cmp (op_deq c.hk (hu70 hr)) (E_nm c.hk 10) (E_nm c.hk 4) (by rfl)) (by rfl)) (Ss_one (S_ret (E_bl c.hk))) Ss_nil)
    (Ss_cons (S_set c rfl (by first | exact Or.inl rfl | exact Or.inr rfl) (E_callT c.hk (cr_listD c.hk c.calm) (by rfl) T.f_list (by rfl) (L_cons (E_nm c.hk 4) L_nil)))
    (Ss_cons (S_put c (hu1 hr) 12 (E_bin (op_addD c.hk) (E_ix (ix_sub c.hk (hu1 hr)) (E_nm c.hk 12) (E_nm c.hk 7) (by intro _ _; rfl)) (E_int c.hk)) (E_nm c.hk 7))
    (Ss_one (S_if (T_cmp op_isnotD (E_cl c h_judge_seal hcl hr (L_cons (E_nm c.hk 2) (L_cons (E_nm c.hk 12) L_nil))) (E_bl c.hk) (by rfl)) (Ss_one (S_ret (E_bl c.hk))) Ss_nil))))))))))) Ss_nil)
    (Ss_one (S_ret (E_cl c h__law_refused hcl hr (L_cons (E_ix (ix_sub c.hk (hu1 hr)) (E_lst c.hk (L_cons (E_tup c.hk (L_cons (E_str c.hk) (L_cons (E_int c.hk) L_nil))) (L_cons (E_tup c.hk (L_cons (E_str c.hk) (L_cons (E_int c.hk) (L_cons (E_str c.hk) (L_cons (E_int c.hk) L_nil))))) (L_cons (E_non c.hk) L_nil)))) (E_cl c h__law_take hcl hr (L_cons (E_nm c.hk 1) (L_cons (E_int c.hk) L_nil))) (by intro _ _; rfl)) L_nil)))))))))))))))

end
end Lk84
namespace Lk84
open PySem PySem.Spec PyProof.Rows L2 L2.Dl
theorem name_e : ∀ k, k < 10 → Fn_is_name [.str (nmS "e" k)] = .ret (.bl true) false []
  | 0, _ => by kernel_rfl
  | 1, _ => by kernel_rfl
  | 2, _ => by kernel_rfl
  | 3, _ => by kernel_rfl
  | 4, _ => by kernel_rfl
  | 5, _ => by kernel_rfl
  | 6, _ => by kernel_rfl
  | 7, _ => by kernel_rfl
  | 8, _ => by kernel_rfl
  | 9, _ => by kernel_rfl
  | n + 10, h => by omega
theorem name_s : ∀ k, k < 5 → Fn_is_name [.str (nmS "s" k)] = .ret (.bl true) false []
  | 0, _ => by kernel_rfl
  | 1, _ => by kernel_rfl
  | 2, _ => by kernel_rfl
  | 3, _ => by kernel_rfl
  | 4, _ => by kernel_rfl
  | n + 5, h => by omega
theorem name_o : ∀ k, k < 5 → Fn_is_name [.str (nmS "o" k)] = .ret (.bl true) false []
  | 0, _ => by kernel_rfl
  | 1, _ => by kernel_rfl
  | 2, _ => by kernel_rfl
  | 3, _ => by kernel_rfl
  | 4, _ => by kernel_rfl
  | n + 5, h => by omega
/-- what the law refuses -/
theorem refused : Fn__law_refused [.tup [.str "e", .int 1]] = .ret (.bl true) false [] ∧ Fn__law_refused [.tup [.str "e", .int 1, .str "note", .int 5]] = .ret (.bl true) false [] ∧ Fn__law_refused [.non] = .ret (.bl true) false [] := ⟨by kernel_rfl, by kernel_rfl, by kernel_rfl⟩
end Lk84
namespace Lk84
open PySem PySem.Spec PyProof.Rows L2 L2.Dl
/-- a name -/
def Nm (s : Str) : Prop := Fn_is_name [.str s] = .ret (.bl true) false []
@[simp] theorem q1 : deq (.str "name") (.str "places") = some false := by kernel_rfl
@[simp] theorem q2 : deq (.str "name") (.str "wishes") = some false := by kernel_rfl
@[simp] theorem q3 : deq (.str "name") (.str "name") = some true := by kernel_rfl
@[simp] theorem q4 : deq (.str "places") (.str "places") = some true := by kernel_rfl
@[simp] theorem q5 : deq (.str "wishes") (.str "places") = some false := by kernel_rfl
@[simp] theorem q6 : deq (.str "wishes") (.str "wishes") = some true := by kernel_rfl
@[simp] theorem q7 : deq (.str "text") (.str "places") = some false := by kernel_rfl
@[simp] theorem q8 : deq (.str "text") (.str "wishes") = some false := by kernel_rfl
@[simp] theorem q9 : deq (.str "text") (.str "name") = some false := by kernel_rfl
theorem part_name {s : Str} (h : Nm s) : Fn_is_part [.str "name", .str s] = .ret (.bl true) false [] := by
  refine ok_runF (S := [.shr (.str "name"), .shr (.str s), .un]) ?_ rfl
  have h : Fn_is_name [.str s] = .ret (.bl true) false [] := h
  show sem_is_part [.shr (.str "name"), .shr (.str s), .un] = _
  simp [sem_is_part, h, tyD, isTy]
theorem part_places (i : Int) : Fn_is_part [.str "places", .int i] = .ret (.bl true) false [] := by kernel_rfl
theorem part_text {s : Str} (h : s = "a note" ∨ s = "changed here") : Fn_is_part [.str "text", .str s] = .ret (.bl true) false [] := by
  rcases h with rfl | rfl <;> kernel_rfl
@[simp] theorem notD_bl (b : Bool) : notD (.bl b) = some (.v (.bl (!b))) := rfl
@[simp] theorem notD_nil : notD (.lst []) = some (.v (.bl true)) := rfl
theorem part_wishes {ws : List Str} (h : ∀ w ∈ ws, Nm w) (hl : ws.length ≤ 1000) : Fn_is_part [.str "wishes", .tup (ws.map .str)] = .ret (.bl true) false [] := by
  refine ok_runF (S := [.shr (.str "wishes"), .shr (.tup (ws.map .str)), .un]) ?_ rfl
  obtain ⟨S', e, rfl⟩ := lc_map (vs := [2]) (fi := iSeq (sNm 1)) (g := tNm 2) (ft := sOr (sNot (sTru (sIsi ["str"] (sNm 2)))) (sNot (sTru (callM [false] Fn_is_name (sCons (sNm 2) sNil))))) (fe := sNm 2)
    (S := [.shr (.str "wishes"), .shr (.tup (ws.map .str)), .un]) (S1 := [.shr (.str "wishes"), .shr (.tup (ws.map .str)), .un]) (xs := ws) D.str (fun _ => false) D.str (fun S => S = [.shr (.str "wishes"), .shr (.tup (ws.map .str)), .un]) rfl (by omega) (fun w hw S hS => by
      subst hS
      have hn : Fn_is_name [.str w] = .ret (.bl true) false [] := h w hw
      refine ⟨[.shr (.str "wishes"), .shr (.tup (ws.map .str)), .shr (.str w)], [.shr (.str "wishes"), .shr (.tup (ws.map .str)), .shr (.str w)], rfl, ?_, (fun z => by cases z), fun _ => rfl⟩
      simp [hn, tyD, isTy]) rfl
  rw [List.filter_eq_nil_iff.mpr fun _ _ z => by cases z] at e
  have e : sLc [2] (iSeq (sNm 1)) (tNm 2) (sOr (sNot (sTru (sIsi ["str"] (sNm 2)))) (sNot (sTru (callM [false] Fn_is_name (sCons (sNm 2) sNil))))) (sNm 2) [.shr (.str "wishes"), .shr (.tup (ws.map .str)), .un] = .ok (.f (.lst [])) [.shr (.str "wishes"), .shr (.tup (ws.map .str)), .un] := e
  show sem_is_part [.shr (.str "wishes"), .shr (.tup (ws.map .str)), .un] = _
  simp [sem_is_part, e, tyD, isTy]
/-! ### events -/
def okC : List Nat := (List.range 26).map (97 + ·) ++ (List.range 10).map (48 + ·) ++ [32, 45, 44]
/-- a name, as short as the law's, of signs that have codes -/
structure NmX (s : Str) : Prop where
  nm : Nm s
  len : s.length ≤ 20
  ch : ∀ c ∈ s.cps.toList, c ∈ okC
  lay : Lay s
inductive Rest : Str → List D → Prop
  | slot {kd nm : Str} {v : Int} : kd = "slot" ∨ kd = "places" → NmX nm → v = -1 ∨ v = 0 ∨ v = 1 ∨ v = 2 ∨ v = 3 → Rest kd [.str nm, .int v]
  | order {kd nm : Str} {ws : List Str} : kd = "order" ∨ kd = "wish" → NmX nm → (∀ w ∈ ws, NmX w) → ws.length ≤ 3 → Rest kd [.str nm, .tup (ws.map .str)]
  | cancel {kd nm : Str} : kd = "cancel" → NmX nm → Rest kd [.str nm]
  | note {kd t : Str} : kd = "note" → t = "a note" ∨ t = "changed here" → Rest kd [.str t]
structure Ev where
  id : Str
  t : Nat
  kd : Str
  rest : List D
def Ev.d (e : Ev) : D := .tup (.str e.id :: .int (e.t : Nat) :: .str e.kd :: e.rest)
structure Ev.Ok (e : Ev) : Prop where
  id : NmX e.id
  tm : e.t < 12
  r : Rest e.kd e.rest
@[simp] theorem sp1 : gSplit (.str "name places") (.str " ") = some (.f (.lst [.str "name", .str "places"])) := by kernel_rfl
@[simp] theorem sp2 : gSplit (.str "name wishes") (.str " ") = some (.f (.lst [.str "name", .str "wishes"])) := by kernel_rfl
@[simp] theorem sp3 : gSplit (.str "name") (.str " ") = some (.f (.lst [.str "name"])) := by kernel_rfl
@[simp] theorem sp4 : gSplit (.str "text") (.str " ") = some (.f (.lst [.str "text"])) := by kernel_rfl
end Lk84
namespace Lk84
open PySem PySem.Spec PyProof.Rows L2 L2.Dl
section
variable {vs : List Nat} {fi : M (List D)} {g : D → SS → Option SS} {ft : M Bool} {fe : M R} {S : SS} {d : D} {ds : List D}
theorem ev_sLc : sLc vs fi g ft fe S = (fi S).bind fun ds S1 => if ds.length ≤ 1000000 then (noEx (lcL vs g ft fe ds (wipeS S1 vs))).bind fun out S2 => .ok (.f (.lst out)) (unwipe S1 S2 vs) else .no := rfl
theorem ev_lcL_nil : lcL vs g ft fe [] S = .ok [] S := rfl
theorem ev_lcL_cons : lcL vs g ft fe (d :: ds) S = match g d S with
    | none => .no
    | some S1 => (noEx (ft S1)).bind fun b S2 => if b = true then (noEx (fe S2)).bind fun r S3 => match valR S3 r with
        | none => .no
        | some (y, S4) => (lcL vs g ft fe ds (wipeS S4 vs)).bind fun out S5 => .ok (y :: out) S5
      else lcL vs g ft fe ds (wipeS S2 vs) := rfl
theorem ev_noEx {α : Type} (a : α) (s : SS) : noEx (.ok a s) = .ok a s := rfl
theorem ev_wipe_nil : wipeS S [] = S := rfl
theorem ev_wipe_cons {v : Nat} : wipeS S (v :: vs) = (wipeS S vs).set v .un := rfl
theorem ev_unwipe_nil {S0 : SS} : unwipe S0 S [] = S := rfl
theorem ev_unwipe_cons {S0 : SS} {v : Nat} : unwipe S0 S (v :: vs) = match S0[v]? with
  | some w => (unwipe S0 S vs).set v w
  | none => unwipe S0 S vs := rfl
theorem ev_sYes : sYes S = .ok true S := rfl
theorem ev_tTup {n : Nat} {gs : List D → SS → Option SS} {l : List D} : tTupT n gs (.tup l) S = if l.length = n then gs l S else none := rfl
theorem ev_tCons {g : D → SS → Option SS} {gs : List D → SS → Option SS} : tCons g gs (d :: ds) S = match g d S with
    | none => none
    | some S1 => gs ds S1 := rfl
theorem ev_tNil : tNil [] S = some S := rfl
end
theorem sub0 {a : D} {l : List D} : subscD (.tup (a :: l)) (.int 0) = some (.v a) := by
  show (atI (a :: l) 0).map R.v = _
  unfold atI ixN
  simp
theorem sub1 {a b : D} {l : List D} : subscD (.tup (a :: b :: l)) (.int 1) = some (.v b) := by
  show (atI (a :: b :: l) 1).map R.v = _
  have q : (1 : Int) < ((a :: b :: l).length : Nat) := by simp only [List.length_cons]; omega
  unfold atI ixN
  rw [if_pos (by omega), if_pos q]
  rfl
theorem sub2 {a b c : D} {l : List D} : subscD (.tup (a :: b :: c :: l)) (.int 2) = some (.v c) := by
  show (atI (a :: b :: c :: l) 2).map R.v = _
  have q : (2 : Int) < ((a :: b :: c :: l).length : Nat) := by simp only [List.length_cons]; omega
  unfold atI ixN
  rw [if_pos (by omega), if_pos q]
  rfl
@[simp] theorem toB_deq (i j : Int) : toB deq (.int i) (.int j) = some (.v (.bl (i == j))) := rfl
@[simp] theorem inK (neg : Bool) (s : Str) : gInB neg kv_KINDS (.str s) = some (if neg then !(tblO kv_KINDS s).isSome else (tblO kv_KINDS s).isSome) := rfl
@[simp] theorem ixK (s : Str) : gIxT kv_KINDS (.str s) = (tblO kv_KINDS s).map fun v => .v (.str v) := rfl
theorem tk1 : tblO kv_KINDS "slot" = some "name places" := by kernel_rfl
theorem tk2 : tblO kv_KINDS "places" = some "name places" := by kernel_rfl
theorem tk3 : tblO kv_KINDS "order" = some "name wishes" := by kernel_rfl
theorem tk4 : tblO kv_KINDS "wish" = some "name wishes" := by kernel_rfl
theorem tk5 : tblO kv_KINDS "cancel" = some "name" := by kernel_rfl
theorem tk6 : tblO kv_KINDS "note" = some "text" := by kernel_rfl
theorem sl5 {a b c x y : D} : gSl (.tup [a, b, c, x, y]) (some 3) none = some (.v (.tup [x, y])) := by kernel_rfl
theorem sl4 {a b c x : D} : gSl (.tup [a, b, c, x]) (some 3) none = some (.v (.tup [x])) := by kernel_rfl
theorem all1 : gAll [.lst [.bl true]] = some (.v (.bl true)) := by kernel_rfl
theorem all2 : gAll [.lst [.bl true, .bl true]] = some (.v (.bl true)) := by kernel_rfl
theorem zz2 {a b x y : D} : gZip2 [.lst [a, b], .tup [x, y]] = some [.tup [a, x], .tup [b, y]] := rfl
theorem zz1 {a x : D} : gZip2 [.lst [a], .tup [x]] = some [.tup [a, x]] := rfl
/-- an event of two parts -/
theorem event2 {id kd p1 p2 ks : Str} {t : Int} {x y : D} (h0 : Nm id) (h1 : tblO kv_KINDS kd = some ks) (h2 : gSplit (.str ks) (.str " ") = some (.f (.lst [.str p1, .str p2]))) (h3 : Fn_is_part [.str p1, x] = .ret (.bl true) false []) (h4 : Fn_is_part [.str p2, y] = .ret (.bl true) false []) :
    Fn_is_event [.tup [.str id, .int t, .str kd, x, y]] = .ret (.bl true) false [] := by
  have n0 := part_name h0
  have n1 := part_places t
  refine ok_runF (S := [.shr (.tup [.str id, .int t, .str kd, x, y]), .shr (.lst [.str p1, .str p2]), .un, .un]) ?_ rfl
  show sem_is_event [.shr (.tup [.str id, .int t, .str kd, x, y]), .un, .un, .un] = _
  simp [sem_is_event, tyD, isTy, n0, n1, h1, h2, h3, h4, ev_sLc, ev_lcL_nil, ev_lcL_cons, ev_noEx, ev_wipe_nil, ev_wipe_cons, ev_unwipe_nil, ev_unwipe_cons, ev_sYes, ev_tTup, ev_tCons, ev_tNil, sub0, sub1, sub2, sl5, zz2, all2]
theorem event1 {id kd p1 ks : Str} {t : Int} {x : D} (h0 : Nm id) (h1 : tblO kv_KINDS kd = some ks) (h2 : gSplit (.str ks) (.str " ") = some (.f (.lst [.str p1]))) (h3 : Fn_is_part [.str p1, x] = .ret (.bl true) false []) :
    Fn_is_event [.tup [.str id, .int t, .str kd, x]] = .ret (.bl true) false [] := by
  have n0 := part_name h0
  have n1 := part_places t
  refine ok_runF (S := [.shr (.tup [.str id, .int t, .str kd, x]), .shr (.lst [.str p1]), .un, .un]) ?_ rfl
  show sem_is_event [.shr (.tup [.str id, .int t, .str kd, x]), .un, .un, .un] = _
  simp [sem_is_event, tyD, isTy, n0, n1, h1, h2, h3, ev_sLc, ev_lcL_nil, ev_lcL_cons, ev_noEx, ev_wipe_nil, ev_wipe_cons, ev_unwipe_nil, ev_unwipe_cons, ev_sYes, ev_tTup, ev_tCons, ev_tNil, sub0, sub1, sub2, sl4, zz1, all1]
theorem is_event_eq {e : Ev} (h : e.Ok) : Fn_is_event [e.d] = .ret (.bl true) false [] := by
  obtain ⟨id, t, kd, rest⟩ := e
  obtain ⟨h0, _, r⟩ := h
  have r : Rest kd rest := r
  have h0 : NmX id := h0
  show Fn_is_event [.tup (.str id :: .int (t : Nat) :: .str kd :: rest)] = _
  cases r with
  | slot k n v => rcases k with rfl | rfl
                  · exact event2 h0.nm tk1 sp1 (part_name n.nm) (part_places _)
                  · exact event2 h0.nm tk2 sp1 (part_name n.nm) (part_places _)
  | order k n w l => rcases k with rfl | rfl
                     · exact event2 h0.nm tk3 sp2 (part_name n.nm) (part_wishes (fun x hx => (w x hx).nm) (by omega))
                     · exact event2 h0.nm tk4 sp2 (part_name n.nm) (part_wishes (fun x hx => (w x hx).nm) (by omega))
  | cancel k n => rw [k]; exact event1 h0.nm tk5 sp3 (part_name n.nm)
  | note k t => rw [k]; exact event1 h0.nm tk6 sp4 (part_text t)
end Lk84
namespace Lk84
open PySem PySem.Spec PyProof.Rows L2 L2.Dl
def numT (i : Int) : Str := ((toString i : String) : Str)
def txtD : D → Str
  | .str s => s
  | .int i => numT i
  | .tup l => Txt.join "," ((strsOf l).getD [])
  | _ => ""
def textsOf (e : Ev) : List Str := e.id :: numT (e.t : Nat) :: e.kd :: e.rest.map txtD
def lineS (e : Ev) : Str := Txt.join " " (textsOf e)
theorem digits_t : ∀ t : Nat, t < 12 → Fn__law_digits 8 [.int (t : Nat)] = .ret (.str (numT (t : Nat))) false []
  | 0, _ => by kernel_rfl
  | 1, _ => by kernel_rfl
  | 2, _ => by kernel_rfl
  | 3, _ => by kernel_rfl
  | 4, _ => by kernel_rfl
  | 5, _ => by kernel_rfl
  | 6, _ => by kernel_rfl
  | 7, _ => by kernel_rfl
  | 8, _ => by kernel_rfl
  | 9, _ => by kernel_rfl
  | 10, _ => by kernel_rfl
  | 11, _ => by kernel_rfl
  | n + 12, h => by omega
theorem digits_v {v : Int} (h : v = -1 ∨ v = 0 ∨ v = 1 ∨ v = 2 ∨ v = 3) : Fn__law_digits 8 [.int v] = .ret (.str (numT v)) false [] := by
  rcases h with rfl | rfl | rfl | rfl | rfl <;> kernel_rfl
theorem gStr2_t {t : Nat} (h : t < 12) : gStr2 [.int (t : Nat)] = some (.v (.str (numT (t : Nat)))) := by
  show (if ((t : Int)).natAbs < 2 ^ 64 then _ else _) = _
  rw [if_pos (by simp; omega)]
  rfl
theorem gStr2_v {v : Int} (h : v = -1 ∨ v = 0 ∨ v = 1 ∨ v = 2 ∨ v = 3) : gStr2 [.int v] = some (.v (.str (numT v))) := by
  rcases h with rfl | rfl | rfl | rfl | rfl <;> rfl
theorem len_t : ∀ t : Nat, t < 12 → (numT (t : Nat)).length ≤ 2 ∧ ∀ c ∈ (numT (t : Nat)).cps.toList, c ∈ okC := by
  decide +kernel
theorem len_v {v : Int} (h : v = -1 ∨ v = 0 ∨ v = 1 ∨ v = 2 ∨ v = 3) : (numT v).length ≤ 2 ∧ ∀ c ∈ (numT v).cps.toList, c ∈ okC := by
  rcases h with rfl | rfl | rfl | rfl | rfl <;> decide +kernel
end Lk84
namespace Lk84
open PySem PySem.Spec PyProof.Rows L2 L2.Dl
theorem cps_append (a b : Str) : (a ++ b).cps.toList = a.cps.toList ++ b.cps.toList := by
  show (a.cps ++ b.cps).toList = _
  simp
theorem len_append (a b : Str) : (a ++ b).length = a.length + b.length := by
  show (a.cps ++ b.cps).size = _
  simp [Str.length]
theorem str_assoc (a b c : Str) : a ++ b ++ c = a ++ (b ++ c) := by
  show (⟨(a.cps ++ b.cps) ++ c.cps⟩ : Str) = ⟨a.cps ++ (b.cps ++ c.cps)⟩
  rw [Array.append_assoc]
theorem join_one (y a : Str) : Txt.join y [a] = a := by rw [TL.join_eq]; rfl
theorem join_cons (y a b : Str) (r : List Str) : Txt.join y (a :: b :: r) = a ++ y ++ Txt.join y (b :: r) := by rw [TL.join_eq, TL.join_eq]; rfl
theorem join_nil (y : Str) : Txt.join y [] = "" := by rw [TL.join_eq]; rfl
/-- signs and length of what is joined -/
theorem join_ok {y : Str} (hy : ∀ c ∈ y.cps.toList, c ∈ okC) (hz : y.length ≤ 1) : ∀ {l : List Str}, (∀ s ∈ l, s.length ≤ 100 ∧ ∀ c ∈ s.cps.toList, c ∈ okC) → (Txt.join y l).length ≤ 101 * l.length ∧ ∀ c ∈ (Txt.join y l).cps.toList, c ∈ okC
  | [], _ => by rw [join_nil]; exact ⟨Nat.zero_le _, fun c h => by
      have z : ("" : Str).cps.toList = [] := by decide +kernel
      rw [z] at h; cases h⟩
  | [a], h => by
    rw [join_one]
    have := h a (by simp)
    exact ⟨by simp; omega, this.2⟩
  | a :: b :: r, h => by
    obtain ⟨h1, h2⟩ := h a (by simp)
    obtain ⟨h3, h4⟩ := join_ok hy hz (l := b :: r) fun s hs => h s (List.mem_cons_of_mem _ hs)
    rw [join_cons, len_append, len_append]
    refine ⟨by simp only [List.length_cons] at h3 ⊢; omega, fun c hc => ?_⟩
    rw [cps_append, cps_append] at hc
    rcases List.mem_append.mp hc with hc | hc
    · rcases List.mem_append.mp hc with hc | hc
      · exact h2 c hc
      · exact hy c hc
    · exact h4 c hc
theorem ch_sp : ∀ c ∈ (" " : Str).cps.toList, c ∈ okC := by decide +kernel
theorem ch_cm : ∀ c ∈ ("," : Str).cps.toList, c ∈ okC := by decide +kernel
theorem ch_kd {kd : Str} (h : kd = "slot" ∨ kd = "places" ∨ kd = "order" ∨ kd = "wish" ∨ kd = "cancel" ∨ kd = "note") : kd.length ≤ 100 ∧ ∀ c ∈ kd.cps.toList, c ∈ okC := by
  rcases h with rfl | rfl | rfl | rfl | rfl | rfl <;> decide +kernel
theorem ch_note {t : Str} (h : t = "a note" ∨ t = "changed here") : t.length ≤ 100 ∧ ∀ c ∈ t.cps.toList, c ∈ okC := by
  rcases h with rfl | rfl <;> decide +kernel
theorem NmX.ok {s : Str} (h : NmX s) : s.length ≤ 100 ∧ ∀ c ∈ s.cps.toList, c ∈ okC := ⟨by have := h.len; omega, h.ch⟩
theorem Rest.kind {kd : Str} {r : List D} (h : Rest kd r) : kd = "slot" ∨ kd = "places" ∨ kd = "order" ∨ kd = "wish" ∨ kd = "cancel" ∨ kd = "note" := by
  cases h with
  | slot k _ _ => rcases k with rfl | rfl <;> simp
  | order k _ _ _ => rcases k with rfl | rfl <;> simp
  | cancel k _ => rw [k]; simp
  | note k _ => rw [k]; simp
theorem wishes_ok {ws : List Str} (h : ∀ w ∈ ws, NmX w) (hl : ws.length ≤ 3) : (Txt.join "," ws).length ≤ 100 ∧ ∀ c ∈ (Txt.join "," ws).cps.toList, c ∈ okC := by
  refine ⟨?_, (join_ok ch_cm (by decide +kernel) fun s hs => (h s hs).ok).2⟩
  have lc : ("," : Str).length = 1 := by decide +kernel
  match ws, hl, h with
  | [], _, _ => rw [join_nil]; decide +kernel
  | [a], _, h => rw [join_one]; exact (h a (by simp)).ok.1
  | [a, b], _, h =>
    rw [join_cons, join_one, len_append, len_append, lc]
    have := (h a (by simp)).len
    have := (h b (by simp)).len
    omega
  | [a, b, c], _, h =>
    rw [join_cons, join_cons, join_one, len_append, len_append, len_append, len_append, lc]
    have := (h a (by simp)).len
    have := (h b (by simp)).len
    have := (h c (by simp)).len
    omega
  | _ :: _ :: _ :: _ :: _, hl, _ => simp at hl
theorem rest_ok {kd : Str} {r : List D} (h : Rest kd r) : ∀ s ∈ r.map txtD, s.length ≤ 100 ∧ ∀ c ∈ s.cps.toList, c ∈ okC := by
  intro s hs
  cases h with
  | slot k n v =>
    simp only [List.map_cons, List.map_nil, List.mem_cons, List.not_mem_nil, or_false] at hs
    rcases hs with rfl | rfl
    · exact n.ok
    · have := len_v v; exact ⟨Nat.le_trans this.1 (by decide), this.2⟩
  | @order nm ws k n w l =>
    simp only [List.map_cons, List.map_nil, List.mem_cons, List.not_mem_nil, or_false] at hs
    rcases hs with rfl | rfl
    · exact n.ok
    · show (Txt.join "," ((strsOf (ws.map .str)).getD [])).length ≤ 100 ∧ _
      rw [show txtD (.tup (ws.map .str)) = Txt.join "," ((strsOf (ws.map .str)).getD []) from rfl, strsOf_map]
      exact wishes_ok w l
  | cancel _ n =>
    simp only [List.map_cons, List.map_nil, List.mem_cons, List.not_mem_nil, or_false] at hs
    rw [hs]; exact n.ok
  | note _ k =>
    simp only [List.map_cons, List.map_nil, List.mem_cons, List.not_mem_nil, or_false] at hs
    rw [hs]; exact ch_note k
theorem texts_ok {e : Ev} (h : e.Ok) : ∀ s ∈ textsOf e, s.length ≤ 100 ∧ ∀ c ∈ s.cps.toList, c ∈ okC := by
  intro s hs
  rcases List.mem_cons.mp hs with rfl | hs
  · exact h.id.ok
  · rcases List.mem_cons.mp hs with rfl | hs
    · have := len_t e.t h.tm; exact ⟨Nat.le_trans this.1 (by decide), this.2⟩
    · rcases List.mem_cons.mp hs with rfl | hs
      · exact ch_kd h.r.kind
      · exact rest_ok h.r s hs
theorem rest_len {kd : Str} {r : List D} (h : Rest kd r) : r.length ≤ 2 := by cases h <;> simp
theorem line_ok {e : Ev} (h : e.Ok) : (lineS e).length ≤ 600 ∧ ∀ c ∈ (lineS e).cps.toList, c ∈ okC := by
  have q := join_ok ch_sp (by decide +kernel) (texts_ok h)
  refine ⟨Nat.le_trans q.1 ?_, q.2⟩
  have : (textsOf e).length ≤ 5 := by
    have := rest_len h.r
    simp only [textsOf, List.length_cons, List.length_map]
    omega
  omega
end Lk84
namespace Lk84
open PySem PySem.Spec PyProof.Rows L2 L2.Dl
theorem ev_forL_cons {g : D → SS → Option SS} {body : M Fl} {d : D} {ds : List D} {S : SS} : forL g body (d :: ds) S = match g d S with
    | none => .no
    | some S1 => (body S1).bind fun fl S2 => match fl with
      | .nx => forL g body ds S2
      | .ct => forL g body ds S2
      | .bk => .ok .nx S2
      | .rt d fr => .ok (.rt d fr) S2 := rfl
theorem joinO_ok {y : Str} {l : List Str} (h : (l.map (·.length)).sum + l.length * y.length ≤ 16777216) : joinO y (l.map .str) = some (.v (.str (Txt.join y l))) := by
  unfold joinO
  rw [strsOf_map]
  simp only [if_pos h]
theorem sum_le {l : List Str} (h : ∀ s ∈ l, s.length ≤ 100) : (l.map (·.length)).sum ≤ 100 * l.length := by
  induction l with
  | nil => simp
  | cons a l ih =>
    have := ih fun s hs => h s (List.mem_cons_of_mem _ hs)
    have := h a List.mem_cons_self
    simp only [List.map_cons, List.sum_cons, List.length_cons]
    omega
theorem len_sp : (" " : Str).length = 1 := by decide +kernel
theorem len_cm : ("," : Str).length = 1 := by decide +kernel
theorem line_join {e : Ev} (h : e.Ok) : gJoin (.str " ") (.lst ((textsOf e).map .str)) = some (.v (.str (lineS e))) := by
  have q := sum_le fun s hs => (texts_ok h s hs).1
  have : (textsOf e).length ≤ 5 := by
    have := rest_len h.r
    simp only [textsOf, List.length_cons, List.length_map]
    omega
  exact joinO_ok (by rw [len_sp]; omega)
theorem wish_join {ws : List Str} (h : ∀ w ∈ ws, NmX w) (hl : ws.length ≤ 3) : gJoin (.str ",") (.tup (ws.map .str)) = some (.v (.str (Txt.join "," ws))) := by
  have q := sum_le fun s hs => (h s hs).ok.1
  exact joinO_ok (by rw [len_cm]; omega)
@[simp] theorem gStr2_str (s : Str) : gStr2 [.str s] = some (.v (.str s)) := rfl
noncomputable abbrev txB : M Fl := (sExpr (mutL 1 gApp (sCons (sIf (sTru (sIsi ["tuple"] (sNm 2))) (sM1 gJoin (sV (.str ",")) (sNm 2)) (sCall gStr2 (sCons (sNm 2) sNil))) sNil)))
theorem gApp_d (l : List D) (d : D) (h : l.length < 1000000) : gApp l [d] = some (l ++ [d], .non) := gApp_lt h
theorem text_of_eq {e : Ev} (h : e.Ok) : Fn_text_of [e.d] = .ret (.str (lineS e)) false [] := by
  have lj := line_join h
  obtain ⟨id, t, kd, rest⟩ := e
  have hg := gStr2_t h.tm
  have e1 : sAsg 1 (sMake gLst (sCons (sOp subscD (sNm 0) (sV (.int 0))) (sCons (sCall gStr2 (sCons (sOp subscD (sNm 0) (sV (.int 1))) sNil)) (sCons (sOp subscD (sNm 0) (sV (.int 2))) sNil)))) [.shr (Ev.d ⟨id, t, kd, rest⟩), .un, .un] =
      .ok .nx [.shr (Ev.d ⟨id, t, kd, rest⟩), .own none (.lst [.str id, .str (numT (t : Nat)), .str kd]), .un] := by
    simp only [Ev.d] at hg ⊢
    simp [sub0, sub1, sub2, hg]
  have e2 : ∃ x, sFor (iSeq (sSlLo (sNm 0) (sV (.int 3)))) (tNm 2) txB [.shr (Ev.d ⟨id, t, kd, rest⟩), .own none (.lst [.str id, .str (numT (t : Nat)), .str kd]), .un] =
      .ok .nx [.shr (Ev.d ⟨id, t, kd, rest⟩), .own none (.lst ((textsOf ⟨id, t, kd, rest⟩).map .str)), x] := by
    cases (show Rest kd rest from h.r) with
    | @slot nm v k n hv =>
      have g2 := gStr2_v hv
      exact ⟨.shr (.int v), by simp [Ev.d, sl5, seqOf, ev_forL_cons, tyD, isTy, g2, gApp_d, textsOf, txtD]⟩
    | @order nm ws k n w l =>
      have wj := wish_join w l
      have so := strsOf_map ws
      exact ⟨.shr (.tup (ws.map .str)), by simp [Ev.d, sl5, seqOf, ev_forL_cons, tyD, isTy, wj, gApp_d, textsOf, txtD, so]⟩
    | @cancel nm k n => exact ⟨.shr (.str nm), by simp [Ev.d, sl4, seqOf, ev_forL_cons, tyD, isTy, gApp_d, textsOf, txtD]⟩
    | @note tx k _ => exact ⟨.shr (.str tx), by simp [Ev.d, sl4, seqOf, ev_forL_cons, tyD, isTy, gApp_d, textsOf, txtD]⟩
  obtain ⟨x, e2⟩ := e2
  refine ok_runF (S := [.shr (Ev.d ⟨id, t, kd, rest⟩), .own none (.lst ((textsOf ⟨id, t, kd, rest⟩).map .str)), x]) ?_ rfl
  refine ok_sSeq e1 (ok_sSeq e2 ?_)
  simp [lj]
theorem line_of_eq {e : Ev} (h : e.Ok) : Fn_line_of [e.d] = .ret (.str (lineS e)) false [] := by
  have h1 := is_event_eq h
  have h2 := text_of_eq h
  refine ok_runF (S := [.shr e.d]) ?_ rfl
  show sem_line_of [.shr e.d] = _
  simp [sem_line_of, h1, h2]
end Lk84
namespace Lk84
open PySem PySem.Spec PyProof.Rows L2 L2.Dl
theorem addD_ok {a b : Str} (h : a.length + b.length ≤ 1000000) : addD (.str a) (.str b) = some (.v (.str (a ++ b))) := by
  show (if a.length + b.length ≤ 1000000 then some (R.v (.str (a ++ b))) else none) = _
  rw [if_pos h]
theorem sub3 {a b c d : D} {l : List D} : subscD (.tup (a :: b :: c :: d :: l)) (.int 3) = some (.v d) := by
  show (atI (a :: b :: c :: d :: l) 3).map R.v = _
  have q : (3 : Int) < ((a :: b :: c :: d :: l).length : Nat) := by simp only [List.length_cons]; omega
  unfold atI ixN
  rw [if_pos (by omega), if_pos q]
  rfl
theorem sub4 {a b c d e : D} {l : List D} : subscD (.tup (a :: b :: c :: d :: e :: l)) (.int 4) = some (.v e) := by
  show (atI (a :: b :: c :: d :: e :: l) 4).map R.v = _
  have q : (4 : Int) < ((a :: b :: c :: d :: e :: l).length : Nat) := by simp only [List.length_cons]; omega
  unfold atI ixN
  rw [if_pos (by omega), if_pos q]
  rfl
noncomputable abbrev hdL : M Fl := (sAsg 1 (sOp addD (sOp addD (sOp addD (sOp addD (sOp addD (sOp addD (sOp subscD (sNm 0) (sV (.int 0))) (sV (.str " "))) (callM [false] (Fn__law_digits 8) (sCons (sOp subscD (sNm 0) (sV (.int 1))) sNil))) (sV (.str " "))) (sOp subscD (sNm 0) (sV (.int 2)))) (sV (.str " "))) (sOp subscD (sNm 0) (sV (.int 3)))))
theorem hdL_eq {id kd r0 : Str} {t : Nat} {l : List D} (h : id.length ≤ 100) (ht : t < 12) (hk : kd.length ≤ 100) (hr : r0.length ≤ 100) :
    hdL [.shr (.tup (.str id :: .int (t : Nat) :: .str kd :: .str r0 :: l)), .un] = .ok .nx [.shr (.tup (.str id :: .int (t : Nat) :: .str kd :: .str r0 :: l)), .shr (.str (id ++ " " ++ numT (t : Nat) ++ " " ++ kd ++ " " ++ r0))] := by
  have hd := digits_t t ht
  have hl := (len_t t ht).1
  have f1 : addD (.str id) (.str " ") = some (.v (.str (id ++ " "))) := addD_ok (by rw [len_sp]; omega)
  have f2 : addD (.str (id ++ " ")) (.str (numT (t : Nat))) = some (.v (.str (id ++ " " ++ numT (t : Nat)))) := addD_ok (by rw [len_append, len_sp]; omega)
  have f3 : addD (.str (id ++ " " ++ numT (t : Nat))) (.str " ") = some (.v (.str (id ++ " " ++ numT (t : Nat) ++ " "))) := addD_ok (by simp only [len_append, len_sp]; omega)
  have f4 : addD (.str (id ++ " " ++ numT (t : Nat) ++ " ")) (.str kd) = some (.v (.str (id ++ " " ++ numT (t : Nat) ++ " " ++ kd))) := addD_ok (by simp only [len_append, len_sp]; omega)
  have f5 : addD (.str (id ++ " " ++ numT (t : Nat) ++ " " ++ kd)) (.str " ") = some (.v (.str (id ++ " " ++ numT (t : Nat) ++ " " ++ kd ++ " "))) := addD_ok (by simp only [len_append, len_sp]; omega)
  have f6 : addD (.str (id ++ " " ++ numT (t : Nat) ++ " " ++ kd ++ " ")) (.str r0) = some (.v (.str (id ++ " " ++ numT (t : Nat) ++ " " ++ kd ++ " " ++ r0))) := addD_ok (by simp only [len_append, len_sp]; omega)
  simp [hdL, sub0, sub1, sub2, sub3, hd, f1, f2, f3, f4, f5, f6]
theorem ms1 : memD (.str "slot") (.tup [.str "slot", .str "places"]) = some true := by kernel_rfl
theorem ms2 : memD (.str "places") (.tup [.str "slot", .str "places"]) = some true := by kernel_rfl
theorem ms3 : memD (.str "order") (.tup [.str "slot", .str "places"]) = some false := by kernel_rfl
theorem ms4 : memD (.str "wish") (.tup [.str "slot", .str "places"]) = some false := by kernel_rfl
theorem ms5 : memD (.str "cancel") (.tup [.str "slot", .str "places"]) = some false := by kernel_rfl
theorem ms6 : memD (.str "note") (.tup [.str "slot", .str "places"]) = some false := by kernel_rfl
theorem mo3 : memD (.str "order") (.tup [.str "order", .str "wish"]) = some true := by kernel_rfl
theorem mo4 : memD (.str "wish") (.tup [.str "order", .str "wish"]) = some true := by kernel_rfl
theorem mo5 : memD (.str "cancel") (.tup [.str "order", .str "wish"]) = some false := by kernel_rfl
theorem mo6 : memD (.str "note") (.tup [.str "order", .str "wish"]) = some false := by kernel_rfl
theorem line4 {id t kd r0 : Str} : Txt.join " " [id, t, kd, r0] = id ++ " " ++ t ++ " " ++ kd ++ " " ++ r0 := by
  rw [join_cons, join_cons, join_cons, join_one]
  simp only [str_assoc]
theorem line5 {id t kd r0 r1 : Str} : Txt.join " " [id, t, kd, r0, r1] = id ++ " " ++ t ++ " " ++ kd ++ " " ++ r0 ++ " " ++ r1 := by
  rw [join_cons, join_cons, join_cons, join_cons, join_one]
  simp only [str_assoc]
theorem law_line_eq {e : Ev} (h : e.Ok) : Fn__law_line [e.d] = .ret (.str (lineS e)) false [] := by
  obtain ⟨id, t, kd, rest⟩ := e
  have hi : id.length ≤ 100 := h.id.ok.1
  have hk : kd.length ≤ 100 := (ch_kd h.r.kind).1
  have htm : t < 12 := h.tm
  cases (show Rest kd rest from h.r) with
  | @slot nm v k n hv =>
    have k : kd = "slot" ∨ kd = "places" := k
    have e1 := hdL_eq (id := id) (kd := kd) (r0 := nm) (l := [.int v]) hi htm hk n.ok.1
    have dv := digits_v hv
    have lv := (len_v hv).1
    have ln := n.ok.1
    have lt := (len_t t htm).1
    have f7 : addD (.str (id ++ " " ++ numT (t : Nat) ++ " " ++ kd ++ " " ++ nm)) (.str " ") = some (.v (.str (id ++ " " ++ numT (t : Nat) ++ " " ++ kd ++ " " ++ nm ++ " "))) := addD_ok (by simp only [len_append, len_sp]; omega)
    have f8 : addD (.str (id ++ " " ++ numT (t : Nat) ++ " " ++ kd ++ " " ++ nm ++ " ")) (.str (numT v)) = some (.v (.str (id ++ " " ++ numT (t : Nat) ++ " " ++ kd ++ " " ++ nm ++ " " ++ numT v))) := addD_ok (by simp only [len_append, len_sp]; omega)
    have le : lineS ⟨id, t, kd, [.str nm, .int v]⟩ = id ++ " " ++ numT (t : Nat) ++ " " ++ kd ++ " " ++ nm ++ " " ++ numT v := line5
    rw [le]
    have ms : memD (.str kd) (.tup [.str "slot", .str "places"]) = some true := by
      rcases k with k | k <;> rw [k]
      · exact ms1
      · exact ms2
    refine ok_runF (S := [.shr (.tup (.str id :: .int (t : Nat) :: .str kd :: .str nm :: [.int v])), .shr (.str (id ++ " " ++ numT (t : Nat) ++ " " ++ kd ++ " " ++ nm))]) (ok_sSeq e1 (ok_sSeqR ?_)) rfl
    simp [sub2, ms, f7, f8, sub4, dv]
  | @order nm ws k n w l =>
    have k : kd = "order" ∨ kd = "wish" := k
    have e1 := hdL_eq (id := id) (kd := kd) (r0 := nm) (l := [.tup (ws.map .str)]) hi htm hk n.ok.1
    have wj := wish_join w l
    have lw := (wishes_ok w l).1
    have ln := n.ok.1
    have lt := (len_t t htm).1
    have f7 : addD (.str (id ++ " " ++ numT (t : Nat) ++ " " ++ kd ++ " " ++ nm)) (.str " ") = some (.v (.str (id ++ " " ++ numT (t : Nat) ++ " " ++ kd ++ " " ++ nm ++ " "))) := addD_ok (by simp only [len_append, len_sp]; omega)
    have f8 : addD (.str (id ++ " " ++ numT (t : Nat) ++ " " ++ kd ++ " " ++ nm ++ " ")) (.str (Txt.join "," ws)) = some (.v (.str (id ++ " " ++ numT (t : Nat) ++ " " ++ kd ++ " " ++ nm ++ " " ++ Txt.join "," ws))) := addD_ok (by simp only [len_append, len_sp]; omega)
    have le : lineS ⟨id, t, kd, [.str nm, .tup (ws.map .str)]⟩ = id ++ " " ++ numT (t : Nat) ++ " " ++ kd ++ " " ++ nm ++ " " ++ Txt.join "," ws := by
      have : lineS ⟨id, t, kd, [.str nm, .tup (ws.map .str)]⟩ = Txt.join " " [id, numT (t : Nat), kd, nm, Txt.join "," ((strsOf (ws.map .str)).getD [])] := rfl
      rw [this, strsOf_map]
      exact line5
    rw [le]
    have ms : memD (.str kd) (.tup [.str "slot", .str "places"]) = some false := by
      rcases k with k | k <;> rw [k]
      · exact ms3
      · exact ms4
    have mo : memD (.str kd) (.tup [.str "order", .str "wish"]) = some true := by
      rcases k with k | k <;> rw [k]
      · exact mo3
      · exact mo4
    refine ok_runF (S := [.shr (.tup (.str id :: .int (t : Nat) :: .str kd :: .str nm :: [.tup (ws.map .str)])), .shr (.str (id ++ " " ++ numT (t : Nat) ++ " " ++ kd ++ " " ++ nm))]) (ok_sSeq e1 ?_) rfl
    simp [sub2, ms, mo, f7, f8, sub4, wj]
  | @cancel nm k n =>
    have k : kd = "cancel" := k
    subst k
    have e1 := hdL_eq (id := id) (kd := "cancel") (r0 := nm) (l := []) hi htm hk n.ok.1
    rw [show lineS ⟨id, t, "cancel", [.str nm]⟩ = id ++ " " ++ numT (t : Nat) ++ " " ++ "cancel" ++ " " ++ nm from line4]
    refine ok_runF (S := [.shr (.tup (.str id :: .int (t : Nat) :: .str "cancel" :: .str nm :: [])), .shr (.str (id ++ " " ++ numT (t : Nat) ++ " " ++ "cancel" ++ " " ++ nm))]) (ok_sSeq e1 ?_) rfl
    simp [sub2, ms5, mo5]
  | @note tx q k =>
    have q : kd = "note" := q
    subst q
    have e1 := hdL_eq (id := id) (kd := "note") (r0 := tx) (l := []) hi htm hk (ch_note k).1
    rw [show lineS ⟨id, t, "note", [.str tx]⟩ = id ++ " " ++ numT (t : Nat) ++ " " ++ "note" ++ " " ++ tx from line4]
    refine ok_runF (S := [.shr (.tup (.str id :: .int (t : Nat) :: .str "note" :: .str tx :: [])), .shr (.str (id ++ " " ++ numT (t : Nat) ++ " " ++ "note" ++ " " ++ tx))]) (ok_sSeq e1 ?_) rfl
    simp [sub2, ms6, mo6]
end Lk84
namespace Lk84
open PySem PySem.Spec PyProof.Rows L2 L2.Dl
abbrev MM : Int := 2305843009213693951
def stepV (v : Int) (c : Nat) : Int := (v * 257 + c) % MM
def valueS (s : Str) : Int := s.cps.toList.foldl stepV 0
theorem stepV_rng (v : Int) (c : Nat) : 0 ≤ stepV v c ∧ stepV v c < MM := ⟨Int.emod_nonneg _ (by decide), Int.emod_lt_of_pos _ (by decide)⟩
theorem ord_1 (c : Nat) : gOrd [.str ⟨#[c]⟩] = some (.v (.int c)) := rfl
theorem seq_str (s : Str) : seqOf (.str s) = some (s.cps.toList.map fun c => .str ⟨#[c]⟩) := rfl
noncomputable abbrev vB : M Fl := (sAsg 1 (sOp modD (sOp addD (sOp mulD (sNm 1) (sV (.int 257))) (sCall gOrd (sCons (sNm 2) sNil))) (sV (.int 2305843009213693951))))
theorem vB_eq {d : D} {v : Int} (hv : 0 ≤ v ∧ v < MM) (c : Nat) : vB [.shr d, .shr (.int v), .shr (.str ⟨#[c]⟩)] = .ok .nx [.shr d, .shr (.int (stepV v c)), .shr (.str ⟨#[c]⟩)] := by
  have m : mulD (.int v) (.int 257) = some (.v (.int (v * 257))) := by
    simp [mulD, Dl.intD]
  have q : modD (.int (v * 257 + c)) (.int MM) = some (.v (.int (stepV v c))) := modD_pos (by decide)
  simp [vB, m, ord_1, q]
theorem fold_rng : ∀ (l : List Nat) (v : Int), 0 ≤ v ∧ v < MM → 0 ≤ l.foldl stepV v ∧ l.foldl stepV v < MM
  | [], v, h => h
  | c :: l, v, _ => fold_rng l _ (stepV_rng v c)
theorem value_of_eq {e : Ev} (h : e.Ok) : Fn_value_of [e.d] = .ret (.int (valueS (lineS e))) false [] := by
  have tx := text_of_eq h
  obtain ⟨e1, _⟩ := forL_fold (g := tNm 2) (body := vB) (fun c : Nat => D.str ⟨#[c]⟩) (fun q : Int × AV => [.shr e.d, .shr (.int q.1), q.2]) (fun q c => (stepV q.1 c, .shr (.str ⟨#[c]⟩))) (fun _ q => 0 ≤ q.1 ∧ q.1 < MM) (lineS e).cps.toList (0, .un) ⟨by decide, by decide⟩
    (fun c _ k q _ hq => ⟨_, rfl, vB_eq hq c, stepV_rng _ _⟩)
  have key : ∀ (l : List Nat) (q : Int × AV), (l.foldl (fun (q : Int × AV) c => (stepV q.1 c, AV.shr (.str ⟨#[c]⟩))) q).1 = l.foldl stepV q.1 := by
    intro l
    induction l with
    | nil => intro q; rfl
    | cons c l ih => intro q; exact ih _
  have k := key (lineS e).cps.toList (0, .un)
  generalize (lineS e).cps.toList.foldl (fun (q : Int × AV) c => (stepV q.1 c, AV.shr (.str ⟨#[c]⟩))) (0, .un) = r at e1 k
  obtain ⟨r1, r2⟩ := r
  have k : r1 = valueS (lineS e) := k
  subst k
  refine ok_runF (S := [.shr e.d, .shr (.int (valueS (lineS e))), r2]) (ok_sSeq (S1 := [.shr e.d, .shr (.int 0), .un]) rfl (ok_sSeq (ok_sFor (S1 := [.shr e.d, .shr (.int 0), .un]) ?_ e1) ?_)) rfl
  · simp [tx, seq_str]
  · simp
/-! ### the law's codes -/
noncomputable def codesD : D := resD (Fn__law_codes [])
theorem codes_eq : Fn__law_codes [] = .ret codesD true [] := by kernel_rfl
noncomputable def chk (c : Nat) : Bool := match subscD codesD (.str ⟨#[c]⟩) with
  | some (.v (.int i)) => i == (c : Int)
  | _ => false
theorem chk_all : ∀ c ∈ okC, chk c = true := by decide +kernel
theorem codes_at {c : Nat} (h : c ∈ okC) : subscD codesD (.str ⟨#[c]⟩) = some (.v (.int c)) := by
  have q := chk_all c h
  unfold chk at q
  split at q
  · rename_i i e
    rw [e]
    have : i = (c : Int) := by simpa using q
    rw [this]
  · cases q
end Lk84
namespace Lk84
open PySem PySem.Spec PyProof.Rows L2 L2.Dl
def stepH (h : Int) (e : Ev) : Int := (h * 1000003 + valueS (lineS e)) % MM
/-- the seals, from h on -/
def sealsFrom : Int → List Ev → List Int
  | _, [] => []
  | h, e :: l => stepH h e :: sealsFrom (stepH h e) l
def sealsI (l : List Ev) : List Int := sealsFrom 1 l
theorem stepH_rng (h : Int) (e : Ev) : 0 ≤ stepH h e ∧ stepH h e < MM := ⟨Int.emod_nonneg _ (by decide), Int.emod_lt_of_pos _ (by decide)⟩
def lastH (h : Int) (l : List Ev) : Int := l.foldl stepH h
theorem seals_snoc : ∀ (l : List Ev) (h : Int) (e : Ev), sealsFrom h (l ++ [e]) = sealsFrom h l ++ [stepH (lastH h l) e]
  | [], _, _ => rfl
  | a :: l, h, e => by
    simp only [List.cons_append, sealsFrom, seals_snoc l, lastH, List.foldl_cons]
theorem lastH_snoc (h : Int) (l : List Ev) (e : Ev) : lastH h (l ++ [e]) = stepH (lastH h l) e := by simp [lastH]
theorem seals_len : ∀ (l : List Ev) (h : Int), (sealsFrom h l).length = l.length
  | [], _ => rfl
  | a :: l, h => by simp [sealsFrom, seals_len l]
noncomputable abbrev lwC : M Fl := (sAsg 6 (sOp modD (sCall gInt (sCons (sOp addD (sOp mulD (sV (.int 257)) (sNm 6)) (sOp subscD (sNm 2) (sNm 7))) sNil)) (sNm 1)))
noncomputable abbrev lwB : M Fl := (sSeq (sAsg 6 (sV (.int 0)))
    (sSeq (sFor (iSeq (callM [false] Fn__law_line (sCons (sNm 5) sNil))) (tNm 7) lwC)
    (sSeq (sAsg 4 (sOp modD (sCall gInt (sCons (sOp addD (sOp mulD (sNm 4) (sV (.int 1000003))) (sNm 6)) sNil)) (sNm 1)))
    (sExpr (mutL 3 gApp (sCons (sNm 4) sNil))))))
noncomputable abbrev lwS (d : D) (ns : List Int) (h : Int) (x5 x6 x7 : AV) : SS := [.shr d, .shr (.int MM), .own none codesD, .own none (.lst (ns.map .int)), .shr (.int h), x5, x6, x7]
theorem lwC_eq {d d5 : D} {ns : List Int} {h v : Int} (hv : 0 ≤ v ∧ v < MM) {c : Nat} (hc : c ∈ okC) : lwC (lwS d ns h (.shr d5) (.shr (.int v)) (.shr (.str ⟨#[c]⟩))) = .ok .nx (lwS d ns h (.shr d5) (.shr (.int (stepV v c))) (.shr (.str ⟨#[c]⟩))) := by
  have m : mulD (.int 257) (.int v) = some (.v (.int (257 * v))) := by
    simp [mulD, Dl.intD]
  have q : modD (.int (257 * v + c)) (.int MM) = some (.v (.int ((257 * v + c) % MM))) := modD_pos (by decide)
  have ca := codes_at hc
  have e : stepV v c = (257 * v + c) % MM := by unfold stepV; rw [Int.mul_comm]
  rw [e]
  simp [lwC, lwS, m, ca, q]
theorem lw_line {d : D} {ns : List Int} {h : Int} {e : Ev} : ∀ (l : List Nat) (v : Int) (x7 : AV), (∀ c ∈ l, c ∈ okC) → 0 ≤ v ∧ v < MM → ∃ x7', forL (tNm 7) lwC (l.map fun c => .str ⟨#[c]⟩) (lwS d ns h (.shr e.d) (.shr (.int v)) x7) = .ok .nx (lwS d ns h (.shr e.d) (.shr (.int (l.foldl stepV v))) x7')
  | [], v, x7, _, _ => ⟨x7, rfl⟩
  | c :: l, v, x7, hc, hv => by
    obtain ⟨x7', q⟩ := lw_line (d := d) (ns := ns) (h := h) (e := e) l (stepV v c) (.shr (.str ⟨#[c]⟩)) (fun x hx => hc x (List.mem_cons_of_mem _ hx)) (stepV_rng _ _)
    refine ⟨x7', ?_⟩
    rw [List.map_cons, ev_forL_cons]
    have e1 := lwC_eq (d := d) (d5 := e.d) (ns := ns) (h := h) hv (hc c List.mem_cons_self)
    show (lwC (lwS d ns h (.shr e.d) (.shr (.int v)) (.shr (.str ⟨#[c]⟩)))).bind _ = _
    rw [e1]
    exact q
theorem lwB_eq {d : D} {ns : List Int} {h : Int} (hh : 0 ≤ h ∧ h < MM) {e : Ev} (he : e.Ok) (hn : ns.length < 1000000) (x6 x7 : AV) : ∃ x6' x7', lwB (lwS d ns h (.shr e.d) x6 x7) = .ok .nx (lwS d (ns ++ [stepH h e]) (stepH h e) (.shr e.d) x6' x7') := by
  have ll := law_line_eq he
  obtain ⟨x7', q⟩ := lw_line (d := d) (ns := ns) (h := h) (e := e) (lineS e).cps.toList 0 x7 (line_ok he).2 ⟨by decide, by decide⟩
  have q : forL (tNm 7) lwC ((lineS e).cps.toList.map fun c => .str ⟨#[c]⟩) (lwS d ns h (.shr e.d) (.shr (.int 0)) x7) = .ok .nx (lwS d ns h (.shr e.d) (.shr (.int (valueS (lineS e)))) x7') := q
  have m : mulD (.int h) (.int 1000003) = some (.v (.int (h * 1000003))) := by
    simp [mulD, Dl.intD]
  have r : modD (.int (h * 1000003 + valueS (lineS e))) (.int MM) = some (.v (.int (stepH h e))) := modD_pos (by decide)
  have ap := gApp_lt (l := ns.map D.int) (d := .int (stepH h e)) (by simpa using hn)
  refine ⟨.shr (.int (valueS (lineS e))), x7', ok_sSeq (S1 := lwS d ns h (.shr e.d) (.shr (.int 0)) x7) rfl (ok_sSeq (S1 := lwS d ns h (.shr e.d) (.shr (.int (valueS (lineS e)))) x7') (ok_sFor (S1 := lwS d ns h (.shr e.d) (.shr (.int 0)) x7) ?_ q) ?_)⟩
  · simp [lwS, ll, seq_str]
  · simp [lwS, m, r, ap]
theorem law_seal_eq {l : List Ev} (h : ∀ e ∈ l, e.Ok) (hl : l.length ≤ 1000) : Fn__law_seal [.lst (l.map Ev.d)] = .ret (.lst ((sealsI l).map .int)) true [] := by
  obtain ⟨S', e, _, ⟨_, _⟩, x5, x6, x7, rfl⟩ : ∃ S', forL (tNm 5) lwB (l.map Ev.d) (lwS (.lst (l.map Ev.d)) [] 1 .un .un .un) = .ok .nx S' ∧
      (∃ post, l = l ++ post) ∧ (0 ≤ lastH 1 l ∧ lastH 1 l < MM) ∧ ∃ x5 x6 x7, S' = lwS (.lst (l.map Ev.d)) (sealsI l) (lastH 1 l) x5 x6 x7 := by
    refine forL_list (I := fun pre S => (∃ post, l = pre ++ post) ∧ (0 ≤ lastH 1 pre ∧ lastH 1 pre < MM) ∧ ∃ x5 x6 x7, S = lwS (.lst (l.map Ev.d)) (sealsI pre) (lastH 1 pre) x5 x6 x7) Ev.d (pre := []) (fun pre e S he hI => ?_) ⟨⟨l, rfl⟩, ⟨by decide, by decide⟩, _, _, _, rfl⟩
    obtain ⟨post, ep⟩ := he
    obtain ⟨_, hr, x5, x6, x7, rfl⟩ := hI
    have hm : e ∈ l := by rw [ep]; simp
    have el := congrArg List.length ep
    simp only [List.length_append, List.length_cons] at el
    obtain ⟨y6, y7, q⟩ := lwB_eq (d := .lst (l.map Ev.d)) (ns := sealsI pre) hr (h e hm) (by unfold sealsI; rw [seals_len]; omega) x6 x7
    refine ⟨lwS (.lst (l.map Ev.d)) (sealsI pre) (lastH 1 pre) (.shr e.d) x6 x7, _, rfl, q, ⟨post, by rw [ep]; simp⟩, by rw [lastH_snoc]; exact stepH_rng _ _, .shr e.d, y6, y7, ?_⟩
    unfold sealsI
    rw [seals_snoc, lastH_snoc]
  refine ok_runF (S := [.shr (.lst (l.map Ev.d)), .shr (.int MM), .own none codesD, .un, .shr (.int (lastH 1 l)), x5, x6, x7]) ?_ rfl
  have ce := codes_eq
  refine ok_sSeq (S1 := [.shr (.lst (l.map Ev.d)), .shr (.int MM), .un, .un, .un, .un, .un, .un]) rfl (ok_sSeq (S1 := [.shr (.lst (l.map Ev.d)), .shr (.int MM), .own none codesD, .un, .un, .un, .un, .un]) ?_ (ok_sSeq (S1 := [.shr (.lst (l.map Ev.d)), .shr (.int MM), .own none codesD, .own none (.lst []), .un, .un, .un, .un]) rfl (ok_sSeq (S1 := lwS (.lst (l.map Ev.d)) [] 1 .un .un .un) rfl (ok_sSeq (ok_sFor (S1 := lwS (.lst (l.map Ev.d)) [] 1 .un .un .un) rfl e) (ok_sRet (ra := .at 3) rfl rfl)))))
  simp [ce]
end Lk84
namespace Lk84
open PySem PySem.Spec PyProof.Rows L2 L2.Dl
theorem lay_kd {kd : Str} (h : kd = "slot" ∨ kd = "places" ∨ kd = "order" ∨ kd = "wish" ∨ kd = "cancel" ∨ kd = "note") : Lay kd := by
  rcases h with rfl | rfl | rfl | rfl | rfl | rfl <;> (unfold Lay; decide +kernel)
theorem lay_note {t : Str} (h : t = "a note" ∨ t = "changed here") : Lay t := by
  rcases h with rfl | rfl <;> (unfold Lay; decide +kernel)
theorem ev_okd {e : Ev} (h : e.Ok) : OkD 10 2 e.d := by
  obtain ⟨id, t, kd, rest⟩ := e
  have hi : Lay id := h.id.lay
  have hk : Lay kd := lay_kd h.r.kind
  have r : Rest kd rest := h.r
  have hr : ∀ d ∈ rest, OkD 10 1 d := by
    intro d hd
    cases r with
    | slot k n v =>
      simp only [List.mem_cons, List.not_mem_nil, or_false] at hd
      rcases hd with rfl | rfl
      · exact .str n.lay
      · exact .int
    | @order nm ws k n w l =>
      simp only [List.mem_cons, List.not_mem_nil, or_false] at hd
      rcases hd with rfl | rfl
      · exact .str n.lay
      · refine .tup (by simp; omega) fun d hd => ?_
        obtain ⟨x, hx, rfl⟩ := List.mem_map.mp hd
        exact .str (w x hx).lay
    | cancel k n =>
      simp only [List.mem_cons, List.not_mem_nil, or_false] at hd
      rw [hd]; exact .str n.lay
    | note k t =>
      simp only [List.mem_cons, List.not_mem_nil, or_false] at hd
      rw [hd]; exact .str (lay_note t)
  have := rest_len r
  refine .tup (by simp only [List.length_cons]; omega) fun d hd => ?_
  rcases List.mem_cons.mp hd with rfl | hd
  · exact .str hi
  · rcases List.mem_cons.mp hd with rfl | hd
    · exact .int
    · rcases List.mem_cons.mp hd with rfl | hd
      · exact .str hk
      · exact hr d hd
def knK (l : List Ev) : List (Key × D) := l.map fun e => ((.inr e.id : Key), e.d)
theorem kn_none {l : List Ev} {s : Str} (h : ∀ e ∈ l, e.id ≠ s) : valD (knK l) (.inr s) = none := by
  unfold valD
  rw [Option.map_eq_none_iff, List.find?_eq_none]
  intro q hq
  obtain ⟨e, he, rfl⟩ := List.mem_map.mp hq
  simp only [decide_eq_true_eq, Sum.inr.injEq]
  exact h e he
theorem kn_put {l : List Ev} {e : Ev} (h : ∀ x ∈ l, x.id ≠ e.id) : putD (knK l) (.inr e.id) e.d = knK (l ++ [e]) := by
  unfold putD
  rw [if_neg]
  · simp [knK]
  · simp only [List.any_eq_true, not_exists, not_and]
    intro q hq
    obtain ⟨x, hx, rfl⟩ := List.mem_map.mp hq
    simp only [decide_eq_true_eq, Sum.inr.injEq]
    exact h x hx
noncomputable abbrev ioB : M Fl := (sIfS (sCmpT dne (sSetd 1 (sOp subscD (sNm 2) (sV (.int 0))) (sNm 2)) (sNm 2)) (sRaise 0 "invalid event: " (sV (.str "ids"))) sNext)
theorem ioB_eq {d : D} {l : List Ev} {e : Ev} (h : e.Ok) (hd : ∀ x ∈ l, x.id ≠ e.id) (hl : l.length < 1000000) : ioB [.shr d, .own none (.dct (knK l)), .shr e.d] = .ok .nx [.shr d, .own none (.dct (knK (l ++ [e]))), .shr e.d] := by
  have s0 : subscD e.d (.int 0) = some (.v (.str e.id)) := sub0
  have dn := (ev_okd h).dne_self (by decide)
  have kl : (knK l).length < 1000000 := by simpa [knK] using hl
  have q : sSetd 1 (sOp subscD (sNm 2) (sV (.int 0))) (sNm 2) [.shr d, .own none (.dct (knK l)), .shr e.d] = .ok (.v e.d) [.shr d, .own none (.dct (knK (l ++ [e]))), .shr e.d] := by
    unfold sSetd
    simp only [ev_ownK, List.getElem?_cons_succ, List.getElem?_cons_zero]
    simp [s0, Dl.keyOf, kl, kn_none hd, kn_put hd]
  refine ok_sIfF (ok_sCmpT q rfl rfl rfl dn) rfl
theorem ok_sSortL {n : Nat} {js : List Nat} {fb fa : M R} {S S1 : SS} {ra r : R} {l ks : List D} {cs : SS} (ha : fa S = .ok ra S1) (hl : lookLst S1 ra = some l) (hc : capsD S1 js = some cs) (hk : keysL n fb cs l = some ks) (hs : sortR l ks = some r) : sSortL n js fb fa S = .ok r S1 := by
  unfold sSortL sortLk
  simp only [ha, Res.bind, hl, hc, hk, hs, lift]
theorem keys_ts {l : List Ev} : keysL 1 (sMake gTup (sCons (sOp subscD (sNm 0) (sV (.int 1))) (sCons (sOp subscD (sNm 0) (sV (.int 0))) sNil))) [] (l.map Ev.d) = some (l.map fun e => .tup [.int (e.t : Nat), .str e.id]) := by
  induction l with
  | nil => rfl
  | cons e l ih =>
    have k : keyL 1 (sMake gTup (sCons (sOp subscD (sNm 0) (sV (.int 1))) (sCons (sOp subscD (sNm 0) (sV (.int 0))) sNil))) [] e.d = some (.tup [.int (e.t : Nat), .str e.id]) := by
      have s0 : subscD e.d (.int 0) = some (.v (.str e.id)) := sub0
      have s1 : subscD e.d (.int 1) = some (.v (.int (e.t : Nat))) := sub1
      unfold keyL
      have : sMake gTup (sCons (sOp subscD (sNm 0) (sV (.int 1))) (sCons (sOp subscD (sNm 0) (sV (.int 0))) sNil)) (lamS 1 [] e.d) = .ok (.v (.tup [.int (e.t : Nat), .str e.id])) [.shr e.d] := by
        show sMake gTup _ [.shr e.d] = _
        simp [s0, s1]
      rw [this]
      rfl
    simp only [List.map_cons, keysL, k, ih]
def sortE (l : List Ev) : List Ev := sortTS (fun e => (e.t : Int)) Ev.id l
theorem in_order_eq {l : List Ev} (h : ∀ e ∈ l, e.Ok) (hd : l.Pairwise fun a b => a.id ≠ b.id) (hl : l.length ≤ 1000) : Fn_in_order [.lst (l.map Ev.d)] = .ret (.lst ((sortE l).map Ev.d)) true [] := by
  have e1 : sLc [2] (iSeq (sNm 0)) (tNm 2) (sNot (sTru (callM [false] Fn_is_event (sCons (sNm 2) sNil)))) (sNm 2) [.shr (.lst (l.map Ev.d)), .un, .un] = .ok (.f (.lst [])) [.shr (.lst (l.map Ev.d)), .un, .un] := by
    obtain ⟨S', e, rfl⟩ := lc_map (vs := [2]) (fi := iSeq (sNm 0)) (g := tNm 2) (ft := sNot (sTru (callM [false] Fn_is_event (sCons (sNm 2) sNil)))) (fe := sNm 2)
      (S := [.shr (.lst (l.map Ev.d)), .un, .un]) (S1 := [.shr (.lst (l.map Ev.d)), .un, .un]) (xs := l) Ev.d (fun _ => false) Ev.d (fun S => S = [.shr (.lst (l.map Ev.d)), .un, .un]) rfl (by omega) (fun e he S hS => by
        subst hS
        have ie := is_event_eq (h e he)
        refine ⟨[.shr (.lst (l.map Ev.d)), .un, .shr e.d], [.shr (.lst (l.map Ev.d)), .un, .shr e.d], rfl, ?_, (fun z => by cases z), fun _ => rfl⟩
        simp [ie]) rfl
    rw [List.filter_eq_nil_iff.mpr fun _ _ z => by cases z] at e
    exact e
  obtain ⟨S', e2, _, x, rfl⟩ : ∃ S', forL (tNm 2) ioB (l.map Ev.d) [.shr (.lst (l.map Ev.d)), .own none (.dct (knK [])), .un] = .ok .nx S' ∧ (∃ post, l = l ++ post) ∧ ∃ x, S' = [.shr (.lst (l.map Ev.d)), .own none (.dct (knK l)), x] := by
    refine forL_list (I := fun pre S => (∃ post, l = pre ++ post) ∧ ∃ x, S = [.shr (.lst (l.map Ev.d)), .own none (.dct (knK pre)), x]) Ev.d (pre := []) (fun pre e S he hI => ?_) ⟨⟨l, rfl⟩, _, rfl⟩
    obtain ⟨post, ep⟩ := he
    obtain ⟨_, x, rfl⟩ := hI
    have hm : e ∈ l := by rw [ep]; simp
    have el := congrArg List.length ep
    simp only [List.length_append, List.length_cons] at el
    refine ⟨_, _, rfl, ioB_eq (h e hm) (fun x hx => ?_) (by omega), ⟨post, by rw [ep]; simp⟩, _, rfl⟩
    rw [ep] at hd
    exact (List.pairwise_append.mp hd).2.2 x hx e List.mem_cons_self
  have sr := sortR_ts Ev.d (fun e => (e.t : Int)) Ev.id l
  have e3 : sSortL 1 [] (sMake gTup (sCons (sOp subscD (sNm 0) (sV (.int 1))) (sCons (sOp subscD (sNm 0) (sV (.int 0))) sNil))) (sVals (sNm 1)) [.shr (.lst (l.map Ev.d)), .own none (.dct (knK l)), x] = .ok (.f (.lst ((sortE l).map Ev.d))) [.shr (.lst (l.map Ev.d)), .own none (.dct (knK l)), x] := by
    have v : sVals (sNm 1) [.shr (.lst (l.map Ev.d)), .own none (.dct (knK l)), x] = .ok (.v (.lst (l.map Ev.d))) [.shr (.lst (l.map Ev.d)), .own none (.dct (knK l)), x] := by
      simp [knK]
    exact ok_sSortL (ks := l.map fun e => .tup [.int (e.t : Nat), .str e.id]) (cs := []) v rfl rfl keys_ts sr
  have kl : (knK l).length ≤ 1000 := by simpa [knK] using hl
  refine ok_runF (S := [.shr (.lst (l.map Ev.d)), .own none (.dct (knK l)), x]) (ok_sSeq (S1 := [.shr (.lst (l.map Ev.d)), .un, .un]) (ok_sIfF (ok_sTru e1 rfl rfl) rfl) (ok_sSeq (S1 := [.shr (.lst (l.map Ev.d)), .own none (.dct (knK [])), .un]) rfl (ok_sSeq (ok_sFor (S1 := [.shr (.lst (l.map Ev.d)), .own none (.dct (knK [])), .un]) rfl e2) (ok_sSeq (S1 := [.shr (.lst (l.map Ev.d)), .own none (.dct (knK l)), x]) ?_ (ok_sRet e3 rfl))))) rfl
  refine ok_sIfF (ok_sCmpT (da := .int ((knK l).length : Nat)) (ra := .v (.int ((knK l).length : Nat))) rfl rfl rfl rfl ?_) rfl
  rw [gtD_int]
  simp
  omega
end Lk84
namespace Lk84
open PySem PySem.Spec PyProof.Rows L2 L2.Dl
theorem sortE_len (l : List Ev) : (sortE l).length = l.length := (sortTS_perm _ _ l).length_eq
theorem sortE_mem {l : List Ev} {e : Ev} : e ∈ sortE l ↔ e ∈ l := (sortTS_perm _ _ l).mem_iff
/-- a book: the law's events, ids apart -/
structure Bk (l : List Ev) : Prop where
  ok : ∀ e ∈ l, e.Ok
  ids : l.Pairwise fun a b => a.id ≠ b.id
  len : l.length ≤ 500
noncomputable abbrev slB : M Fl := (sSeq (sAsg 2 (sOp modD (sOp addD (sOp mulD (sNm 2) (sV (.int 1000003))) (callM [false] Fn_value_of (sCons (sNm 3) sNil))) (sV (.int 2305843009213693951))))
    (sExpr (mutL 1 gApp (sCons (sNm 2) sNil))))
abbrev slS (d : D) (ns : List Int) (h : Int) (x : AV) : SS := [.shr d, .own none (.lst (ns.map .int)), .shr (.int h), x]
theorem slB_eq {d : D} {ns : List Int} {h : Int} {e : Ev} (he : e.Ok) (hn : ns.length < 1000000) : slB (slS d ns h (.shr e.d)) = .ok .nx (slS d (ns ++ [stepH h e]) (stepH h e) (.shr e.d)) := by
  have v := value_of_eq he
  have m : mulD (.int h) (.int 1000003) = some (.v (.int (h * 1000003))) := by
    simp [mulD, Dl.intD]
  have r : modD (.int (h * 1000003 + valueS (lineS e))) (.int MM) = some (.v (.int (stepH h e))) := modD_pos (by decide)
  have ap := gApp_lt (l := ns.map D.int) (d := .int (stepH h e)) (by simpa using hn)
  simp [slB, slS, v, m, r, ap]
theorem seal_eq {l : List Ev} (b : Bk l) : Fn_seal [.lst (l.map Ev.d)] = .ret (.lst ((sealsI (sortE l)).map .int)) true [] := by
  have io := in_order_eq b.ok b.ids (by have := b.len; omega)
  have hl := b.len
  have sl := sortE_len l
  obtain ⟨S', e, _, x, rfl⟩ : ∃ S', forL (tNm 3) slB ((sortE l).map Ev.d) (slS (.lst (l.map Ev.d)) [] 1 .un) = .ok .nx S' ∧ (∃ post, sortE l = sortE l ++ post) ∧ ∃ x, S' = slS (.lst (l.map Ev.d)) (sealsI (sortE l)) (lastH 1 (sortE l)) x := by
    refine forL_list (I := fun pre S => (∃ post, sortE l = pre ++ post) ∧ ∃ x, S = slS (.lst (l.map Ev.d)) (sealsI pre) (lastH 1 pre) x) Ev.d (pre := []) (fun pre e S he hI => ?_) ⟨⟨_, rfl⟩, _, rfl⟩
    obtain ⟨post, ep⟩ := he
    obtain ⟨_, x, rfl⟩ := hI
    have hm : e ∈ l := sortE_mem.mp (by rw [ep]; simp)
    have el := congrArg List.length ep
    simp only [List.length_append, List.length_cons] at el
    refine ⟨slS (.lst (l.map Ev.d)) (sealsI pre) (lastH 1 pre) (.shr e.d), _, rfl, slB_eq (b.ok e hm) (by unfold sealsI; rw [seals_len]; omega), ⟨post, by rw [ep]; simp⟩, .shr e.d, ?_⟩
    unfold sealsI
    rw [seals_snoc, lastH_snoc]
  refine ok_runF (S := [.shr (.lst (l.map Ev.d)), .un, .shr (.int (lastH 1 (sortE l))), x]) (ok_sSeq (S1 := [.shr (.lst (l.map Ev.d)), .own none (.lst []), .un, .un]) rfl (ok_sSeq (S1 := slS (.lst (l.map Ev.d)) [] 1 .un) rfl (ok_sSeq (ok_sFor (S1 := slS (.lst (l.map Ev.d)) [] 1 .un) ?_ e) (ok_sRet (ra := .at 1) rfl rfl)))) rfl
  simp [slS, io, seqOf]
theorem okI (l : List Int) (hl : l.length ≤ 1000) : OkD 1000 1 (.lst (l.map .int)) := .lst (by simpa using hl) fun d hd => by
  obtain ⟨i, _, rfl⟩ := List.mem_map.mp hd
  exact .int
theorem shaped_ints (l : List Int) : SeqAt.shaped (.list (l.map .int)) = true := by
  unfold SeqAt.shaped
  have h1 : PyData.canLayAll0 (l.map .int) = true := by
    induction l with
    | nil => rfl
    | cons a l ih => simp only [List.map_cons, PyData.canLayAll0, PyData.canLay0, ih, Bool.and_self]
  have h2 : PyData.depthAll (l.map .int) = 0 := by
    clear h1
    induction l with
    | nil => rfl
    | cons a l ih => simp only [List.map_cons, PyData.depthAll, ih, PyData.depth]; rfl
  simp only [PyData.canLay0, h1, PyData.depth, h2]
  rfl
theorem eqv_ints : ∀ l m : List Int, PyData.eqvAll (l.map .int) (m.map .int) = decide (l = m)
  | [], [] => rfl
  | [], _ :: _ => rfl
  | _ :: _, [] => rfl
  | a :: l, b :: m => by
    simp only [List.map_cons, PyData.eqvAll, PyData.eqv, eqv_ints l m]
    by_cases e : a = b
    · subst e; simp
    · simp [e]
theorem deq_ints (l m : List Int) : deq (.lst (l.map .int)) (.lst (m.map .int)) = some (decide (l = m)) := by
  have : pyEq (.lst (l.map .int)) (.lst (m.map .int)) = some (decide (l = m)) := by
    unfold pyEq
    simp only [toPy, toPyL_int, shaped_ints, Bool.and_self, if_true, PyData.eqv, eqv_ints]
  unfold deq
  rw [this]
theorem dne_ints (l m : List Int) : dne (.lst (l.map .int)) (.lst (m.map .int)) = some (!decide (l = m)) := by
  unfold dne
  rw [deq_ints]
  rfl
theorem judge_eq {l : List Ev} (b : Bk l) (ns : List Int) : Fn_judge_seal [.lst (l.map Ev.d), .lst (ns.map .int)] = .ret (.bl (decide (sealsI (sortE l) = ns))) false [] := by
  have s := seal_eq b
  have gl : gList [.lst (ns.map .int)] = some (.f (.lst (ns.map .int))) := rfl
  have q : toB deq (.lst ((sealsI (sortE l)).map .int)) (.lst (ns.map .int)) = some (.v (.bl (decide (sealsI (sortE l) = ns)))) := by unfold toB; rw [deq_ints]; rfl
  refine ok_runF (S := [.shr (.lst (l.map Ev.d)), .shr (.lst (ns.map .int))]) ?_ rfl
  show sem_judge_seal [.shr (.lst (l.map Ev.d)), .shr (.lst (ns.map .int))] = _
  simp [sem_judge_seal, s, gl, q]
end Lk84
namespace Lk84
open PySem PySem.Spec PyProof.Rows L2 L2.Dl
def fdD (a b : List Int) : D := match (List.range (min a.length b.length)).find? fun i => decide (a[i]? ≠ b[i]?) with
  | some i => .int (i : Nat)
  | none => if a.length = b.length then .non else .int ((min a.length b.length : Nat) : Int)
theorem forL_find {g : D → SS → Option SS} {body : M Fl} (T : Nat → Bool) (st : AV → SS) : ∀ (xs : List Nat) (x : AV),
    (∀ i ∈ xs, ∀ x, ∃ S1, g (.int (i : Nat)) (st x) = some S1 ∧ body S1 = if T i = true then .ok (.rt (.int (i : Nat)) false) (st (.shr (.int (i : Nat)))) else .ok .nx (st (.shr (.int (i : Nat))))) →
    ∃ x', forL g body (xs.map fun k => .int (k : Nat)) (st x) = match xs.find? T with
      | some i => .ok (.rt (.int (i : Nat)) false) (st x')
      | none => .ok .nx (st x')
  | [], x, _ => ⟨x, rfl⟩
  | i :: xs, x, h => by
    obtain ⟨S1, e1, e2⟩ := h i List.mem_cons_self x
    obtain ⟨x', q⟩ := forL_find (g := g) (body := body) T st xs (.shr (.int (i : Nat))) fun j hj => h j (List.mem_cons_of_mem _ hj)
    rw [List.map_cons, ev_forL_cons]
    simp only [e1, e2]
    cases c : T i with
    | true => exact ⟨.shr (.int (i : Nat)), by simp [List.find?_cons, c]⟩
    | false =>
      refine ⟨x', ?_⟩
      simp only [List.find?_cons, c]
      simpa using q
theorem sub_int {a : List Int} {i : Nat} (h : i < a.length) : subscD (.lst (a.map .int)) (.int (i : Nat)) = some (.v (.int a[i])) := by
  show (atI (a.map D.int) (i : Int)).map R.v = _
  unfold atI ixN
  rw [if_pos (by omega), if_pos (by simpa using h)]
  simp [h]
noncomputable abbrev fdB : M Fl := (sIfS (sCmpT dne (sOp subscD (sNm 2) (sNm 4)) (sOp subscD (sNm 3) (sNm 4))) (sRet (sNm 4)) sNext)
abbrev fdS (d1 d2 : D) (a b : List Int) (x : AV) : SS := [.shr d1, .shr d2, .own none (.lst (a.map .int)), .own none (.lst (b.map .int)), x]
theorem fdB_eq {d1 d2 : D} {a b : List Int} {i : Nat} (h : i < min a.length b.length) : fdB (fdS d1 d2 a b (.shr (.int (i : Nat)))) = if decide (a[i]? ≠ b[i]?) = true then .ok (.rt (.int (i : Nat)) false) (fdS d1 d2 a b (.shr (.int (i : Nat)))) else .ok .nx (fdS d1 d2 a b (.shr (.int (i : Nat)))) := by
  have h1 : i < a.length := by omega
  have h2 : i < b.length := by omega
  have s1 := sub_int h1
  have s2 := sub_int h2
  rw [List.getElem?_eq_getElem h1, List.getElem?_eq_getElem h2]
  by_cases z : a[i] = b[i]
  · simp [fdB, fdS, s1, s2, z]
  · simp [fdB, fdS, s1, s2, z]
theorem gMin_2 (a b : Nat) : gMin [.int (a : Int), .int (b : Int)] = some (.v (.int ((min a b : Nat) : Int))) := by
  have e : gMin [.int (a : Int), .int (b : Int)] = some (.v (.int (if (b : Int) < (a : Int) then (b : Int) else (a : Int)))) := rfl
  rw [e]
  have : (if (b : Int) < (a : Int) then (b : Int) else (a : Int)) = ((min a b : Nat) : Int) := by
    split <;> omega
  rw [this]
theorem first_eq {l m : List Ev} (b1 : Bk l) (b2 : Bk m) : Fn_first_difference [.lst (l.map Ev.d), .lst (m.map Ev.d)] = .ret (fdD (sealsI (sortE l)) (sealsI (sortE m))) false [] := by
  have s1 := seal_eq b1
  have s2 := seal_eq b2
  have l1 : (sealsI (sortE l)).length ≤ 500 := by unfold sealsI; rw [seals_len, sortE_len]; exact b1.len
  have l2 : (sealsI (sortE m)).length ≤ 500 := by unfold sealsI; rw [seals_len, sortE_len]; exact b2.len
  generalize sealsI (sortE l) = a at s1 l1 ⊢
  generalize sealsI (sortE m) = b at s2 l2 ⊢
  have fa : flatR true (.lst (a.map .int)) = true := by simp [flatR, D.flat, D.sc]
  have fb : flatR true (.lst (b.map .int)) = true := by simp [flatR, D.flat, D.sc]
  have gm := gMin_2 a.length b.length
  have fr := fRng1_nat (n := min a.length b.length) (by omega)
  obtain ⟨x, q⟩ := forL_find (g := tNm 4) (body := fdB) (fun i => decide (a[i]? ≠ b[i]?)) (fdS (.lst (l.map Ev.d)) (.lst (m.map Ev.d)) a b) (List.range (min a.length b.length)) .un fun i hi x => ⟨_, rfl, fdB_eq (List.mem_range.mp hi)⟩
  have st : sFor (iRng fRng1 (sCons (sCall gMin (sCons (sCall gLen (sCons (sNm 2) sNil)) (sCons (sCall gLen (sCons (sNm 3) sNil)) sNil))) sNil)) (tNm 4) fdB (fdS (.lst (l.map Ev.d)) (.lst (m.map Ev.d)) a b .un) = match (List.range (min a.length b.length)).find? (fun i => decide (a[i]? ≠ b[i]?)) with
      | some i => .ok (.rt (.int (i : Nat)) false) (fdS (.lst (l.map Ev.d)) (.lst (m.map Ev.d)) a b x)
      | none => .ok .nx (fdS (.lst (l.map Ev.d)) (.lst (m.map Ev.d)) a b x) := by
    refine ok_sFor (ds := (List.range (min a.length b.length)).map fun k => .int (k : Nat)) (S1 := fdS (.lst (l.map Ev.d)) (.lst (m.map Ev.d)) a b .un) ?_ q
    simp [fdS, gm, fr]
  have e1 : sAsg 2 (callM [false] Fn_seal (sCons (sNm 0) sNil)) [.shr (.lst (l.map Ev.d)), .shr (.lst (m.map Ev.d)), .un, .un, .un] = .ok .nx [.shr (.lst (l.map Ev.d)), .shr (.lst (m.map Ev.d)), .own none (.lst (a.map .int)), .un, .un] := by
    simp [s1]
  have e2 : sAsg 3 (callM [false] Fn_seal (sCons (sNm 1) sNil)) [.shr (.lst (l.map Ev.d)), .shr (.lst (m.map Ev.d)), .own none (.lst (a.map .int)), .un, .un] = .ok .nx (fdS (.lst (l.map Ev.d)) (.lst (m.map Ev.d)) a b .un) := by
    simp [fdS, s2]
  unfold fdD
  cases hf : (List.range (min a.length b.length)).find? (fun i => decide (a[i]? ≠ b[i]?)) with
  | some i =>
    rw [hf] at st
    exact ok_runF (S := fdS (.lst (l.map Ev.d)) (.lst (m.map Ev.d)) a b x) (ok_sSeq e1 (ok_sSeq e2 (ok_sSeqR st))) rfl
  | none =>
    rw [hf] at st
    by_cases z : a.length = b.length
    · refine ok_runF (S := fdS (.lst (l.map Ev.d)) (.lst (m.map Ev.d)) a b x) (ok_sSeq e1 (ok_sSeq e2 (ok_sSeq st ?_))) rfl
      simp [fdS, z]
    · refine ok_runF (S := fdS (.lst (l.map Ev.d)) (.lst (m.map Ev.d)) a b x) (ok_sSeq e1 (ok_sSeq e2 (ok_sSeq st ?_))) rfl
      have z' : ¬ ((a.length : Int) = (b.length : Nat)) := by omega
      simp [fdS, z, z', gm]
end Lk84
namespace L2.Dl
open PySem PySem.Spec PyProof.Rows
/-! ### comprehensions whose items come from what changes -/
inductive All2 {α β : Type} (P : α → β → Prop) : List α → List β → Prop
  | nil : All2 P [] []
  | cons {x y xs ys} : P x y → All2 P xs ys → All2 P (x :: xs) (y :: ys)
theorem All2.map {α β γ : Type} {P : α → β → Prop} {f : α → γ} {g : β → γ} (h : ∀ x y, P x y → g y = f x) : ∀ {xs ys}, All2 P xs ys → ys.map g = xs.map f
  | _, _, .nil => rfl
  | _, _, .cons p q => by rw [List.map_cons, List.map_cons, h _ _ p, All2.map h q]
theorem All2.right {α β : Type} {P : α → β → Prop} {Q : β → Prop} {xs : List α} {ys : List β} (q : All2 P xs ys) (h : ∀ x ∈ xs, ∀ y, P x y → Q y) : ∀ y ∈ ys, Q y := by
  induction q with
  | nil => intro y hy; cases hy
  | cons p q ih =>
    intro y hy
    rcases List.mem_cons.mp hy with rfl | hy
    · exact h _ List.mem_cons_self _ p
    · exact ih (fun x hx y => h x (List.mem_cons_of_mem _ hx) y) y hy
theorem All2.len {α β : Type} {P : α → β → Prop} : ∀ {xs : List α} {ys : List β}, All2 P xs ys → ys.length = xs.length
  | _, _, .nil => rfl
  | _, _, .cons p q => by rw [List.length_cons, List.length_cons, All2.len q]
theorem lcL_ex {α β : Type} {vs : List Nat} {g : D → SS → Option SS} {fe : M R} (f : α → D) (Y : β → D) (P : α → β → Prop) (I : SS → Prop) : ∀ (xs : List α),
    (∀ x ∈ xs, ∀ S, I S → ∃ S1 r S3 S4 y, g (f x) S = some S1 ∧ fe S1 = .ok r S3 ∧ valR S3 r = some (Y y, S4) ∧ P x y ∧ I (wipeS S4 vs)) →
    ∀ S, I S → ∃ ys S', lcL vs g sYes fe (xs.map f) S = .ok (ys.map Y) S' ∧ All2 P xs ys ∧ I S'
  | [], _, S, hI => ⟨[], S, rfl, .nil, hI⟩
  | x :: xs, h, S, hI => by
    obtain ⟨S1, r, S3, S4, y, h1, e1, e2, hp, e3⟩ := h x List.mem_cons_self S hI
    obtain ⟨ys, S', q1, q2, q3⟩ := lcL_ex (fe := fe) f Y P I xs (fun z hz => h z (List.mem_cons_of_mem _ hz)) _ e3
    refine ⟨y :: ys, S', ?_, .cons hp q2, q3⟩
    simp only [List.map_cons, lcL, h1, noEx, Res.bind, sYes, if_true, e1, e2, q1]
theorem lc_ex {α β : Type} {vs : List Nat} {fi : M (List D)} {g : D → SS → Option SS} {fe : M R} {S S1 : SS} (f : α → D) (Y : β → D) (P : α → β → Prop) (I : SS → Prop) {xs : List α} (hi : fi S = .ok (xs.map f) S1) (hl : xs.length ≤ 1000000)
    (h : ∀ x ∈ xs, ∀ S, I S → ∃ S1 r S3 S4 y, g (f x) S = some S1 ∧ fe S1 = .ok r S3 ∧ valR S3 r = some (Y y, S4) ∧ P x y ∧ I (wipeS S4 vs))
    (hI : I (wipeS S1 vs)) : ∃ ys S', sLc vs fi g sYes fe S = .ok (.f (.lst (ys.map Y))) (unwipe S1 S' vs) ∧ All2 P xs ys ∧ I S' := by
  obtain ⟨ys, S', e, q, r⟩ := lcL_ex f Y P I xs h (wipeS S1 vs) hI
  refine ⟨ys, S', ?_, q, r⟩
  unfold sLc
  simp only [hi, Res.bind, List.length_map, if_pos hl, e, noEx]
theorem pfx_e : ∀ k : Nat, k < 16 → addD (.str "e") (.str (numS k)) = some (.v (.str (nmS "e" k))) := fun k hk => by
  show (if _ then _ else _) = _
  have : ∀ k : Nat, k < 16 → (Str.ofString "e").length + (numS k).length ≤ 1000000 := by decide +kernel
  rw [if_pos (this k hk)]; rfl
end L2.Dl
namespace Lk84
open PySem PySem.Spec PyProof.Rows L2 L2.Dl
theorem nx_e : ∀ k, k < 10 → NmX (nmS "e" k) := fun k hk => ⟨name_e k hk, by revert k; decide +kernel, by revert k; decide +kernel, by unfold Lay; revert k; decide +kernel⟩
theorem nx_s : ∀ k, k < 5 → NmX (nmS "s" k) := fun k hk => ⟨name_s k hk, by revert k; decide +kernel, by revert k; decide +kernel, by unfold Lay; revert k; decide +kernel⟩
theorem nx_o : ∀ k, k < 5 → NmX (nmS "o" k) := fun k hk => ⟨name_o k hk, by revert k; decide +kernel, by revert k; decide +kernel, by unfold Lay; revert k; decide +kernel⟩
theorem e_inj : ∀ j : Nat, j < 10 → ∀ k : Nat, k < 10 → nmS "e" j = nmS "e" k → j = k := by decide +kernel
end Lk84
namespace Lk84
open PySem PySem.Spec PyProof.Rows L2 L2.Dl
theorem takeN (ds : List Int) {m : Nat} (h : 0 < m) : ∃ k : Nat, k < m ∧ Fn__law_take [deckI ds, .int (m : Int)] = .ret (.int (k : Nat)) false [deckI ds.dropLast] := by
  have h' : (0 : Int) < (m : Int) := by omega
  have tk : Fn__law_take [deckI ds, .int (m : Int)] = .ret (.int (takeI ds m)) false [deckI ds.dropLast] := take_F h'
  have a := takeI_nonneg (ds := ds) h'
  have b := takeI_lt (ds := ds) h'
  refine ⟨(takeI ds m).toNat, by omega, ?_⟩
  rw [tk, show (((takeI ds m).toNat : Nat) : Int) = takeI ds m by omega]
def kindsL : List Str := ["slot", "slot", "order", "order", "order", "order", "places", "wish", "cancel", "note"]
inductive KdL : Str → Prop
  | slot : KdL "slot" | places : KdL "places" | order : KdL "order" | wish : KdL "wish" | cancel : KdL "cancel" | note : KdL "note"
theorem kinds_at {k : Nat} (h : k < 10) : ∃ s, KdL s ∧ subscD (.lst (kindsL.map .str)) (.int (k : Nat)) = some (.v (.str s)) := by
  obtain ⟨x, hx, e⟩ := subscD_strs (l := kindsL) (i := (k : Int)) (by omega) (by show (k : Int) < 10; omega)
  refine ⟨x, ?_, e⟩
  simp only [kindsL, List.mem_cons, List.not_mem_nil, or_false] at hx
  rcases hx with rfl | rfl | rfl | rfl | rfl | rfl | rfl | rfl | rfl | rfl <;> constructor
abbrev kt : D := .tup [.str "slot", .str "places"]
@[simp] theorem mk1 : memD (.str "slot") kt = some true := by kernel_rfl
@[simp] theorem mk2 : memD (.str "places") kt = some true := by kernel_rfl
@[simp] theorem mk3 : memD (.str "order") kt = some false := by kernel_rfl
@[simp] theorem mk4 : memD (.str "wish") kt = some false := by kernel_rfl
@[simp] theorem mk5 : memD (.str "cancel") kt = some false := by kernel_rfl
@[simp] theorem mk6 : memD (.str "note") kt = some false := by kernel_rfl
@[simp] theorem mc3 : deq (.str "order") (.str "cancel") = some false := by kernel_rfl
@[simp] theorem mc4 : deq (.str "wish") (.str "cancel") = some false := by kernel_rfl
@[simp] theorem mc5 : deq (.str "cancel") (.str "cancel") = some true := by kernel_rfl
@[simp] theorem mc6 : deq (.str "note") (.str "cancel") = some false := by kernel_rfl
@[simp] theorem mn3 : deq (.str "order") (.str "note") = some false := by kernel_rfl
@[simp] theorem mn4 : deq (.str "wish") (.str "note") = some false := by kernel_rfl
@[simp] theorem mn6 : deq (.str "note") (.str "note") = some true := by kernel_rfl
noncomputable abbrev evB : M Fl := (sSeq (sAsg 3 (sOp subscD (sNm 2) (callM [true, false] Fn__law_take (sCons (sNm 0) (sCons (sV (.int 10)) sNil)))))
    (sSeq (sAsg 4 (sOp addD (sIf (sCmpT memD (sNm 3) (sMake gTup (sCons (sV (.str "slot")) (sCons (sV (.str "places")) sNil)))) (sV (.str "s")) (sV (.str "o"))) (sCall gStr (sCons (callM [true, false] Fn__law_take (sCons (sNm 0) (sCons (sV (.int 5)) sNil))) sNil))))
    (sAsg 5 (sMake gTup (sCons (sOp addD (sV (.str "e")) (sCall gStr (sCons (sNm 1) sNil))) (sCons (callM [true, false] Fn__law_take (sCons (sNm 0) (sCons (sV (.int 12)) sNil))) (sCons (sNm 3) sNil)))))))
abbrev evS (ds : List Int) (at_ : Nat) (a b c : AV) : SS := [.own (some 0) (deckI ds), .shr (.int (at_ : Nat)), .own none (.lst (kindsL.map .str)), a, b, c, .un, .un]
@[simp] theorem flat_deck (ds : List Int) : flatR true (deckI ds) = true := by simp [deckI, flatR, D.flat, D.sc]
theorem evB_eq (ds : List Int) {at_ : Nat} (h : at_ < 10) : ∃ ds' kd nm t, KdL kd ∧ t < 12 ∧ NmX nm ∧ evB (evS ds at_ .un .un .un) = .ok .nx (evS ds' at_ (.shr (.str kd)) (.shr (.str nm)) (.shr (.tup [.str (nmS "e" at_), .int (t : Nat), .str kd]))) := by
  obtain ⟨k, hk, e1⟩ := takeN ds (m := 10) (by decide)
  obtain ⟨j, hj, e2⟩ := takeN ds.dropLast (m := 5) (by decide)
  obtain ⟨t, ht, e3⟩ := takeN ds.dropLast.dropLast (m := 12) (by decide)
  obtain ⟨kd, hkd, e4⟩ := kinds_at hk
  have s1 : addD (.str "s") (.str (numS j)) = some (.v (.str (nmS "s" j))) := pfx_s.add j (by omega)
  have s2 : addD (.str "o") (.str (numS j)) = some (.v (.str (nmS "o" j))) := pfx_o.add j (by omega)
  have s3 : addD (.str "e") (.str (numS at_)) = some (.v (.str (nmS "e" at_))) := pfx_e at_ (by omega)
  have g1 := gStr_nat (k := j) (by omega)
  have g2 := gStr_nat (k := at_) (by omega)
  have e1 : Fn__law_take [deckI ds, .int 10] = .ret (.int (k : Nat)) false [deckI ds.dropLast] := e1
  have e2 : Fn__law_take [deckI ds.dropLast, .int 5] = .ret (.int (j : Nat)) false [deckI ds.dropLast.dropLast] := e2
  have e3 : Fn__law_take [deckI ds.dropLast.dropLast, .int 12] = .ret (.int (t : Nat)) false [deckI ds.dropLast.dropLast.dropLast] := e3
  cases hkd
  case slot => exact ⟨ds.dropLast.dropLast.dropLast, _, nmS "s" j, t, .slot, ht, nx_s j hj, by simp [evS, e1, e2, e3, e4, s1, s2, s3, g1, g2]⟩
  case places => exact ⟨ds.dropLast.dropLast.dropLast, _, nmS "s" j, t, .places, ht, nx_s j hj, by simp [evS, e1, e2, e3, e4, s1, s2, s3, g1, g2]⟩
  case order => exact ⟨ds.dropLast.dropLast.dropLast, _, nmS "o" j, t, .order, ht, nx_o j hj, by simp [evS, e1, e2, e3, e4, s1, s2, s3, g1, g2]⟩
  case wish => exact ⟨ds.dropLast.dropLast.dropLast, _, nmS "o" j, t, .wish, ht, nx_o j hj, by simp [evS, e1, e2, e3, e4, s1, s2, s3, g1, g2]⟩
  case cancel => exact ⟨ds.dropLast.dropLast.dropLast, _, nmS "o" j, t, .cancel, ht, nx_o j hj, by simp [evS, e1, e2, e3, e4, s1, s2, s3, g1, g2]⟩
  case note => exact ⟨ds.dropLast.dropLast.dropLast, _, nmS "o" j, t, .note, ht, nx_o j hj, by simp [evS, e1, e2, e3, e4, s1, s2, s3, g1, g2]⟩
end Lk84
namespace Lk84
open PySem PySem.Spec PyProof.Rows L2 L2.Dl
noncomputable abbrev evT : M Fl := (sSeq (sIfS (sCmpT memD (sNm 3) (sMake gTup (sCons (sV (.str "slot")) (sCons (sV (.str "places")) sNil)))) (sRet (sOp addD (sNm 5) (sMake gTup (sCons (sNm 4) (sCons (sOp subD (callM [true, false] Fn__law_take (sCons (sNm 0) (sCons (sV (.int 5)) sNil))) (sV (.int 1))) sNil))))) sNext)
    (sSeq (sIfS (sCmpT deq (sNm 3) (sV (.str "cancel"))) (sRet (sOp addD (sNm 5) (sMake gTup (sCons (sNm 4) sNil)))) sNext)
    (sSeq (sIfS (sCmpT deq (sNm 3) (sV (.str "note"))) (sRet (sOp addD (sNm 5) (sMake gTup (sCons (sV (.str "a note")) sNil)))) sNext)
    (sSeq (sAsg 6 (sCall gTuple (sCons (sLc [7] (iRng fRng1 (sCons (callM [true, false] Fn__law_take (sCons (sNm 0) (sCons (sV (.int 4)) sNil))) sNil)) (tNm 7) sYes (sOp addD (sV (.str "s")) (sCall gStr (sCons (callM [true, false] Fn__law_take (sCons (sNm 0) (sCons (sV (.int 5)) sNil))) sNil)))) sNil)))
    (sRet (sOp addD (sNm 5) (sMake gTup (sCons (sNm 4) (sCons (sNm 6) sNil)))))))))
theorem sSeq_assoc {f g h : M Fl} : sSeq (sSeq f g) h = sSeq f (sSeq g h) := by
  funext S
  show (sSeq f g S).bind _ = (f S).bind _
  unfold sSeq
  cases f S with
  | ok fl S1 => cases fl <;> rfl
  | ex c w S1 => rfl
  | no => rfl
theorem sSeq_assoc3 {a b c t : M Fl} : sSeq a (sSeq b (sSeq c t)) = sSeq (sSeq a (sSeq b c)) t := by
  rw [sSeq_assoc, sSeq_assoc]
theorem addD_t3 (a b c d : D) : addD (.tup [a, b, c]) (.tup [d]) = some (.v (.tup [a, b, c, d])) := rfl
theorem addD_t3' (a b c d e : D) : addD (.tup [a, b, c]) (.tup [d, e]) = some (.v (.tup [a, b, c, d, e])) := rfl
theorem evT_eq (ds : List Int) {at_ : Nat} {kd nm i : Str} {t : Nat} (h : at_ < 10) (hk : KdL kd) (hn : NmX nm) : ∃ ds' rest S, Rest kd rest ∧ (∀ w ∈ rest, True) ∧
    evT (evS ds at_ (.shr (.str kd)) (.shr (.str nm)) (.shr (.tup [.str i, .int (t : Nat), .str kd]))) = .ok (.rt (.tup (.str i :: .int (t : Nat) :: .str kd :: rest)) false) (.own (some 0) (deckI ds') :: .shr (.int (at_ : Nat)) :: S) := by
  obtain ⟨j, hj, e2⟩ := takeN ds (m := 5) (by decide)
  have e2 : Fn__law_take [deckI ds, .int 5] = .ret (.int (j : Nat)) false [deckI ds.dropLast] := e2
  have hv : ((j : Int) - 1) = -1 ∨ ((j : Int) - 1) = 0 ∨ ((j : Int) - 1) = 1 ∨ ((j : Int) - 1) = 2 ∨ ((j : Int) - 1) = 3 := by omega
  have wish : ∃ ws : List Str, ∃ ds' S', (∀ w ∈ ws, NmX w) ∧ ws.length ≤ 3 ∧ sAsg 6 (sCall gTuple (sCons (sLc [7] (iRng fRng1 (sCons (callM [true, false] Fn__law_take (sCons (sNm 0) (sCons (sV (.int 4)) sNil))) sNil)) (tNm 7) sYes (sOp addD (sV (.str "s")) (sCall gStr (sCons (callM [true, false] Fn__law_take (sCons (sNm 0) (sCons (sV (.int 5)) sNil))) sNil)))) sNil)) (evS ds at_ (.shr (.str kd)) (.shr (.str nm)) (.shr (.tup [.str i, .int (t : Nat), .str kd])))
      = .ok .nx [.own (some 0) (deckI ds'), .shr (.int (at_ : Nat)), .own none (.lst (kindsL.map .str)), .shr (.str kd), .shr (.str nm), .shr (.tup [.str i, .int (t : Nat), .str kd]), .shr (.tup (ws.map .str)), S'] := by
    obtain ⟨n, hn, e3⟩ := takeN ds (m := 4) (by decide)
    have e3 : Fn__law_take [deckI ds, .int 4] = .ret (.int (n : Nat)) false [deckI ds.dropLast] := e3
    have fr := fRng1_nat (n := n) (by omega)
    obtain ⟨ws, S', q1, q2, q3⟩ := lc_ex (vs := [7]) (fi := iRng fRng1 (sCons (callM [true, false] Fn__law_take (sCons (sNm 0) (sCons (sV (.int 4)) sNil))) sNil)) (g := tNm 7) (fe := sOp addD (sV (.str "s")) (sCall gStr (sCons (callM [true, false] Fn__law_take (sCons (sNm 0) (sCons (sV (.int 5)) sNil))) sNil)))
      (S := evS ds at_ (.shr (.str kd)) (.shr (.str nm)) (.shr (.tup [.str i, .int (t : Nat), .str kd]))) (S1 := evS ds.dropLast at_ (.shr (.str kd)) (.shr (.str nm)) (.shr (.tup [.str i, .int (t : Nat), .str kd])))
      (xs := List.range n) (fun k => .int (k : Nat)) D.str (fun _ w => NmX w) (fun S => ∃ ds', S = evS ds' at_ (.shr (.str kd)) (.shr (.str nm)) (.shr (.tup [.str i, .int (t : Nat), .str kd])))
      (by simp [evS, e3, fr]) (by simp; omega) (fun k hk S hS => by
        obtain ⟨ds', rfl⟩ := hS
        obtain ⟨j, hj, e2⟩ := takeN ds' (m := 5) (by decide)
        have e2 : Fn__law_take [deckI ds', .int 5] = .ret (.int (j : Nat)) false [deckI ds'.dropLast] := e2
        have g1 := gStr_nat (k := j) (by omega)
        have s1 : addD (.str "s") (.str (numS j)) = some (.v (.str (nmS "s" j))) := pfx_s.add j (by omega)
        exact ⟨_, .v (.str (nmS "s" j)), [.own (some 0) (deckI ds'.dropLast), .shr (.int (at_ : Nat)), .own none (.lst (kindsL.map .str)), .shr (.str kd), .shr (.str nm), .shr (.tup [.str i, .int (t : Nat), .str kd]), .un, .shr (.int (k : Nat))], _, nmS "s" j, rfl, by simp [evS, e2, g1, s1], rfl, nx_s j hj, ds'.dropLast, rfl⟩) ⟨_, rfl⟩
    obtain ⟨ds', rfl⟩ := q3
    refine ⟨ws, ds', .un, q2.right fun _ _ _ h => h, by have := q2.len; simp at this; omega, ?_⟩
    have q1 : sLc [7] (iRng fRng1 (sCons (callM [true, false] Fn__law_take (sCons (sNm 0) (sCons (sV (.int 4)) sNil))) sNil)) (tNm 7) sYes (sOp addD (sV (.str "s")) (sCall gStr (sCons (callM [true, false] Fn__law_take (sCons (sNm 0) (sCons (sV (.int 5)) sNil))) sNil))) (evS ds at_ (.shr (.str kd)) (.shr (.str nm)) (.shr (.tup [.str i, .int (t : Nat), .str kd]))) = .ok (.f (.lst (ws.map .str))) (evS ds' at_ (.shr (.str kd)) (.shr (.str nm)) (.shr (.tup [.str i, .int (t : Nat), .str kd]))) := q1
    have gt : gTuple [.lst (ws.map .str)] = some (.v (.tup (ws.map .str))) := rfl
    simp [q1, gt]
  cases hk
  case slot => exact ⟨ds.dropLast, [.str nm, .int ((j : Int) - 1)], [.own none (.lst (kindsL.map .str)), .shr (.str "slot"), .shr (.str nm), .shr (.tup [.str i, .int (t : Nat), .str "slot"]), .un, .un], .slot (.inl rfl) hn hv, fun _ _ => trivial, by simp [evS, e2, addD_t3']⟩
  case places => exact ⟨ds.dropLast, [.str nm, .int ((j : Int) - 1)], [.own none (.lst (kindsL.map .str)), .shr (.str "places"), .shr (.str nm), .shr (.tup [.str i, .int (t : Nat), .str "places"]), .un, .un], .slot (.inr rfl) hn hv, fun _ _ => trivial, by simp [evS, e2, addD_t3']⟩
  case order =>
    obtain ⟨ws, ds', S', h1, h2, h3⟩ := wish
    exact ⟨ds', [.str nm, .tup (ws.map .str)], [.own none (.lst (kindsL.map .str)), .shr (.str "order"), .shr (.str nm), .shr (.tup [.str i, .int (t : Nat), .str "order"]), .shr (.tup (ws.map .str)), S'], .order (.inl rfl) hn h1 h2, fun _ _ => trivial, ok_sSeq (S1 := evS ds at_ (.shr (.str "order")) (.shr (.str nm)) (.shr (.tup [.str i, .int (t : Nat), .str "order"]))) (by simp [evS]) (ok_sSeq (S1 := evS ds at_ (.shr (.str "order")) (.shr (.str nm)) (.shr (.tup [.str i, .int (t : Nat), .str "order"]))) (by simp [evS]) (ok_sSeq (S1 := evS ds at_ (.shr (.str "order")) (.shr (.str nm)) (.shr (.tup [.str i, .int (t : Nat), .str "order"]))) (by simp [evS]) (ok_sSeq h3 (by simp [addD_t3'])))) ⟩
  case wish =>
    obtain ⟨ws, ds', S', h1, h2, h3⟩ := wish
    exact ⟨ds', [.str nm, .tup (ws.map .str)], [.own none (.lst (kindsL.map .str)), .shr (.str "wish"), .shr (.str nm), .shr (.tup [.str i, .int (t : Nat), .str "wish"]), .shr (.tup (ws.map .str)), S'], .order (.inr rfl) hn h1 h2, fun _ _ => trivial, ok_sSeq (S1 := evS ds at_ (.shr (.str "wish")) (.shr (.str nm)) (.shr (.tup [.str i, .int (t : Nat), .str "wish"]))) (by simp [evS]) (ok_sSeq (S1 := evS ds at_ (.shr (.str "wish")) (.shr (.str nm)) (.shr (.tup [.str i, .int (t : Nat), .str "wish"]))) (by simp [evS]) (ok_sSeq (S1 := evS ds at_ (.shr (.str "wish")) (.shr (.str nm)) (.shr (.tup [.str i, .int (t : Nat), .str "wish"]))) (by simp [evS]) (ok_sSeq h3 (by simp [addD_t3'])))) ⟩
  case cancel => exact ⟨ds, [.str nm], [.own none (.lst (kindsL.map .str)), .shr (.str "cancel"), .shr (.str nm), .shr (.tup [.str i, .int (t : Nat), .str "cancel"]), .un, .un], .cancel rfl hn, fun _ _ => trivial, by simp [evS, addD_t3]⟩
  case note => exact ⟨ds, [.str "a note"], [.own none (.lst (kindsL.map .str)), .shr (.str "note"), .shr (.str nm), .shr (.tup [.str i, .int (t : Nat), .str "note"]), .un, .un], .note rfl (.inl rfl), fun _ _ => trivial, by simp [evS, addD_t3]⟩
theorem event_eq (ds : List Int) {at_ : Nat} (h : at_ < 10) : ∃ ds', ∃ e : Ev, e.Ok ∧ e.id = nmS "e" at_ ∧ Fn__law_event [deckI ds, .int (at_ : Nat)] = .ret e.d false [deckI ds'] := by
  obtain ⟨d1, kd, nm, t, h1, h2, h3, h4⟩ := evB_eq ds h
  obtain ⟨d2, rest, S, g1, _, g2⟩ := evT_eq (i := nmS "e" at_) (t := t) d1 h h1 h3
  refine ⟨d2, ⟨nmS "e" at_, t, kd, rest⟩, ⟨nx_e _ h, h2, g1⟩, rfl, ?_⟩
  refine ok_runF (S := .own (some 0) (deckI d2) :: .shr (.int (at_ : Nat)) :: S) ?_ rfl
  · show sSeq _ (sSeq _ (sSeq _ (sSeq _ evT))) [.own (some 0) (deckI ds), .shr (.int (at_ : Nat)), .un, .un, .un, .un, .un, .un] = _
    have e0 : sSeq _ (sSeq _ (sSeq _ evT)) (evS ds at_ .un .un .un) = _ := (congrFun (sSeq_assoc3) _).trans (ok_sSeq h4 g2)
    exact ok_sSeq (S1 := evS ds at_ .un .un .un) rfl e0
end Lk84
namespace Lk84
open PySem PySem.Spec PyProof.Rows L2 L2.Dl
theorem book_eq (ds : List Int) : ∃ ds', ∃ l : List Ev, ∃ n, n < 11 ∧ (∀ e ∈ l, e.Ok) ∧ l.map Ev.id = (List.range n).map (nmS "e") ∧ Fn__law_book [deckI ds, .int 10] = .ret (.lst (l.map Ev.d)) true [deckI ds'] := by
  obtain ⟨n, hn, e1⟩ := takeN ds (m := 11) (by decide)
  have e1 : Fn__law_take [deckI ds, .int 11] = .ret (.int (n : Nat)) false [deckI ds.dropLast] := e1
  have fr := fRng1_nat (n := n) (by omega)
  obtain ⟨l, S', q1, q2, ds', rfl⟩ := lc_ex (vs := [2]) (fi := iRng fRng1 (sCons (callM [true, false] Fn__law_take (sCons (sNm 0) (sCons (sOp addD (sNm 1) (sV (.int 1))) sNil))) sNil)) (g := tNm 2) (fe := callM [true, false] Fn__law_event (sCons (sNm 0) (sCons (sNm 2) sNil)))
    (S := [.own (some 0) (deckI ds), .shr (.int 10), .un]) (S1 := [.own (some 0) (deckI ds.dropLast), .shr (.int 10), .un]) (xs := List.range n) (fun k => .int (k : Nat)) Ev.d (fun k e => e.Ok ∧ e.id = nmS "e" k) (fun S => ∃ ds', S = [.own (some 0) (deckI ds'), .shr (.int 10), .un])
    (by simp [e1, fr]) (by simp; omega) (fun k hk S hS => by
      obtain ⟨d1, rfl⟩ := hS
      obtain ⟨d2, e, h1, h2, h3⟩ := event_eq d1 (at_ := k) (by have := List.mem_range.mp hk; omega)
      exact ⟨_, .v e.d, [.own (some 0) (deckI d2), .shr (.int 10), .shr (.int (k : Nat))], _, e, rfl, by simp [h3], rfl, ⟨h1, h2⟩, d2, rfl⟩) ⟨_, rfl⟩
  refine ⟨ds', l, n, hn, q2.right fun _ _ _ h => h.1, q2.map fun _ _ h => h.2, ok_runF (S := [.own (some 0) (deckI ds'), .shr (.int 10), .un]) ?_ rfl⟩
  have q1 : sLc [2] (iRng fRng1 (sCons (callM [true, false] Fn__law_take (sCons (sNm 0) (sCons (sOp addD (sNm 1) (sV (.int 1))) sNil))) sNil)) (tNm 2) sYes (callM [true, false] Fn__law_event (sCons (sNm 0) (sCons (sNm 2) sNil))) [.own (some 0) (deckI ds), .shr (.int 10), .un] = .ok (.f (.lst (l.map Ev.d))) [.own (some 0) (deckI ds'), .shr (.int 10), .un] := q1
  show sem__law_book [.own (some 0) (deckI ds), .shr (.int 10), .un] = _
  simp [sem__law_book, q1]
theorem book_bk {l : List Ev} {n : Nat} (h : ∀ e ∈ l, e.Ok) (hn : n < 11) (hi : l.map Ev.id = (List.range n).map (nmS "e")) : Bk l := by
  have hl : l.length = n := by have := congrArg List.length hi; simpa using this
  refine ⟨h, ?_, by omega⟩
  have : (l.map Ev.id).Pairwise (· ≠ ·) := by
    rw [hi, List.pairwise_map]
    refine List.Pairwise.imp_of_mem ?_ List.pairwise_lt_range
    intro a b ha hb hab e
    have := e_inj a (by have := List.mem_range.mp ha; omega) b (by have := List.mem_range.mp hb; omega) e
    omega
  exact List.pairwise_map.mp this
end Lk84
namespace Lk84
open PySem PySem.Spec PyProof.Rows L2 L2.Dl
/-! ### what the law uses of the sorted list -/
theorem Bk.perm {l m : List Ev} (b : Bk l) (p : l.Perm m) : Bk m := ⟨fun e he => b.ok e (p.mem_iff.mpr he), p.pairwise b.ids (fun h => h.symm), by rw [← p.length_eq]; exact b.len⟩
theorem Bk.sort {l : List Ev} (b : Bk l) : Bk (sortE l) := b.perm (sortTS_perm _ _ l).symm
theorem sortE_perm {l m : List Ev} (b : Bk l) (p : l.Perm m) : sortE m = sortE l := (sortTS_eq p b.ids).symm
theorem sortE_sorted (l : List Ev) : (sortE l).Pairwise fun a b => leE (fun e => (e.t : Int)) Ev.id a b = true := sortTS_sorted _ _ l
theorem sortE_self {l : List Ev} (b : Bk l) (h : l.Pairwise fun a b => leE (fun e => (e.t : Int)) Ev.id a b = true) : sortE l = l := sortTS_self h b.ids
theorem Bk.take {l : List Ev} (b : Bk l) (c : Nat) : Bk (l.take c) := ⟨fun e he => b.ok e (List.mem_of_mem_take he), b.ids.sublist (List.take_sublist c l), by rw [List.length_take]; have := b.len; omega⟩
theorem sortE_take {l : List Ev} (b : Bk l) (c : Nat) : sortE ((sortE l).take c) = (sortE l).take c := sortE_self (b.sort.take c) ((sortE_sorted l).sublist (List.take_sublist _ _))
theorem seals_take (l : List Ev) : ∀ (h : Int) (c : Nat), sealsFrom h (l.take c) = (sealsFrom h l).take c := by
  induction l with
  | nil => intro h c; simp [sealsFrom]
  | cons e l ih =>
    intro h c
    cases c with
    | zero => rfl
    | succ c => simp only [List.take_succ_cons, sealsFrom, ih]
theorem sealsI_take (l : List Ev) (c : Nat) : sealsI (l.take c) = (sealsI l).take c := seals_take l 1 c
theorem sealsI_len (l : List Ev) : (sealsI l).length = l.length := seals_len l 1
theorem fdD_self (a : List Int) : fdD a a = .non := by
  unfold fdD
  have : (List.range (min a.length a.length)).find? (fun i => decide (a[i]? ≠ a[i]?)) = none := by
    rw [List.find?_eq_none]; intro i _; simp
  rw [this]; simp
theorem fdD_take (a : List Int) {c : Nat} (hc : c ≤ a.length) : fdD a (a.take c) = if c < a.length then .int (c : Nat) else .non := by
  unfold fdD
  have hl : (a.take c).length = c := by rw [List.length_take]; omega
  have : (List.range (min a.length (a.take c).length)).find? (fun i => decide (a[i]? ≠ (a.take c)[i]?)) = none := by
    rw [List.find?_eq_none]; intro i hi
    have := List.mem_range.mp hi
    rw [hl] at this
    rw [List.getElem?_take]
    simp; omega
  rw [this, hl]
  by_cases z : c < a.length
  · rw [if_pos z]
    simp only
    rw [if_neg (by omega)]
    rw [show min a.length c = c by omega]
  · rw [if_neg z]
    simp only
    rw [if_pos (by omega)]
end Lk84
namespace Lk84
open PySem PySem.Spec PyProof.Rows L2 L2.Dl
theorem okC_lt : ∀ c ∈ okC, c < 1114112 := by decide +kernel
theorem lay_line {e : Ev} (h : e.Ok) : Lay (lineS e) := by
  unfold Lay
  show (lineS e).cps.all (· < 0x110000) = true
  rw [← Array.all_toList, List.all_eq_true]
  intro c hc
  exact decide_eq_true (okC_lt c ((line_ok h).2 c hc))
theorem key_eq (e : Ev) : Fn__law_key [e.d] = .ret (.tup [.int (e.t : Nat), .str e.id]) false [] := by
  refine ok_runF (S := [.shr e.d]) ?_ rfl
  show sem__law_key [.shr e.d] = _
  have s0 : subscD e.d (.int 0) = some (.v (.str e.id)) := sub0
  have s1 : subscD e.d (.int 1) = some (.v (.int (e.t : Nat))) := sub1
  simp [sem__law_key, s0, s1]
theorem keys_eq : ∀ l : List Ev, keysBy Fn__law_key (l.map Ev.d) = some (l.map fun e => .tup [.int (e.t : Nat), .str e.id])
  | [] => rfl
  | e :: l => by
    rw [List.map_cons, List.map_cons]
    unfold keysBy
    rw [key_eq e, keys_eq l]
/-- the list with one event changed -/
def chg (e : Ev) : Ev := ⟨e.id, e.t, "note", [.str "changed here"]⟩
theorem chg_ok {e : Ev} (h : e.Ok) : (chg e).Ok := ⟨h.id, h.tm, .note rfl (.inr rfl)⟩
def otherL (l : List Ev) (k : Nat) (e : Ev) : List Ev := l.take k ++ [chg e] ++ l.drop (k + 1)
end Lk84
namespace Lk84
open PySem PySem.Spec PyProof.Rows L2 L2.Dl
theorem split_at {l : List Ev} {k : Nat} {e : Ev} (h : l[k]? = some e) : l = l.take k ++ [e] ++ l.drop (k + 1) := by
  obtain ⟨hk, rfl⟩ := List.getElem?_eq_some_iff.mp h
  rw [List.append_assoc, List.singleton_append, ← List.drop_eq_getElem_cons hk, List.take_append_drop]
theorem otherL_len {l : List Ev} {k : Nat} {e : Ev} (h : l[k]? = some e) : (otherL l k e).length = l.length := by
  have := congrArg List.length (split_at h)
  unfold otherL
  simp only [List.length_append, List.length_singleton] at this ⊢
  omega
theorem pw_chg {R : Ev → Ev → Prop} {a b : List Ev} {e e' : Ev} (h1 : ∀ x, R x e → R x e') (h2 : ∀ x, R e x → R e' x) (h : (a ++ [e] ++ b).Pairwise R) : (a ++ [e'] ++ b).Pairwise R := by
  rw [List.append_assoc, List.singleton_append] at h ⊢
  rw [List.pairwise_append, List.pairwise_cons] at h ⊢
  obtain ⟨p1, ⟨p2, p3⟩, p4⟩ := h
  refine ⟨p1, ⟨fun x hx => h2 x (p2 x hx), p3⟩, fun x hx y hy => ?_⟩
  rcases List.mem_cons.mp hy with rfl | hy
  · exact h1 x (p4 x hx e List.mem_cons_self)
  · exact p4 x hx y (List.mem_cons_of_mem _ hy)
theorem other_bk {l : List Ev} {k : Nat} {e : Ev} (b : Bk l) (h : l[k]? = some e) : Bk (otherL l k e) := by
  refine ⟨fun x hx => ?_, ?_, by rw [otherL_len h]; exact b.len⟩
  · have he : e ∈ l := List.mem_of_getElem? h
    unfold otherL at hx
    rw [List.mem_append, List.mem_append] at hx
    rcases hx with (hx | hx) | hx
    · exact b.ok x (List.mem_of_mem_take hx)
    · rw [List.mem_singleton.mp hx]; exact chg_ok (b.ok e he)
    · exact b.ok x (List.mem_of_mem_drop hx)
  · have p := b.ids
    rw [split_at h] at p
    exact pw_chg (e := e) (e' := chg e) (fun x h => h) (fun x h => h) p
theorem other_sort {l : List Ev} {k : Nat} {e : Ev} (b : Bk l) (h : (sortE l)[k]? = some e) : sortE (otherL (sortE l) k e) = otherL (sortE l) k e := by
  refine sortE_self (other_bk b.sort h) ?_
  have p := sortE_sorted l
  rw [split_at h] at p
  exact pw_chg (e := e) (e' := chg e) (fun x h => h) (fun x h => h) p
theorem filter_head {α : Type} (T : α → Bool) : ∀ l : List α, (l.filter T).head? = l.find? T
  | [] => rfl
  | a :: l => by
    rw [List.filter_cons, List.find?_cons]
    cases T a with
    | true => rfl
    | false => exact filter_head T l
end Lk84
namespace Lk84
open PySem PySem.Spec PyProof.Rows L2 L2.Dl
def fzA (fz : Bool) (d : D) : AV := if fz then .shr d else .own none d
abbrev evsD (l : List Ev) : D := .lst (l.map Ev.d)
abbrev intsD (l : List Int) : D := .lst (l.map .int)
abbrev LS (ns ds : List Int) (l : List Ev) (x4 x5 x6 x7 x8 x9 x10 x11 x12 : AV) : SS := [.shr (.scr ns), .own none (deckI ds), .own none (evsD l), .shr (evsD (sortE l)), x4, x5, x6, x7, x8, x9, x10, x11, x12]
abbrev LS0 (ns ds : List Int) (l : List Ev) (f3 : Bool) : SS := [.shr (.scr ns), .own none (deckI ds), .own none (evsD l), fzA f3 (evsD (sortE l)), .un, .un, .un, .un, .un, .un, .un, .un, .un]
theorem plainF_eq : ∀ n, Fn__law_plain n = plainF n
  | 0 => rfl
  | n + 1 => by
    unfold Fn__law_plain plainF
    rw [plainF_eq n]
    rfl
theorem lA1 (ns : List Int) : ∃ ds, sAsg 1 (callM [false, false, false] Fn__law_deck (sCons (sNm 0) (sCons (sV (.int 90)) (sCons (sV (.int 14)) sNil)))) [.shr (.scr ns), .un, .un, .un, .un, .un, .un, .un, .un, .un, .un, .un, .un]
    = .ok .nx [.shr (.scr ns), .own none (deckI ds), .un, .un, .un, .un, .un, .un, .un, .un, .un, .un, .un] := by
  obtain ⟨ds, e⟩ := deck_run (ns := ns) (c := 90) (e := 14) (by decide) (by decide)
  have e : Fn__law_deck [.scr ns, .int 90, .int 14] = .ret (deckI ds) true [] := e
  exact ⟨ds, by simp [e]⟩
theorem lA2 (ns ds : List Int) : ∃ ds' l, Bk l ∧ sAsg 2 (callM [true, false] Fn__law_book (sCons (sNm 1) (sCons (sV (.int 10)) sNil))) [.shr (.scr ns), .own none (deckI ds), .un, .un, .un, .un, .un, .un, .un, .un, .un, .un, .un]
    = .ok .nx [.shr (.scr ns), .own none (deckI ds'), .own none (evsD l), .un, .un, .un, .un, .un, .un, .un, .un, .un, .un] := by
  obtain ⟨ds', l, n, h1, h2, h3, e⟩ := book_eq ds
  exact ⟨ds', l, book_bk h2 h1 h3, by simp [e]⟩
theorem lA3 (ns ds : List Int) (l : List Ev) : sAsg 3 (sSortF Fn__law_key (sNm 2)) [.shr (.scr ns), .own none (deckI ds), .own none (evsD l), .un, .un, .un, .un, .un, .un, .un, .un, .un, .un]
    = .ok .nx (LS0 ns ds l false) := by
  have k := keys_eq l
  have sr := sortR_ts Ev.d (fun e => (e.t : Int)) Ev.id l
  have sr : sortR (l.map Ev.d) (l.map fun e => .tup [.int (e.t : Nat), .str e.id]) = some (.f (evsD (sortE l))) := sr
  have e : sSortF Fn__law_key (sNm 2) [.shr (.scr ns), .own none (deckI ds), .own none (evsD l), .un, .un, .un, .un, .un, .un, .un, .un, .un, .un] = .ok (.f (evsD (sortE l))) [.shr (.scr ns), .own none (deckI ds), .own none (evsD l), .un, .un, .un, .un, .un, .un, .un, .un, .un, .un] := by
    unfold sSortF sortFk
    simp [k, sr]
  simp [LS0, fzA, e]
end Lk84
namespace Lk84
open PySem PySem.Spec PyProof.Rows L2 L2.Dl
theorem lc_lines {Fn : List D → FR} (hF : ∀ e : Ev, e.Ok → Fn [e.d] = .ret (.str (lineS e)) false []) (ns ds : List Int) {l : List Ev} (b : Bk l) (f3 : Bool) : sLc [8] (iSeq (sNm 3)) (tNm 8) sYes (callM [false] Fn (sCons (sNm 8) sNil)) (LS0 ns ds l f3)
    = .ok (.f (.lst ((sortE l).map fun e => .str (lineS e)))) (LS ns ds l .un .un .un .un .un .un .un .un .un) := by
  obtain ⟨S', e, rfl⟩ := lc_map (vs := [8]) (fi := iSeq (sNm 3)) (g := tNm 8) (ft := sYes) (fe := callM [false] Fn (sCons (sNm 8) sNil))
    (S := LS0 ns ds l f3) (S1 := LS ns ds l .un .un .un .un .un .un .un .un .un) (xs := sortE l) Ev.d (fun _ => true) (fun e => .str (lineS e)) (fun S => S = LS ns ds l .un .un .un .un .un .un .un .un .un)
    (by have sq : seqOf (evsD (sortE l)) = some ((sortE l).map Ev.d) := rfl
        cases f3 <;> simp [LS, LS0, fzA, sq]) (by have := b.sort.len; omega) (fun x hx S hS => by
      subst hS
      have h := hF x (b.sort.ok x hx)
      refine ⟨LS ns ds l .un .un .un .un (.shr x.d) .un .un .un .un, LS ns ds l .un .un .un .un (.shr x.d) .un .un .un .un, rfl, rfl, fun _ => ⟨.v (.str (lineS x)), LS ns ds l .un .un .un .un (.shr x.d) .un .un .un .un, _, by simp [LS, h], rfl, rfl⟩, (fun z => by cases z)⟩) rfl
  rw [List.filter_eq_self.mpr fun _ _ => rfl] at e
  exact e
theorem lB (ns ds : List Int) {l : List Ev} (b : Bk l) : sIfS (sCmpT dne (callM [false] (Fn__law_plain 8) (sCons (sLc [8] (iSeq (sNm 3)) (tNm 8) sYes (callM [false] Fn_line_of (sCons (sNm 8) sNil))) sNil)) (callM [false] (Fn__law_plain 8) (sCons (sLc [8] (iSeq (sNm 3)) (tNm 8) sYes (callM [false] Fn__law_line (sCons (sNm 8) sNil))) sNil))) (sRet (sV (.bl false))) sNext (LS0 ns ds l false)
    = .ok .nx (LS ns ds l .un .un .un .un .un .un .un .un .un) := by
  have e1 := lc_lines (Fn := Fn_line_of) (fun e h => line_of_eq h) ns ds b false
  have e2 := lc_lines (Fn := Fn__law_line) (fun e h => law_line_eq h) ns ds b true
  have ok : OkD 500 1 (.lst ((sortE l).map fun e => .str (lineS e))) := by
    refine .lst (by rw [List.length_map]; exact b.sort.len) fun d hd => ?_
    obtain ⟨e, he, rfl⟩ := List.mem_map.mp hd
    exact .str (lay_line (b.sort.ok e he))
  obtain ⟨e, fr, e3, ok3⟩ := plain_run (by decide) (by decide) ok 8 (by decide)
  rw [← plainF_eq] at e3
  have dn := ok3.dne_self (by decide)
  generalize (D.lst ((sortE l).map fun e => .str (lineS e))) = w at e1 e2 e3
  have e2 : sLc [8] (iSeq (sNm 3)) (tNm 8) sYes (callM [false] Fn__law_line (sCons (sNm 8) sNil)) (LS ns ds l .un .un .un .un .un .un .un .un .un) = .ok (.f w) (LS ns ds l .un .un .un .un .un .un .un .un .un) := e2
  cases fr <;> simp [e1, e2, e3, dn]
theorem lC (ns ds : List Int) {l : List Ev} (b : Bk l) : sAsg 4 (callM [false] Fn__law_seal (sCons (sNm 3) sNil)) (LS ns ds l .un .un .un .un .un .un .un .un .un)
    = .ok .nx (LS ns ds l (.own none (intsD (sealsI (sortE l)))) .un .un .un .un .un .un .un .un) := by
  have e : Fn__law_seal [evsD (sortE l)] = .ret (intsD (sealsI (sortE l))) true [] := law_seal_eq b.sort.ok (by have := b.sort.len; omega)
  have hf : flatR true (intsD (sealsI (sortE l))) = true := by simp [intsD, flatR, D.flat, D.sc]
  simp [LS, e, callK_keep, hf]
end Lk84
namespace Lk84
open PySem PySem.Spec PyProof.Rows L2 L2.Dl
theorem ok_ints {a : List Int} (h : a.length ≤ 500) : OkD 500 1 (intsD a) := by
  refine .lst (by rw [List.length_map]; exact h) fun d hd => ?_
  obtain ⟨e, he, rfl⟩ := List.mem_map.mp hd
  exact .int
theorem due_len {l : List Ev} (b : Bk l) : (sealsI (sortE l)).length ≤ 500 := by rw [sealsI_len, sortE_len]; exact b.len
@[simp] theorem isT_bl (a b : Bool) : isD true (.bl a) (.bl b) = some (!(a == b)) := by cases a <;> cases b <;> rfl
@[simp] theorem flatR_bl (b : Bool) : flatR false (.bl b) = true := rfl
@[simp] theorem flatR_int (i : Int) : flatR false (.int i) = true := rfl
@[simp] theorem flatR_non : flatR false .non = true := rfl
theorem lD (ns ds : List Int) {l : List Ev} (b : Bk l) : ∃ f, sIfS (sOr (sCmpT dne (callM [false] (Fn__law_plain 8) (sCons (callM [false] Fn_seal (sCons (sUn gRv (sNm 2)) sNil)) sNil)) (callM [false] (Fn__law_plain 8) (sCons (sNm 4) sNil))) (sCmpT (isD true) (callM [false, false] Fn_judge_seal (sCons (sNm 2) (sCons (sNm 4) sNil))) (sV (.bl true)))) (sRet (sV (.bl false))) sNext (LS ns ds l (.own none (intsD (sealsI (sortE l)))) .un .un .un .un .un .un .un .un)
    = .ok .nx (LS ns ds l (fzA f (intsD (sealsI (sortE l)))) .un .un .un .un .un .un .un .un) := by
  have p := List.reverse_perm l
  have e1 := seal_eq (b.perm p.symm)
  rw [sortE_perm b p.symm] at e1
  have rv : gRv (evsD l) = some (.f (evsD l.reverse)) := by show some (R.f (.lst (l.map Ev.d).reverse)) = _; rw [← List.map_reverse]
  obtain ⟨e, fr, e3, ok3⟩ := plain_run (by decide) (by decide) (ok_ints (due_len b)) 8 (by decide)
  rw [← plainF_eq] at e3
  have dn := ok3.dne_self (by decide)
  have j := judge_eq b (sealsI (sortE l))
  rw [decide_eq_true rfl] at j
  cases hf : flatR fr e with
  | true => exact ⟨false, by cases fr <;> simp [LS, fzA, rv, e1, e3, dn, j, hf, callK_keep]⟩
  | false => exact ⟨true, by cases fr <;> simp [LS, fzA, rv, e1, e3, dn, j, hf, callK_frz, callK_keep]⟩
end Lk84
namespace Lk84
open PySem PySem.Spec PyProof.Rows L2 L2.Dl
theorem cut_hi {l : List D} {c : Nat} (h : c ≤ l.length) : Dl.cutD l none (some (c : Int)) = l.take c := by
  unfold Dl.cutD
  have e1 : HT.sIx l.length 0 none = 0 := rfl
  have e2 : HT.sIx l.length l.length (some (c : Int)) = c := by
    rw [HT.sIx_nat]; omega
  rw [e1, e2]; simp
theorem cut_lo {l : List D} {c : Nat} (h : c ≤ l.length) : Dl.cutD l (some (c : Int)) none = l.drop c := by
  unfold Dl.cutD
  have e1 : HT.sIx l.length l.length none = l.length := rfl
  have e2 : HT.sIx l.length 0 (some (c : Int)) = c := by
    rw [HT.sIx_nat]; omega
  rw [e1, e2, List.take_of_length_le (by simp)]
theorem sl_hi {α : Type} {f : α → D} {l : List α} {c : Nat} (h : c ≤ l.length) : gSl (.lst (l.map f)) none (some (c : Int)) = some (.f (.lst ((l.take c).map f))) := by
  show some (R.f (.lst (Dl.cutD _ _ _))) = _
  rw [cut_hi (by simpa using h), List.map_take]
theorem sl_lo {α : Type} {f : α → D} {l : List α} {c : Nat} (h : c ≤ l.length) : gSl (.lst (l.map f)) (some (c : Int)) none = some (.f (.lst ((l.drop c).map f))) := by
  show some (R.f (.lst (Dl.cutD _ _ _))) = _
  rw [cut_lo (by simpa using h), List.map_drop]
theorem lE (ns ds : List Int) (l : List Ev) (x4 : AV) : ∃ c ds', c ≤ (sortE l).length ∧ sAsg 5 (callM [true, false] Fn__law_take (sCons (sNm 1) (sCons (sOp addD (sCall gLen (sCons (sNm 3) sNil)) (sV (.int 1))) sNil))) (LS ns ds l x4 .un .un .un .un .un .un .un .un)
    = .ok .nx (LS ns ds' l x4 (.shr (.int (c : Nat))) .un .un .un .un .un .un .un) := by
  obtain ⟨c, hc, e⟩ := takeN ds (m := (sortE l).length + 1) (by omega)
  refine ⟨c, ds.dropLast, by omega, ?_⟩
  have e : Fn__law_take [deckI ds, .int (((sortE l).length : Int) + 1)] = .ret (.int (c : Nat)) false [deckI ds.dropLast] := e
  simp [LS, e]
end Lk84
namespace Lk84
open PySem PySem.Spec PyProof.Rows L2 L2.Dl
abbrev seI (l : List Ev) : List Int := sealsI (sortE l)
theorem seI_len (l : List Ev) : (seI l).length = (sortE l).length := sealsI_len _
theorem add1 {a b : List Int} (h : a.length + b.length ≤ 1000000) : addD (intsD a) (intsD b) = some (.f (intsD (a ++ b))) := by
  show (if _ then _ else _) = _
  rw [if_pos (by simpa using h)]
  simp [intsD]
theorem ne_snoc {a : List Int} {x : Int} : a ≠ a ++ [x] := fun h => by
  have := congrArg List.length h
  simp at this
theorem lF (ns ds : List Int) {l : List Ev} (b : Bk l) (f : Bool) {c : Nat} (hc : c ≤ (sortE l).length) : sIfS (sOr (sCmpT dne (callM [false] Fn_seal (sCons (sSlHi (sNm 3) (sNm 5)) sNil)) (sSlHi (sNm 4) (sNm 5))) (sCmpT (isD true) (callM [false, false] Fn_judge_seal (sCons (sNm 2) (sCons (sOp addD (sNm 4) (sMake gLst (sCons (sV (.int 1)) sNil))) sNil))) (sV (.bl false)))) (sRet (sV (.bl false))) sNext (LS ns ds l (fzA f (intsD (seI l))) (.shr (.int (c : Nat))) .un .un .un .un .un .un .un)
    = .ok .nx (LS ns ds l (fzA f (intsD (seI l))) (.shr (.int (c : Nat))) .un .un .un .un .un .un .un) := by
  have sl1 : gSl (evsD (sortE l)) none (some (c : Int)) = some (.f (evsD ((sortE l).take c))) := sl_hi hc
  have sl2 : gSl (intsD (seI l)) none (some (c : Int)) = some (.f (intsD ((seI l).take c))) := sl_hi (by rw [seI_len]; exact hc)
  have e1 : Fn_seal [evsD ((sortE l).take c)] = .ret (intsD ((seI l).take c)) true [] := by
    have := seal_eq (b.sort.take c)
    rw [sortE_take b, sealsI_take] at this
    exact this
  have ad : addD (intsD (seI l)) (.lst [.int 1]) = some (.f (intsD (seI l ++ [1]))) := add1 (b := [1]) (by have q : (seI l).length ≤ 500 := due_len b; simp; omega)
  have dn : dne (intsD ((seI l).take c)) (intsD ((seI l).take c)) = some false := by rw [dne_ints]; simp
  have j : Fn_judge_seal [evsD l, intsD (seI l ++ [1])] = .ret (.bl false) false [] := by
    have := judge_eq b (seI l ++ [1])
    rw [decide_eq_false ne_snoc] at this
    exact this
  cases f <;> simp [LS, fzA, sl1, sl2, e1, ad, dn, j, callK_keep]
theorem flat_fdD (a b : List Int) : flatR false (fdD a b) = true := by
  unfold fdD; split
  · rfl
  · split <;> rfl
theorem ok_fdD (a b : List Int) : OkD 500 0 (fdD a b) := by
  unfold fdD; split
  · exact .int
  · split <;> constructor
theorem lG (ns ds : List Int) {l : List Ev} (b : Bk l) (x4 : AV) {c : Nat} (hc : c ≤ (sortE l).length) : sAsg 6 (callM [false, false] Fn_first_difference (sCons (sNm 2) (sCons (sSlHi (sNm 3) (sNm 5)) sNil))) (LS ns ds l x4 (.shr (.int (c : Nat))) .un .un .un .un .un .un .un)
    = .ok .nx (LS ns ds l x4 (.shr (.int (c : Nat))) (.shr (if c < (sortE l).length then .int (c : Nat) else .non)) .un .un .un .un .un .un) := by
  have sl1 : gSl (evsD (sortE l)) none (some (c : Int)) = some (.f (evsD ((sortE l).take c))) := sl_hi hc
  have e1 : Fn_first_difference [evsD l, evsD ((sortE l).take c)] = .ret (if c < (sortE l).length then .int (c : Nat) else .non) false [] := by
    have := first_eq b (b.sort.take c)
    rw [sortE_take b, sealsI_take, fdD_take _ (by rw [seI_len]; exact hc), seI_len] at this
    exact this
  have fl : flatR false (if c < (sortE l).length then D.int (c : Nat) else .non) = true := by split <;> rfl
  simp only [ev_sAsg, ev_callM, ev_sCons, ev_sNm, ev_sSlHi, ev_sNil]
  simp [LS, sl1, e1, callK_keep, fl]
theorem lH (ns ds : List Int) {l : List Ev} (b : Bk l) (x4 : AV) {c : Nat} (hc : c ≤ (sortE l).length) : sIfS (sOr (sCmpT dne (callM [false] (Fn__law_plain 8) (sCons (sNm 6) sNil)) (callM [false] (Fn__law_plain 8) (sCons (sIf (sCmpT ltD (sNm 5) (sCall gLen (sCons (sNm 3) sNil))) (sNm 5) (sV .non)) sNil))) (sCmpT (isD true) (callM [false, false] Fn_first_difference (sCons (sNm 2) (sCons (sNm 2) sNil))) (sV .non))) (sRet (sV (.bl false))) sNext (LS ns ds l x4 (.shr (.int (c : Nat))) (.shr (if c < (sortE l).length then .int (c : Nat) else .non)) .un .un .un .un .un .un)
    = .ok .nx (LS ns ds l x4 (.shr (.int (c : Nat))) (.shr (if c < (sortE l).length then .int (c : Nat) else .non)) .un .un .un .un .un .un) := by
  have e1 : Fn_first_difference [evsD l, evsD l] = .ret .non false [] := by
    have := first_eq b b
    rw [fdD_self] at this
    exact this
  have is : isD true .non .non = some false := rfl
  by_cases h : c < (sortE l).length
  · obtain ⟨e, fr, e3, ok3⟩ := plain_run (N := 500) (by decide) (by decide) (OkD.int (n := 0) (i := (c : Nat))) 8 (by decide)
    rw [← plainF_eq] at e3
    have dn := ok3.dne_self (by decide)
    cases fr <;> simp [LS, h, e1, e3, dn, is, callK_keep]
  · obtain ⟨e, fr, e3, ok3⟩ := plain_run (N := 500) (by decide) (by decide) (OkD.non (n := 0)) 8 (by decide)
    rw [← plainF_eq] at e3
    have dn := ok3.dne_self (by decide)
    cases fr <;> simp [LS, h, e1, e3, dn, is, callK_keep]
end Lk84
namespace Lk84
open PySem PySem.Spec PyProof.Rows L2 L2.Dl
theorem lI (ns ds : List Int) (l : List Ev) (x4 x5 x6 : AV) (h : 0 < (sortE l).length) : ∃ k e ds', (sortE l)[k]? = some e ∧ sAsg 7 (callM [true, false] Fn__law_take (sCons (sNm 1) (sCons (sCall gLen (sCons (sNm 3) sNil)) sNil))) (LS ns ds l x4 x5 x6 .un .un .un .un .un .un)
    = .ok .nx (LS ns ds' l x4 x5 x6 (.shr (.int (k : Nat))) .un .un .un .un .un) := by
  obtain ⟨c, hc, e⟩ := takeN ds (m := (sortE l).length) h
  refine ⟨c, (sortE l)[c], ds.dropLast, List.getElem?_eq_getElem hc, ?_⟩
  simp [LS, e]
theorem sub_ev {l : List Ev} {k : Nat} {e : Ev} (h : l[k]? = some e) : subscD (evsD l) (.int (k : Nat)) = some (.v e.d) := by
  obtain ⟨hk, rfl⟩ := List.getElem?_eq_some_iff.mp h
  show (atI (l.map Ev.d) (k : Int)).map R.v = _
  unfold atI ixN
  rw [if_pos (by omega), if_pos (by simpa using hk)]
  simp [hk]
theorem lJ (ns ds : List Int) (l : List Ev) (x4 x5 x6 : AV) {k : Nat} {e : Ev} (h : (sortE l)[k]? = some e) : sAsg 8 (sOp subscD (sNm 3) (sNm 7)) (LS ns ds l x4 x5 x6 (.shr (.int (k : Nat))) .un .un .un .un .un)
    = .ok .nx (LS ns ds l x4 x5 x6 (.shr (.int (k : Nat))) (.shr e.d) .un .un .un .un) := by
  have s := sub_ev h
  simp [LS, s]
theorem add_ev {a b : List Ev} (h : a.length + b.length ≤ 1000000) : addD (evsD a) (evsD b) = some (.f (evsD (a ++ b))) := by
  show (if _ then _ else _) = _
  rw [if_pos (by simpa using h)]
  simp [evsD]
theorem lK (ns ds : List Int) {l : List Ev} (b : Bk l) (x4 x5 x6 : AV) {k : Nat} {e : Ev} (h : (sortE l)[k]? = some e) : sAsg 9 (sOp addD (sOp addD (sSlHi (sNm 3) (sNm 7)) (sMake gLst (sCons (sMake gTup (sCons (sOp subscD (sNm 8) (sV (.int 0))) (sCons (sOp subscD (sNm 8) (sV (.int 1))) (sCons (sV (.str "note")) (sCons (sV (.str "changed here")) sNil))))) sNil))) (sSlLo (sNm 3) (sOp addD (sNm 7) (sV (.int 1))))) (LS ns ds l x4 x5 x6 (.shr (.int (k : Nat))) (.shr e.d) .un .un .un .un)
    = .ok .nx (LS ns ds l x4 x5 x6 (.shr (.int (k : Nat))) (.shr e.d) (.own none (evsD (otherL (sortE l) k e))) .un .un .un) := by
  obtain ⟨hk, he⟩ := List.getElem?_eq_some_iff.mp h
  have sl1 : gSl (evsD (sortE l)) none (some (k : Int)) = some (.f (evsD ((sortE l).take k))) := sl_hi (by omega)
  have sl2 : gSl (evsD (sortE l)) (some ((k : Int) + 1)) none = some (.f (evsD ((sortE l).drop (k + 1)))) := sl_lo (c := k + 1) (by omega)
  have s0 : subscD e.d (.int 0) = some (.v (.str e.id)) := sub0
  have s1 : subscD e.d (.int 1) = some (.v (.int (e.t : Nat))) := sub1
  have len := b.sort.len
  have a1 : addD (evsD ((sortE l).take k)) (.lst [.tup [.str e.id, .int (e.t : Nat), .str "note", .str "changed here"]]) = some (.f (evsD ((sortE l).take k ++ [chg e]))) := add_ev (b := [chg e]) (by simp; omega)
  have a2 : addD (evsD ((sortE l).take k ++ [chg e])) (evsD ((sortE l).drop (k + 1))) = some (.f (evsD (otherL (sortE l) k e))) := add_ev (by simp; omega)
  simp [LS, sl1, sl2, s0, s1, a1, a2]
theorem lL (ns ds : List Int) {l m : List Ev} (b : Bk m) (x4 x5 x6 x7 x8 : AV) : sAsg 10 (callM [false] Fn__law_seal (sCons (sNm 9) sNil)) (LS ns ds l x4 x5 x6 x7 x8 (.own none (evsD m)) .un .un .un)
    = .ok .nx (LS ns ds l x4 x5 x6 x7 x8 (.own none (evsD m)) (.own none (intsD (sealsI m))) .un .un) := by
  have e : Fn__law_seal [evsD m] = .ret (intsD (sealsI m)) true [] := law_seal_eq b.ok (by have := b.len; omega)
  have hf : flatR true (intsD (sealsI m)) = true := by simp [intsD, flatR, D.flat, D.sc]
  simp [LS, e, callK_keep, hf]
/-- where the lists differ -/
def apartL (a b : List Int) : List Nat := (List.range a.length).filter fun i => decide (a[i]? ≠ b[i]?)
theorem lM (ns ds : List Int) {l : List Ev} {a b : List Int} (hl : a.length = b.length) (hn : a.length ≤ 500) (f : Bool) (x5 x6 x7 x8 x9 : AV) (h6 : x6 = .shr d6) : sAsg 11 (sLc [6] (iRng fRng1 (sCons (sCall gLen (sCons (sNm 10) sNil)) sNil)) (tNm 6) (sCmpT dne (sOp subscD (sNm 10) (sNm 6)) (sOp subscD (sNm 4) (sNm 6))) (sNm 6)) (LS ns ds l (fzA f (intsD b)) x5 x6 x7 x8 x9 (.own none (intsD a)) .un .un)
    = .ok .nx (LS ns ds l (fzA f (intsD b)) x5 x6 x7 x8 x9 (.own none (intsD a)) (.own none (.lst ((apartL a b).map fun i => .int (i : Nat)))) .un) := by
  subst h6
  have gl : gLen [intsD a] = some (.v (.int (a.length : Nat))) := by simp [intsD]
  have hr := fRng1_nat (n := a.length) (by omega)
  obtain ⟨S', e, x', rfl⟩ := lc_map (vs := [6]) (fi := iRng fRng1 (sCons (sCall gLen (sCons (sNm 10) sNil)) sNil)) (g := tNm 6) (ft := sCmpT dne (sOp subscD (sNm 10) (sNm 6)) (sOp subscD (sNm 4) (sNm 6))) (fe := sNm 6)
    (S := LS ns ds l (fzA f (intsD b)) x5 (.shr d6) x7 x8 x9 (.own none (intsD a)) .un .un) (S1 := LS ns ds l (fzA f (intsD b)) x5 (.shr d6) x7 x8 x9 (.own none (intsD a)) .un .un) (xs := List.range a.length) (fun i => .int (i : Nat)) (fun i => decide (a[i]? ≠ b[i]?)) (fun i => .int (i : Nat)) (fun S => ∃ x6, S = LS ns ds l (fzA f (intsD b)) x5 x6 x7 x8 x9 (.own none (intsD a)) .un .un)
    (by simp only [ev_iRng, ev_sCons, ev_sCall, ev_sNm, LS]
        simp [gl, hr]) (by simp; omega) (fun i hi S hS => by
      obtain ⟨x6, rfl⟩ := hS
      have hi : i < a.length := List.mem_range.mp hi
      have h2 : i < b.length := by omega
      have s1 := sub_int hi
      have s2 := sub_int h2
      refine ⟨LS ns ds l (fzA f (intsD b)) x5 (.shr (.int (i : Nat))) x7 x8 x9 (.own none (intsD a)) .un .un, LS ns ds l (fzA f (intsD b)) x5 (.shr (.int (i : Nat))) x7 x8 x9 (.own none (intsD a)) .un .un, rfl, ?_, fun _ => ⟨.at 6, LS ns ds l (fzA f (intsD b)) x5 (.shr (.int (i : Nat))) x7 x8 x9 (.own none (intsD a)) .un .un, LS ns ds l (fzA f (intsD b)) x5 (.shr (.int (i : Nat))) x7 x8 x9 (.own none (intsD a)) .un .un, by simp [LS], by simp [LS], .un, rfl⟩, fun _ => ⟨.un, rfl⟩⟩
      have dn : dne (.int a[i]) (.int b[i]) = some (decide (a[i] ≠ b[i])) := by
        rw [dne_int', show (a[i] == b[i]) = decide (a[i] = b[i]) from rfl]
        simp
      rw [List.getElem?_eq_getElem hi, List.getElem?_eq_getElem h2]
      cases f <;> simp [LS, fzA, s1, s2, dn]) ⟨.un, rfl⟩
  simp only [ev_sAsg, e, ev_bind_ok, ev_setR_f, ev_nxt]
  rfl
end Lk84
namespace Lk84
open PySem PySem.Spec PyProof.Rows L2 L2.Dl
abbrev apD (a b : List Int) : D := .lst ((apartL a b).map fun i => .int (i : Nat))
theorem ap_head {a b : List Int} (h : a.length = b.length) : fdD a b = match (apartL a b).head? with
    | some i => .int (i : Nat)
    | none => .non := by
  unfold fdD apartL
  rw [filter_head, ← h, Nat.min_self]
  cases (List.range a.length).find? fun i => decide (a[i]? ≠ b[i]?) with
  | some i => rfl
  | none => simp
theorem lN (ns ds : List Int) {l m : List Ev} (b : Bk l) (bm : Bk m) (hm : sortE m = m) (hl : m.length = l.length) (x4 x5 x6 x7 x8 x10 : AV) : sIfS (sCmpT dne (callM [false] (Fn__law_plain 8) (sCons (callM [false, false] Fn_first_difference (sCons (sNm 9) (sCons (sNm 2) sNil))) sNil)) (callM [false] (Fn__law_plain 8) (sCons (sIf (sCmpT gtD (sCall gLen (sCons (sNm 11) sNil)) (sV (.int 0))) (sOp subscD (sNm 11) (sV (.int 0))) (sV .non)) sNil))) (sRet (sV (.bl false))) sNext (LS ns ds l x4 x5 x6 x7 x8 (.own none (evsD m)) x10 (.own none (apD (sealsI m) (seI l))) .un)
    = .ok .nx (LS ns ds l x4 x5 x6 x7 x8 (.own none (evsD m)) x10 (.own none (apD (sealsI m) (seI l))) .un) := by
  have e1 : Fn_first_difference [evsD m, evsD l] = .ret (fdD (sealsI m) (seI l)) false [] := by
    have := first_eq bm b
    rw [hm] at this
    exact this
  have le : (sealsI m).length = (seI l).length := by rw [seI_len, sealsI_len, sortE_len, hl]
  have fl := flat_fdD (sealsI m) (seI l)
  rw [ap_head le] at e1 fl
  unfold apD
  cases hp : apartL (sealsI m) (seI l) with
  | nil =>
    rw [hp] at e1 fl
    simp only [List.head?_nil] at e1 fl
    obtain ⟨e, fr, e3, ok3⟩ := plain_run (N := 500) (by decide) (by decide) (OkD.non (n := 0)) 8 (by decide)
    rw [← plainF_eq] at e3
    have dn := ok3.dne_self (by decide)
    cases fr <;> simp [LS, e1, e3, dn, callK_keep]
  | cons i r =>
    rw [hp] at e1 fl
    simp only [List.head?_cons] at e1 fl
    obtain ⟨e, fr, e3, ok3⟩ := plain_run (N := 500) (by decide) (by decide) (OkD.int (n := 0) (i := (i : Nat))) 8 (by decide)
    rw [← plainF_eq] at e3
    have dn := ok3.dne_self (by decide)
    have sb : subscD (.lst (.int (i : Nat) :: r.map fun i => .int (i : Nat))) (.int 0) = some (.v (.int (i : Nat))) := by
      show (atI (D.int (i : Nat) :: r.map fun i => D.int (i : Nat)) (0 : Int)).map R.v = _
      unfold atI ixN
      rw [if_pos (by omega), if_pos (by simp)]
      simp
    have gt : (0 : Int) < (r.length : Int) + 1 := by omega
    cases fr <;> simp [LS, e1, e3, dn, callK_keep, sb, gt]
theorem lO (ns ds : List Int) {l m : List Ev} (bm : Bk m) (hm : sortE m = m) (f : Bool) (x5 x6 x7 x8 x11 : AV) : sIfS (sCmpT dne (callM [false, false] Fn_judge_seal (sCons (sNm 9) (sCons (sNm 4) sNil))) (sOp (toB deq) (sNm 10) (sNm 4))) (sRet (sV (.bl false))) sNext (LS ns ds l (fzA f (intsD (seI l))) x5 x6 x7 x8 (.own none (evsD m)) (.own none (intsD (sealsI m))) x11 .un)
    = .ok .nx (LS ns ds l (fzA f (intsD (seI l))) x5 x6 x7 x8 (.own none (evsD m)) (.own none (intsD (sealsI m))) x11 .un) := by
  have j : Fn_judge_seal [evsD m, intsD (seI l)] = .ret (.bl (decide (sealsI m = seI l))) false [] := by
    have := judge_eq bm (seI l)
    rw [hm] at this
    exact this
  have dq : toB deq (intsD (sealsI m)) (intsD (seI l)) = some (.v (.bl (decide (sealsI m = seI l)))) := by
    show (deq _ _).map _ = _
    rw [deq_ints]; rfl
  generalize decide (sealsI m = seI l) = t at j dq
  have dn : dne (.bl t) (.bl t) = some false := by cases t <;> rfl
  cases f <;> simp [LS, fzA, j, dq, dn, callK_keep]
theorem lP (ns ds : List Int) {l : List Ev} (f : Bool) (a : List Int) (x5 x6 x7 x8 x9 x10 x11 : AV) : sAsg 12 (sCall gList (sCons (sNm 4) sNil)) (LS ns ds l (fzA f (intsD a)) x5 x6 x7 x8 x9 x10 x11 .un)
    = .ok .nx (LS ns ds l (fzA f (intsD a)) x5 x6 x7 x8 x9 x10 x11 (.own none (intsD a))) := by
  have g : gList [intsD a] = some (.f (intsD a)) := rfl
  cases f <;> simp [LS, fzA, g]
theorem lQ (ns ds : List Int) {l : List Ev} (a : List Int) {k : Nat} (h : k < a.length) (x4 x5 x6 x8 x9 x10 x11 : AV) : sPut 12 (sOp addD (sOp subscD (sNm 12) (sNm 7)) (sV (.int 1))) (sNm 7) (LS ns ds l x4 x5 x6 (.shr (.int (k : Nat))) x8 x9 x10 x11 (.own none (intsD a)))
    = .ok .nx (LS ns ds l x4 x5 x6 (.shr (.int (k : Nat))) x8 x9 x10 x11 (.own none (intsD (a.set k (a[k] + 1))))) := by
  have s1 : subscD (intsD a) (.int (k : Nat)) = some (.v (.int a[k])) := sub_int h
  have p : putAt (.lst (a.map .int)) (.int (k : Nat)) (.int (a[k] + 1)) = some (intsD (a.set k (a[k] + 1))) := by
    show (match ixN (a.map D.int).length (k : Int) with | none => none | some n => some (D.lst ((a.map D.int).set n (.int (a[k] + 1))))) = _
    unfold ixN
    rw [if_pos (by omega), if_pos (by simpa using h)]
    simp [intsD, List.map_set]
  simp [LS, s1, p]
theorem set_ne {a : List Int} {k : Nat} (h : k < a.length) : a ≠ a.set k (a[k] + 1) := fun e => by
  have := congrArg (fun q : List Int => q[k]?) e
  simp [h] at this
  omega
theorem lR (ns ds : List Int) {l : List Ev} (b : Bk l) (q : List Int) (h : seI l ≠ q) (x4 x5 x6 x7 x8 x9 x10 x11 : AV) : sIfS (sCmpT (isD true) (callM [false, false] Fn_judge_seal (sCons (sNm 2) (sCons (sNm 12) sNil))) (sV (.bl false))) (sRet (sV (.bl false))) sNext (LS ns ds l x4 x5 x6 x7 x8 x9 x10 x11 (.own none (intsD q)))
    = .ok .nx (LS ns ds l x4 x5 x6 x7 x8 x9 x10 x11 (.own none (intsD q))) := by
  have j : Fn_judge_seal [evsD l, intsD q] = .ret (.bl false) false [] := by
    have := judge_eq b q
    rw [decide_eq_false h] at this
    exact this
  simp [LS, j, callK_keep]
noncomputable abbrev wrL : M R := sMake gLst (sCons (sMake gTup (sCons (sV (.str "e")) (sCons (sV (.int 1)) sNil))) (sCons (sMake gTup (sCons (sV (.str "e")) (sCons (sV (.int 1)) (sCons (sV (.str "note")) (sCons (sV (.int 5)) sNil))))) (sCons (sV .non) sNil)))
theorem lS (ns ds : List Int) {l : List Ev} (x4 x5 x6 x7 x8 x9 x10 x11 x12 : AV) : ∃ ds', sRet (callM [false] Fn__law_refused (sCons (sOp subscD wrL (callM [true, false] Fn__law_take (sCons (sNm 1) (sCons (sV (.int 3)) sNil)))) sNil)) (LS ns ds l x4 x5 x6 x7 x8 x9 x10 x11 x12)
    = .ok (.rt (.bl true) false) (LS ns ds' l x4 x5 x6 x7 x8 x9 x10 x11 x12) := by
  obtain ⟨c, hc, e⟩ := takeN ds (m := 3) (by decide)
  have e : Fn__law_take [deckI ds, .int 3] = .ret (.int (c : Nat)) false [deckI ds.dropLast] := e
  refine ⟨ds.dropLast, ?_⟩
  obtain ⟨r1, r2, r3⟩ := refused
  have : ∃ d, subscD (.lst [.tup [.str "e", .int 1], .tup [.str "e", .int 1, .str "note", .int 5], .non]) (.int (c : Nat)) = some (.v d) ∧ Fn__law_refused [d] = .ret (.bl true) false [] := by
    match c, hc with
    | 0, _ => exact ⟨_, rfl, r1⟩
    | 1, _ => exact ⟨_, rfl, r2⟩
    | 2, _ => exact ⟨_, rfl, r3⟩
  obtain ⟨d, s, r⟩ := this
  simp [wrL, LS, e, s, r, callK_keep]
end Lk84
namespace Lk84
open PySem PySem.Spec PyProof.Rows L2 L2.Dl
noncomputable abbrev qI : M Fl := (sIfS (sCmpT gtD (sCall gLen (sCons (sNm 3) sNil)) (sV (.int 0))) (sSeq (sAsg 7 (callM [true, false] Fn__law_take (sCons (sNm 1) (sCons (sCall gLen (sCons (sNm 3) sNil)) sNil))))
    (sSeq (sAsg 8 (sOp subscD (sNm 3) (sNm 7)))
    (sSeq (sAsg 9 (sOp addD (sOp addD (sSlHi (sNm 3) (sNm 7)) (sMake gLst (sCons (sMake gTup (sCons (sOp subscD (sNm 8) (sV (.int 0))) (sCons (sOp subscD (sNm 8) (sV (.int 1))) (sCons (sV (.str "note")) (sCons (sV (.str "changed here")) sNil))))) sNil))) (sSlLo (sNm 3) (sOp addD (sNm 7) (sV (.int 1))))))
    (sSeq (sAsg 10 (callM [false] Fn__law_seal (sCons (sNm 9) sNil)))
    (sSeq (sAsg 11 (sLc [6] (iRng fRng1 (sCons (sCall gLen (sCons (sNm 10) sNil)) sNil)) (tNm 6) (sCmpT dne (sOp subscD (sNm 10) (sNm 6)) (sOp subscD (sNm 4) (sNm 6))) (sNm 6)))
    (sSeq (sIfS (sCmpT dne (callM [false] (Fn__law_plain 8) (sCons (callM [false, false] Fn_first_difference (sCons (sNm 9) (sCons (sNm 2) sNil))) sNil)) (callM [false] (Fn__law_plain 8) (sCons (sIf (sCmpT gtD (sCall gLen (sCons (sNm 11) sNil)) (sV (.int 0))) (sOp subscD (sNm 11) (sV (.int 0))) (sV .non)) sNil))) (sRet (sV (.bl false))) sNext)
    (sSeq (sIfS (sCmpT dne (callM [false, false] Fn_judge_seal (sCons (sNm 9) (sCons (sNm 4) sNil))) (sOp (toB deq) (sNm 10) (sNm 4))) (sRet (sV (.bl false))) sNext)
    (sSeq (sAsg 12 (sCall gList (sCons (sNm 4) sNil)))
    (sSeq (sPut 12 (sOp addD (sOp subscD (sNm 12) (sNm 7)) (sV (.int 1))) (sNm 7))
    (sIfS (sCmpT (isD true) (callM [false, false] Fn_judge_seal (sCons (sNm 2) (sCons (sNm 12) sNil))) (sV (.bl false))) (sRet (sV (.bl false))) sNext)))))))))) sNext)
theorem LAW (ns : List Int) (hn : ns.length ≤ 63) : ∃ io, Fn_law [.scr ns] = .ret (.bl true) false io := by
  obtain ⟨ds1, h1⟩ := lA1 ns
  obtain ⟨ds2, l, b, h2⟩ := lA2 ns ds1
  have h3 := lA3 ns ds2 l
  have h4 := lB ns ds2 b
  have h5 := lC ns ds2 b
  obtain ⟨f, h6⟩ := lD ns ds2 b
  obtain ⟨c, ds3, hc, h7⟩ := lE ns ds2 l (fzA f (intsD (seI l)))
  have h8 := lF ns ds3 b f hc
  have h9 := lG ns ds3 b (fzA f (intsD (seI l))) hc
  have h10 := lH ns ds3 b (fzA f (intsD (seI l))) hc
  have : ∃ ds4 x7 x8 x9 x10 x11 x12, qI (LS ns ds3 l (fzA f (intsD (seI l))) (.shr (.int (c : Nat))) (.shr (if c < (sortE l).length then .int (c : Nat) else .non)) .un .un .un .un .un .un)
      = .ok .nx (LS ns ds4 l (fzA f (intsD (seI l))) (.shr (.int (c : Nat))) (.shr (if c < (sortE l).length then .int (c : Nat) else .non)) x7 x8 x9 x10 x11 x12) := by
    generalize hP : (if c < (sortE l).length then D.int (c : Nat) else .non) = P
    by_cases hl : 0 < (sortE l).length
    · obtain ⟨k, e, ds4, hk, i1⟩ := lI ns ds3 l (fzA f (intsD (seI l))) (.shr (.int (c : Nat))) (.shr P) hl
      have i2 := lJ ns ds4 l (fzA f (intsD (seI l))) (.shr (.int (c : Nat))) (.shr P) hk
      have i3 := lK ns ds4 b (fzA f (intsD (seI l))) (.shr (.int (c : Nat))) (.shr P) hk
      have bm := other_bk b.sort hk
      have sm := other_sort b hk
      have lm := otherL_len hk
      have le : (sealsI (otherL (sortE l) k e)).length = (seI l).length := by rw [seI_len, sealsI_len, lm]
      have i4 := lL ns ds4 (l := l) bm (fzA f (intsD (seI l))) (.shr (.int (c : Nat))) (.shr P) (.shr (.int (k : Nat))) (.shr e.d)
      have i5 := lM ns ds4 (l := l) le (by rw [le]; exact due_len b) f (.shr (.int (c : Nat))) (.shr P) (.shr (.int (k : Nat))) (.shr e.d) (.own none (evsD (otherL (sortE l) k e))) rfl
      have i6 := lN ns ds4 b bm sm (by rw [lm, sortE_len]) (fzA f (intsD (seI l))) (.shr (.int (c : Nat))) (.shr P) (.shr (.int (k : Nat))) (.shr e.d) (.own none (intsD (sealsI (otherL (sortE l) k e))))
      have i7 := lO ns ds4 (l := l) bm sm f (.shr (.int (c : Nat))) (.shr P) (.shr (.int (k : Nat))) (.shr e.d) (.own none (apD (sealsI (otherL (sortE l) k e)) (seI l)))
      have i8 := lP ns ds4 (l := l) f (seI l) (.shr (.int (c : Nat))) (.shr P) (.shr (.int (k : Nat))) (.shr e.d) (.own none (evsD (otherL (sortE l) k e))) (.own none (intsD (sealsI (otherL (sortE l) k e)))) (.own none (apD (sealsI (otherL (sortE l) k e)) (seI l)))
      have hk' : k < (seI l).length := by
        obtain ⟨q, _⟩ := List.getElem?_eq_some_iff.mp hk
        rw [seI_len]; exact q
      have i9 := lQ ns ds4 (l := l) (seI l) hk' (fzA f (intsD (seI l))) (.shr (.int (c : Nat))) (.shr P) (.shr e.d) (.own none (evsD (otherL (sortE l) k e))) (.own none (intsD (sealsI (otherL (sortE l) k e)))) (.own none (apD (sealsI (otherL (sortE l) k e)) (seI l)))
      have i10 := lR ns ds4 b _ (set_ne hk') (fzA f (intsD (seI l))) (.shr (.int (c : Nat))) (.shr P) (.shr (.int (k : Nat))) (.shr e.d) (.own none (evsD (otherL (sortE l) k e))) (.own none (intsD (sealsI (otherL (sortE l) k e)))) (.own none (apD (sealsI (otherL (sortE l) k e)) (seI l)))
      refine ⟨ds4, .shr (.int (k : Nat)), .shr e.d, .own none (evsD (otherL (sortE l) k e)), .own none (intsD (sealsI (otherL (sortE l) k e))), .own none (apD (sealsI (otherL (sortE l) k e)) (seI l)), .own none (intsD ((seI l).set k ((seI l)[k] + 1))), ?_⟩
      have t : sCmpT gtD (sCall gLen (sCons (sNm 3) sNil)) (sV (.int 0)) (LS ns ds3 l (fzA f (intsD (seI l))) (.shr (.int (c : Nat))) (.shr P) .un .un .un .un .un .un) = .ok true (LS ns ds3 l (fzA f (intsD (seI l))) (.shr (.int (c : Nat))) (.shr P) .un .un .un .un .un .un) := by
        simp [LS, hl]
      unfold qI sIfS
      rw [t]
      exact ok_sSeq i1 (ok_sSeq i2 (ok_sSeq i3 (ok_sSeq i4 (ok_sSeq i5 (ok_sSeq i6 (ok_sSeq i7 (ok_sSeq i8 (ok_sSeq i9 i10))))))))
    · refine ⟨ds3, .un, .un, .un, .un, .un, .un, ?_⟩
      have t : sCmpT gtD (sCall gLen (sCons (sNm 3) sNil)) (sV (.int 0)) (LS ns ds3 l (fzA f (intsD (seI l))) (.shr (.int (c : Nat))) (.shr P) .un .un .un .un .un .un) = .ok false (LS ns ds3 l (fzA f (intsD (seI l))) (.shr (.int (c : Nat))) (.shr P) .un .un .un .un .un .un) := by
        have e0 : sortE l = [] := by simpa using hl
        simp [LS, e0]
      unfold qI sIfS
      rw [t]
      rfl
  obtain ⟨ds4, x7, x8, x9, x10, x11, x12, h11⟩ := this
  obtain ⟨ds5, h12⟩ := lS ns ds4 (l := l) (fzA f (intsD (seI l))) (.shr (.int (c : Nat))) (.shr (if c < (sortE l).length then .int (c : Nat) else .non)) x7 x8 x9 x10 x11 x12
  exact ⟨[], ok_runF (f := sem_law) (ok_sSeq h1 (ok_sSeq h2 (ok_sSeq h3 (ok_sSeq h4 (ok_sSeq h5 (ok_sSeq h6 (ok_sSeq h7 (ok_sSeq h8 (ok_sSeq h9 (ok_sSeq h10 (ok_sSeq h11 h12))))))))))) rfl⟩
end Lk84
namespace Lk84
open PySem PySem.Spec PyProof.Rows L2 L2.Dl LamX NdefX
/-! ### the head -/
abbrev sti_InvalidEvent : Stmt := (clsBody (top 2)).getD 0 (.Pass ⟨0, 0, 0, 0⟩)
def di_InvalidEvent : He.DefD := ⟨("InvalidEvent", some "__init__"), "__init__", "InvalidEvent.__init__", defArgs sti_InvalidEvent, defBody sti_InvalidEvent, defScope sti_InvalidEvent, [], []⟩
theorem sci_InvalidEvent : FnScope ["self", "what"] ["self", "what"] (defScope sti_InvalidEvent) := ⟨rfl, rfl, rfl, by decide +kernel, rfl, by decide +kernel, by decide +kernel⟩
abbrev sti_TooMany : Stmt := (clsBody (top 3)).getD 0 (.Pass ⟨0, 0, 0, 0⟩)
def di_TooMany : He.DefD := ⟨("TooMany", some "__init__"), "__init__", "TooMany.__init__", defArgs sti_TooMany, defBody sti_TooMany, defScope sti_TooMany, [], []⟩
theorem sci_TooMany : FnScope ["self", "what"] ["self", "what"] (defScope sti_TooMany) := ⟨rfl, rfl, rfl, by decide +kernel, rfl, by decide +kernel, by decide +kernel⟩
def d_is_name : He.DefD := ⟨("is_name", none), "is_name", "is_name", defArgs st_is_name, defBody st_is_name, defScope st_is_name, [], []⟩
def d_is_part : He.DefD := ⟨("is_part", none), "is_part", "is_part", defArgs st_is_part, defBody st_is_part, defScope st_is_part, [], []⟩
def d_is_event : He.DefD := ⟨("is_event", none), "is_event", "is_event", defArgs st_is_event, defBody st_is_event, defScope st_is_event, [], []⟩
def d_text_of : He.DefD := ⟨("text_of", none), "text_of", "text_of", defArgs st_text_of, defBody st_text_of, defScope st_text_of, [], []⟩
def d_line_of : He.DefD := ⟨("line_of", none), "line_of", "line_of", defArgs st_line_of, defBody st_line_of, defScope st_line_of, [], []⟩
def d_in_order : He.DefD := ⟨("in_order", none), "in_order", "in_order", defArgs st_in_order, defBody st_in_order, defScope st_in_order, [], []⟩
def d_value_of : He.DefD := ⟨("value_of", none), "value_of", "value_of", defArgs st_value_of, defBody st_value_of, defScope st_value_of, [], []⟩
def d_seal : He.DefD := ⟨("seal", none), "seal", "seal", defArgs st_seal, defBody st_seal, defScope st_seal, [], []⟩
def d_judge_seal : He.DefD := ⟨("judge_seal", none), "judge_seal", "judge_seal", defArgs st_judge_seal, defBody st_judge_seal, defScope st_judge_seal, [], []⟩
def d_first_difference : He.DefD := ⟨("first_difference", none), "first_difference", "first_difference", defArgs st_first_difference, defBody st_first_difference, defScope st_first_difference, [], []⟩
def d__law_deck : He.DefD := ⟨("_law_deck", none), "_law_deck", "_law_deck", defArgs st__law_deck, defBody st__law_deck, defScope st__law_deck, [], []⟩
def d__law_take : He.DefD := ⟨("_law_take", none), "_law_take", "_law_take", defArgs st__law_take, defBody st__law_take, defScope st__law_take, [], []⟩
def d__law_plain : He.DefD := ⟨("_law_plain", none), "_law_plain", "_law_plain", defArgs st__law_plain, defBody st__law_plain, defScope st__law_plain, [], []⟩
def d__law_event : He.DefD := ⟨("_law_event", none), "_law_event", "_law_event", defArgs st__law_event, defBody st__law_event, defScope st__law_event, [], []⟩
def d__law_book : He.DefD := ⟨("_law_book", none), "_law_book", "_law_book", defArgs st__law_book, defBody st__law_book, defScope st__law_book, [], []⟩
def d__law_key : He.DefD := ⟨("_law_key", none), "_law_key", "_law_key", defArgs st__law_key, defBody st__law_key, defScope st__law_key, [], []⟩
def d__law_digits : He.DefD := ⟨("_law_digits", none), "_law_digits", "_law_digits", defArgs st__law_digits, defBody st__law_digits, defScope st__law_digits, [], []⟩
def d__law_line : He.DefD := ⟨("_law_line", none), "_law_line", "_law_line", defArgs st__law_line, defBody st__law_line, defScope st__law_line, [], []⟩
def d__law_codes : He.DefD := ⟨("_law_codes", none), "_law_codes", "_law_codes", defArgs st__law_codes, defBody st__law_codes, defScope st__law_codes, [], []⟩
def d__law_seal : He.DefD := ⟨("_law_seal", none), "_law_seal", "_law_seal", defArgs st__law_seal, defBody st__law_seal, defScope st__law_seal, [], []⟩
def d__law_refused : He.DefD := ⟨("_law_refused", none), "_law_refused", "_law_refused", defArgs st__law_refused, defBody st__law_refused, defScope st__law_refused, [], []⟩
def d_law : He.DefD := ⟨("law", none), "law", "law", defArgs st_law, defBody st_law, defScope st_law, [], []⟩
def fn : List He.DefD := [d_is_name, d_is_part, d_is_event, d_text_of, d_line_of, d_in_order, d_value_of, d_seal, d_judge_seal, d_first_difference, d__law_deck, d__law_take, d__law_plain, d__law_event, d__law_book, d__law_key, d__law_digits, d__law_line, d__law_codes, d__law_seal, d__law_refused, d_law, di_InvalidEvent, di_TooMany]
def fa : List He.Fa := ([.glo "is_name", .glo "is_part", .glo "is_event", .glo "text_of", .glo "line_of", .glo "in_order", .glo "value_of", .glo "seal", .glo "judge_seal", .glo "first_difference", .glo "_law_deck", .glo "_law_take", .glo "_law_plain", .glo "_law_event", .glo "_law_book", .glo "_law_key", .glo "_law_digits", .glo "_law_line", .glo "_law_codes", .glo "_law_seal", .glo "_law_refused", .glo "law", .free "abs", .free "all", .free "bool", .free "int", .free "isinstance", .free "len", .free "list", .free "min"] : List He.Fa) ++ ([.free "ord", .free "range", .free "reversed", .free "sorted", .free "str", .free "tuple", .free "zip", .glo "SlotError", .glo "InvalidEvent", .glo "TooMany", .glo "KINDS", .int "FACTOR" (1000003), .int "MODULUS" (2305843009213693951), .int "MOST_EVENTS" (2000), .int "MOST_SIGNS" (40), .str "SIGNS" "abcdefghijklmnopqrstuvwxyz0123456789-", .int "SIGN_FACTOR" (257)] : List He.Fa)
def tfq : List (He.Defn × Str) := [(("in_order", none), ("in_order" : Str) ++ ".<locals>." ++ "<lambda>")]
def tf : List He.Defn := [("in_order", none)]
def cls : List Str := ["InvalidEvent", "TooMany"]
def tv : List (Str × List (Str × Str)) := [("KINDS", kv_KINDS)]
def names : List Str := (["SlotError", "InvalidEvent", "TooMany", "MOST_SIGNS", "SIGNS", "is_name", "MOST_EVENTS", "KINDS", "is_part", "is_event", "in_order", "MODULUS", "FACTOR", "SIGN_FACTOR", "text_of", "line_of", "value_of", "seal", "judge_seal", "first_difference", "_law_deck", "_law_take", "_law_plain", "_law_event", "_law_book", "_law_key", "_law_digits", "_law_line", "_law_codes", "_law_seal"] : List Str) ++ (["_law_refused"] : List Str)
abbrev R : PySem.W.OpenRow := PySem.W.OpenLaw.row PySem.Challenge.rw_slotwork_k84_whole_seals
abbrev hk : PySem.W.Hook := L2.Dl.hookZ 6 fa fn (tabsOf tv) tf (exV (exE tf "SlotError" cls) tv)
def ob (s : PySem.W.SharedT) : He.AlX := L2.Dl.obsZ 6 fa fn (tabsOf tv) tf (exV (exE tf "SlotError" cls) tv) (HandSHeadRun.getT s)
theorem ob_eq (s : PySem.W.SharedT) : ob s = hk.obs s.abs := L2.Dl.obsZ_eq (HandSHeadRun.getT_eq s)
theorem run (w : World) : HandSHeadRun.RunEq R (PySem.W.view R.prog [36]) hk ob 8000 names w := by
  refine by_row "special-get-raises" (fun w b => ?_) w
  intro os
  cases b <;> kernel_rfl
theorem law_at {w : World} {K : PySem.W.Frag} {h : Heap} {mg : Str → Option Value} {f : Addr} (X : K.In h) (G : h.Ns mainGlobals mg) (hfa : mg ("law" : Str) = some (.ref f)) (c : He.SaysX fa fn (tabsOf tv) tf (exV (exE tf "SlotError" cls) tv) w h K)
    (LAW : ∀ ns : List Int, ns.length ≤ 63 → ∃ io, Fn_law [.scr ns] = .ret (.bl true) false io) : LamX.LawAtS PySem.Challenge.rw_slotwork_k84_whole_seals w K (L2.CX PySem.Challenge.rw_slotwork_k84_whole_seals.prog w) 11 63 "script" mg f h := by
  have c1 : He.SaysD fa fn K := c.t.d
  obtain ⟨fd_is_name, F_is_name⟩ := c1.def_ 0 (d := d_is_name) rfl
  obtain ⟨fd_is_part, F_is_part⟩ := c1.def_ 1 (d := d_is_part) rfl
  obtain ⟨fd_is_event, F_is_event⟩ := c1.def_ 2 (d := d_is_event) rfl
  obtain ⟨fd_text_of, F_text_of⟩ := c1.def_ 3 (d := d_text_of) rfl
  obtain ⟨fd_line_of, F_line_of⟩ := c1.def_ 4 (d := d_line_of) rfl
  obtain ⟨fd_in_order, F_in_order⟩ := c1.def_ 5 (d := d_in_order) rfl
  obtain ⟨fd_value_of, F_value_of⟩ := c1.def_ 6 (d := d_value_of) rfl
  obtain ⟨fd_seal, F_seal⟩ := c1.def_ 7 (d := d_seal) rfl
  obtain ⟨fd_judge_seal, F_judge_seal⟩ := c1.def_ 8 (d := d_judge_seal) rfl
  obtain ⟨fd_first_difference, F_first_difference⟩ := c1.def_ 9 (d := d_first_difference) rfl
  obtain ⟨fd__law_deck, F__law_deck⟩ := c1.def_ 10 (d := d__law_deck) rfl
  obtain ⟨fd__law_take, F__law_take⟩ := c1.def_ 11 (d := d__law_take) rfl
  obtain ⟨fd__law_plain, F__law_plain⟩ := c1.def_ 12 (d := d__law_plain) rfl
  obtain ⟨fd__law_event, F__law_event⟩ := c1.def_ 13 (d := d__law_event) rfl
  obtain ⟨fd__law_book, F__law_book⟩ := c1.def_ 14 (d := d__law_book) rfl
  obtain ⟨fd__law_key, F__law_key⟩ := c1.def_ 15 (d := d__law_key) rfl
  obtain ⟨fd__law_digits, F__law_digits⟩ := c1.def_ 16 (d := d__law_digits) rfl
  obtain ⟨fd__law_line, F__law_line⟩ := c1.def_ 17 (d := d__law_line) rfl
  obtain ⟨fd__law_codes, F__law_codes⟩ := c1.def_ 18 (d := d__law_codes) rfl
  obtain ⟨fd__law_seal, F__law_seal⟩ := c1.def_ 19 (d := d__law_seal) rfl
  obtain ⟨fd__law_refused, F__law_refused⟩ := c1.def_ 20 (d := d__law_refused) rfl
  obtain ⟨fd_law, F_law⟩ := c1.def_ 21 (d := d_law) rfl
  have g_is_name : mg "is_name" = some (.ref (He.ga K "is_name")) := He.glo_ok X G (c1.fact 0 (f := .glo "is_name") rfl)
  have g_is_part : mg "is_part" = some (.ref (He.ga K "is_part")) := He.glo_ok X G (c1.fact 1 (f := .glo "is_part") rfl)
  have g_is_event : mg "is_event" = some (.ref (He.ga K "is_event")) := He.glo_ok X G (c1.fact 2 (f := .glo "is_event") rfl)
  have g_text_of : mg "text_of" = some (.ref (He.ga K "text_of")) := He.glo_ok X G (c1.fact 3 (f := .glo "text_of") rfl)
  have g_line_of : mg "line_of" = some (.ref (He.ga K "line_of")) := He.glo_ok X G (c1.fact 4 (f := .glo "line_of") rfl)
  have g_in_order : mg "in_order" = some (.ref (He.ga K "in_order")) := He.glo_ok X G (c1.fact 5 (f := .glo "in_order") rfl)
  have g_value_of : mg "value_of" = some (.ref (He.ga K "value_of")) := He.glo_ok X G (c1.fact 6 (f := .glo "value_of") rfl)
  have g_seal : mg "seal" = some (.ref (He.ga K "seal")) := He.glo_ok X G (c1.fact 7 (f := .glo "seal") rfl)
  have g_judge_seal : mg "judge_seal" = some (.ref (He.ga K "judge_seal")) := He.glo_ok X G (c1.fact 8 (f := .glo "judge_seal") rfl)
  have g_first_difference : mg "first_difference" = some (.ref (He.ga K "first_difference")) := He.glo_ok X G (c1.fact 9 (f := .glo "first_difference") rfl)
  have g__law_deck : mg "_law_deck" = some (.ref (He.ga K "_law_deck")) := He.glo_ok X G (c1.fact 10 (f := .glo "_law_deck") rfl)
  have g__law_take : mg "_law_take" = some (.ref (He.ga K "_law_take")) := He.glo_ok X G (c1.fact 11 (f := .glo "_law_take") rfl)
  have g__law_plain : mg "_law_plain" = some (.ref (He.ga K "_law_plain")) := He.glo_ok X G (c1.fact 12 (f := .glo "_law_plain") rfl)
  have g__law_event : mg "_law_event" = some (.ref (He.ga K "_law_event")) := He.glo_ok X G (c1.fact 13 (f := .glo "_law_event") rfl)
  have g__law_book : mg "_law_book" = some (.ref (He.ga K "_law_book")) := He.glo_ok X G (c1.fact 14 (f := .glo "_law_book") rfl)
  have g__law_key : mg "_law_key" = some (.ref (He.ga K "_law_key")) := He.glo_ok X G (c1.fact 15 (f := .glo "_law_key") rfl)
  have g__law_digits : mg "_law_digits" = some (.ref (He.ga K "_law_digits")) := He.glo_ok X G (c1.fact 16 (f := .glo "_law_digits") rfl)
  have g__law_line : mg "_law_line" = some (.ref (He.ga K "_law_line")) := He.glo_ok X G (c1.fact 17 (f := .glo "_law_line") rfl)
  have g__law_codes : mg "_law_codes" = some (.ref (He.ga K "_law_codes")) := He.glo_ok X G (c1.fact 18 (f := .glo "_law_codes") rfl)
  have g__law_seal : mg "_law_seal" = some (.ref (He.ga K "_law_seal")) := He.glo_ok X G (c1.fact 19 (f := .glo "_law_seal") rfl)
  have g__law_refused : mg "_law_refused" = some (.ref (He.ga K "_law_refused")) := He.glo_ok X G (c1.fact 20 (f := .glo "_law_refused") rfl)
  have g_law : mg "law" = some (.ref (He.ga K "law")) := He.glo_ok X G (c1.fact 21 (f := .glo "law") rfl)
  obtain ⟨fi_InvalidEvent, FI_InvalidEvent⟩ := c1.def_ 22 (d := di_InvalidEvent) rfl
  obtain ⟨fi_TooMany, FI_TooMany⟩ := c1.def_ 23 (d := di_TooMany) rfl
  have g_SlotError : mg "SlotError" = some (.ref (He.ga K "SlotError")) := He.glo_ok X G (c1.fact 37 (f := .glo "SlotError") rfl)
  have g_InvalidEvent : mg "InvalidEvent" = some (.ref (He.ga K "InvalidEvent")) := He.glo_ok X G (c1.fact 38 (f := .glo "InvalidEvent") rfl)
  have g_TooMany : mg "TooMany" = some (.ref (He.ga K "TooMany")) := He.glo_ok X G (c1.fact 39 (f := .glo "TooMany") rfl)
  have g_KINDS : mg "KINDS" = some (.ref (He.ga K "KINDS")) := He.glo_ok X G (c1.fact 40 (f := .glo "KINDS") rfl)
  have t_KINDS : TbS K w mg "KINDS" kv_KINDS := tbS_of c.t c.more 0 rfl g_KINDS
  have T : TopF mg := ⟨He.free_ok X G (c1.fact 22 (f := .free "abs") rfl),
    He.free_ok X G (c1.fact 23 (f := .free "all") rfl),
    He.free_ok X G (c1.fact 24 (f := .free "bool") rfl),
    He.free_ok X G (c1.fact 25 (f := .free "int") rfl),
    He.free_ok X G (c1.fact 26 (f := .free "isinstance") rfl),
    He.free_ok X G (c1.fact 27 (f := .free "len") rfl),
    He.free_ok X G (c1.fact 28 (f := .free "list") rfl),
    He.free_ok X G (c1.fact 29 (f := .free "min") rfl),
    He.free_ok X G (c1.fact 30 (f := .free "ord") rfl),
    He.free_ok X G (c1.fact 31 (f := .free "range") rfl),
    He.free_ok X G (c1.fact 32 (f := .free "reversed") rfl),
    He.free_ok X G (c1.fact 33 (f := .free "sorted") rfl),
    He.free_ok X G (c1.fact 34 (f := .free "str") rfl),
    He.free_ok X G (c1.fact 35 (f := .free "tuple") rfl),
    He.free_ok X G (c1.fact 36 (f := .free "zip") rfl),
    He.int_ok X G (c1.fact 41 (f := .int "FACTOR" (1000003)) rfl),
    He.int_ok X G (c1.fact 42 (f := .int "MODULUS" (2305843009213693951)) rfl),
    He.int_ok X G (c1.fact 43 (f := .int "MOST_EVENTS" (2000)) rfl),
    He.int_ok X G (c1.fact 44 (f := .int "MOST_SIGNS" (40)) rfl),
    He.str_ok X G (c1.fact 45 (f := .str "SIGNS" "abcdefghijklmnopqrstuvwxyz0123456789-") rfl),
    He.int_ok X G (c1.fact 46 (f := .int "SIGN_FACTOR" (257)) rfl)⟩
  have EF : ExF K tf "SlotError" cls := exE_ok (exV_1 c.more)
  have e := hfa.symm.trans g_law
  cases e
  have b := FunD.bindsA (ps := ["script"]) F_law fun _ _ _ _ _ _ us hl => match us, hl with | [_], _ => rfl
  refine law_atD (tf := tf) (br := brOf K cls tfq) (Fn := Fn_law) X (fun s v => b s [v] rfl) c.hd c.out c.empty (by rfl) EF.tabs LAW fun base _ _ TB => ?_
  have e_InvalidEvent : ErrC PySem.Challenge.rw_slotwork_k84_whole_seals.prog w K mg base (brOf K cls tfq) 0 "InvalidEvent" "invalid event: " := errC_of EF (by rfl) (by decide +kernel) g_InvalidEvent (init_of FI_InvalidEvent sci_InvalidEvent fun cdv A outer s H E => pss_cons (ps_expr (pe_baseinit EF.base g_SlotError (pa_cons (pv 0) (pa_cons (pe_op op_add_str pe_str (pv 1)) pa_nil)))) (pss_one (ps_ost (pv 0) (pv 1)))) (FI_InvalidEvent.bindsN fun _ _ _ _ _ _ us hl => match us, hl with | [_, _], _ => rfl)
  have hd_InvalidEvent : HdC K mg (brOf K cls tfq) 0 "InvalidEvent" := hdC_of EF (by rfl) (by decide +kernel) g_InvalidEvent
  have e_TooMany : ErrC PySem.Challenge.rw_slotwork_k84_whole_seals.prog w K mg base (brOf K cls tfq) 1 "TooMany" "too many " := errC_of EF (by rfl) (by decide +kernel) g_TooMany (init_of FI_TooMany sci_TooMany fun cdv A outer s H E => pss_cons (ps_expr (pe_baseinit EF.base g_SlotError (pa_cons (pv 0) (pa_cons (pe_op op_add_str pe_str (pv 1)) pa_nil)))) (pss_one (ps_ost (pv 0) (pv 1)))) (FI_TooMany.bindsN fun _ _ _ _ _ _ us hl => match us, hl with | [_, _], _ => rfl)
  have hd_TooMany : HdC K mg (brOf K cls tfq) 1 "TooMany" := hdC_of EF (by rfl) (by decide +kernel) g_TooMany
  have xm : XM K (brOf K cls tfq) cls.length := xm_of EF
  have h_is_name : Cl PySem.Challenge.rw_slotwork_k84_whole_seals.prog w K mg base (brOf K cls tfq) "is_name" ["text"] [false] 1 Fn_is_name := ⟨_, fd_is_name, ok_is_name (br := brOf K cls tfq) F_is_name T, g_is_name, F_is_name.kp, F_is_name.bindsN fun _ _ _ _ _ _ us hl => match us, hl with | [_], _ => rfl⟩
  have h_is_part : Cl PySem.Challenge.rw_slotwork_k84_whole_seals.prog w K mg base (brOf K cls tfq) "is_part" ["kind", "value"] [false, false] 2 Fn_is_part := ⟨_, fd_is_part, ok_is_part (br := brOf K cls tfq) F_is_part T h_is_name, g_is_part, F_is_part.kp, F_is_part.bindsN fun _ _ _ _ _ _ us hl => match us, hl with | [_, _], _ => rfl⟩
  have h_is_event : Cl PySem.Challenge.rw_slotwork_k84_whole_seals.prog w K mg base (brOf K cls tfq) "is_event" ["event"] [false] 3 Fn_is_event := ⟨_, fd_is_event, ok_is_event (br := brOf K cls tfq) F_is_event T h_is_part t_KINDS, g_is_event, F_is_event.kp, F_is_event.bindsN fun _ _ _ _ _ _ us hl => match us, hl with | [_], _ => rfl⟩
  have h_text_of : Cl PySem.Challenge.rw_slotwork_k84_whole_seals.prog w K mg base (brOf K cls tfq) "text_of" ["event"] [false] 1 Fn_text_of := ⟨_, fd_text_of, ok_text_of (br := brOf K cls tfq) F_text_of T, g_text_of, F_text_of.kp, F_text_of.bindsN fun _ _ _ _ _ _ us hl => match us, hl with | [_], _ => rfl⟩
  have h_line_of : Cl PySem.Challenge.rw_slotwork_k84_whole_seals.prog w K mg base (brOf K cls tfq) "line_of" ["event"] [false] 4 Fn_line_of := ⟨_, fd_line_of, ok_line_of (br := brOf K cls tfq) F_line_of T h_is_event h_text_of e_InvalidEvent, g_line_of, F_line_of.kp, F_line_of.bindsN fun _ _ _ _ _ _ us hl => match us, hl with | [_], _ => rfl⟩
  have h_in_order : Cl PySem.Challenge.rw_slotwork_k84_whole_seals.prog w K mg base (brOf K cls tfq) "in_order" ["book"] [false] 4 Fn_in_order := ⟨_, fd_in_order, ok_in_order (br := brOf K cls tfq) F_in_order T h_is_event e_InvalidEvent e_TooMany (TB ("in_order", none) (.head _)) (code_of F_in_order) (List.mem_map.mpr ⟨(("in_order", none), ("in_order" : Str) ++ ".<locals>." ++ "<lambda>"), (.head _), rfl⟩), g_in_order, F_in_order.kp, F_in_order.bindsN fun _ _ _ _ _ _ us hl => match us, hl with | [_], _ => rfl⟩
  have h_value_of : Cl PySem.Challenge.rw_slotwork_k84_whole_seals.prog w K mg base (brOf K cls tfq) "value_of" ["event"] [false] 2 Fn_value_of := ⟨_, fd_value_of, ok_value_of (br := brOf K cls tfq) F_value_of T h_text_of, g_value_of, F_value_of.kp, F_value_of.bindsN fun _ _ _ _ _ _ us hl => match us, hl with | [_], _ => rfl⟩
  have h_seal : Cl PySem.Challenge.rw_slotwork_k84_whole_seals.prog w K mg base (brOf K cls tfq) "seal" ["book"] [false] 5 Fn_seal := ⟨_, fd_seal, ok_seal (br := brOf K cls tfq) F_seal T h_in_order h_value_of, g_seal, F_seal.kp, F_seal.bindsN fun _ _ _ _ _ _ us hl => match us, hl with | [_], _ => rfl⟩
  have h_judge_seal : Cl PySem.Challenge.rw_slotwork_k84_whole_seals.prog w K mg base (brOf K cls tfq) "judge_seal" ["book", "numbers"] [false, false] 6 Fn_judge_seal := ⟨_, fd_judge_seal, ok_judge_seal (br := brOf K cls tfq) F_judge_seal T h_seal, g_judge_seal, F_judge_seal.kp, F_judge_seal.bindsN fun _ _ _ _ _ _ us hl => match us, hl with | [_, _], _ => rfl⟩
  have h_first_difference : Cl PySem.Challenge.rw_slotwork_k84_whole_seals.prog w K mg base (brOf K cls tfq) "first_difference" ["first", "second"] [false, false] 6 Fn_first_difference := ⟨_, fd_first_difference, ok_first_difference (br := brOf K cls tfq) F_first_difference T h_seal, g_first_difference, F_first_difference.kp, F_first_difference.bindsN fun _ _ _ _ _ _ us hl => match us, hl with | [_, _], _ => rfl⟩
  have h__law_deck : Cl PySem.Challenge.rw_slotwork_k84_whole_seals.prog w K mg base (brOf K cls tfq) "_law_deck" ["script", "cells", "each"] [false, false, false] 1 Fn__law_deck := ⟨_, fd__law_deck, ok__law_deck (br := brOf K cls tfq) F__law_deck T, g__law_deck, F__law_deck.kp, F__law_deck.bindsN fun _ _ _ _ _ _ us hl => match us, hl with | [_, _, _], _ => rfl⟩
  have h__law_take : Cl PySem.Challenge.rw_slotwork_k84_whole_seals.prog w K mg base (brOf K cls tfq) "_law_take" ["deck", "many"] [true, false] 1 Fn__law_take := ⟨_, fd__law_take, ok__law_take (br := brOf K cls tfq) F__law_take T, g__law_take, F__law_take.kp, F__law_take.bindsN fun _ _ _ _ _ _ us hl => match us, hl with | [_, _], _ => rfl⟩
  have hr__law_plain : ∀ n, Cl PySem.Challenge.rw_slotwork_k84_whole_seals.prog w K mg base (brOf K cls tfq) "_law_plain" ["value"] [false] (n + 0) (Fn__law_plain n) := by
    intro n
    induction n with
    | zero => exact ⟨_, fd__law_plain, fn_zero, g__law_plain, F__law_plain.kp, F__law_plain.bindsN fun _ _ _ _ _ _ us hl => match us, hl with | [_], _ => rfl⟩
    | succ n ih => exact ⟨_, fd__law_plain, (ok__law_plain (br := brOf K cls tfq) F__law_plain T ih).mono (by omega), g__law_plain, F__law_plain.kp, F__law_plain.bindsN fun _ _ _ _ _ _ us hl => match us, hl with | [_], _ => rfl⟩
  have h__law_plain : Cl PySem.Challenge.rw_slotwork_k84_whole_seals.prog w K mg base (brOf K cls tfq) "_law_plain" ["value"] [false] 8 (Fn__law_plain 8) := hr__law_plain 8
  have h__law_event : Cl PySem.Challenge.rw_slotwork_k84_whole_seals.prog w K mg base (brOf K cls tfq) "_law_event" ["deck", "at"] [true, false] 2 Fn__law_event := ⟨_, fd__law_event, ok__law_event (br := brOf K cls tfq) F__law_event T h__law_take, g__law_event, F__law_event.kp, F__law_event.bindsN fun _ _ _ _ _ _ us hl => match us, hl with | [_, _], _ => rfl⟩
  have h__law_book : Cl PySem.Challenge.rw_slotwork_k84_whole_seals.prog w K mg base (brOf K cls tfq) "_law_book" ["deck", "most"] [true, false] 3 Fn__law_book := ⟨_, fd__law_book, ok__law_book (br := brOf K cls tfq) F__law_book T h__law_take h__law_event, g__law_book, F__law_book.kp, F__law_book.bindsN fun _ _ _ _ _ _ us hl => match us, hl with | [_, _], _ => rfl⟩
  have h__law_key : Cl PySem.Challenge.rw_slotwork_k84_whole_seals.prog w K mg base (brOf K cls tfq) "_law_key" ["event"] [false] 1 Fn__law_key := ⟨_, fd__law_key, ok__law_key (br := brOf K cls tfq) F__law_key T, g__law_key, F__law_key.kp, F__law_key.bindsN fun _ _ _ _ _ _ us hl => match us, hl with | [_], _ => rfl⟩
  have hr__law_digits : ∀ n, Cl PySem.Challenge.rw_slotwork_k84_whole_seals.prog w K mg base (brOf K cls tfq) "_law_digits" ["number"] [false] (n + 0) (Fn__law_digits n) := by
    intro n
    induction n with
    | zero => exact ⟨_, fd__law_digits, fn_zero, g__law_digits, F__law_digits.kp, F__law_digits.bindsN fun _ _ _ _ _ _ us hl => match us, hl with | [_], _ => rfl⟩
    | succ n ih => exact ⟨_, fd__law_digits, (ok__law_digits (br := brOf K cls tfq) F__law_digits T ih).mono (by omega), g__law_digits, F__law_digits.kp, F__law_digits.bindsN fun _ _ _ _ _ _ us hl => match us, hl with | [_], _ => rfl⟩
  have h__law_digits : Cl PySem.Challenge.rw_slotwork_k84_whole_seals.prog w K mg base (brOf K cls tfq) "_law_digits" ["number"] [false] 8 (Fn__law_digits 8) := hr__law_digits 8
  have h__law_line : Cl PySem.Challenge.rw_slotwork_k84_whole_seals.prog w K mg base (brOf K cls tfq) "_law_line" ["event"] [false] 9 Fn__law_line := ⟨_, fd__law_line, ok__law_line (br := brOf K cls tfq) F__law_line T h__law_digits, g__law_line, F__law_line.kp, F__law_line.bindsN fun _ _ _ _ _ _ us hl => match us, hl with | [_], _ => rfl⟩
  have h__law_codes : Cl PySem.Challenge.rw_slotwork_k84_whole_seals.prog w K mg base (brOf K cls tfq) "_law_codes" [] [] 1 Fn__law_codes := ⟨_, fd__law_codes, ok__law_codes (br := brOf K cls tfq) F__law_codes T, g__law_codes, F__law_codes.kp, F__law_codes.bindsN fun _ _ _ _ _ _ us hl => match us, hl with | [], _ => rfl⟩
  have h__law_seal : Cl PySem.Challenge.rw_slotwork_k84_whole_seals.prog w K mg base (brOf K cls tfq) "_law_seal" ["events"] [false] 10 Fn__law_seal := ⟨_, fd__law_seal, ok__law_seal (br := brOf K cls tfq) F__law_seal T h__law_codes h__law_line, g__law_seal, F__law_seal.kp, F__law_seal.bindsN fun _ _ _ _ _ _ us hl => match us, hl with | [_], _ => rfl⟩
  have h__law_refused : Cl PySem.Challenge.rw_slotwork_k84_whole_seals.prog w K mg base (brOf K cls tfq) "_law_refused" ["value"] [false] 5 Fn__law_refused := ⟨_, fd__law_refused, ok__law_refused (br := brOf K cls tfq) F__law_refused T h_line_of hd_InvalidEvent xm, g__law_refused, F__law_refused.kp, F__law_refused.bindsN fun _ _ _ _ _ _ us hl => match us, hl with | [_], _ => rfl⟩
  exact ok_law (br := brOf K cls tfq) F_law T h__law_deck h__law_book h__law_key h__law_plain h_line_of h__law_line h__law_seal h_seal h_judge_seal h__law_take h_first_difference h__law_refused
end Lk84
open PySem PySem.W PySem.Calls PyProof.Rows in
theorem Lk84.holds_of (LAW : ∀ ns : List Int, ns.length ≤ 63 → ∃ io, Lk84.Fn_law [.scr ns] = .ret (.bl true) false io) : PySem.Challenge.rw_slotwork_k84_whole_seals.Holds := by
  w_on; o_law
  refine HandSHeadRun.head_any (r := OpenLaw.row PySem.Challenge.rw_slotwork_k84_whole_seals) (q := view (OpenLaw.row PySem.Challenge.rw_slotwork_k84_whole_seals).prog [36]) (H := Lk84.hk) (ob := Lk84.ob) (M := 8000) (loose := Lk84.names) (d := HandSHeadRun.topDef (OpenLaw.row PySem.Challenge.rw_slotwork_k84_whole_seals).prog 36) (kwd := []) Lk84.ob_eq
    (by kernel_rfl) (fun s => by kernel_rfl) Lk84.run (by kernel_rfl) (by kernel_rfl) (by kernel_rfl) (by rfl) (by first | assumption | decide +kernel) (by decide +kernel) ⟨rfl, rfl, rfl, rfl, rfl, by decide +kernel⟩ ?hw ?hc
  case hw => w_witness2
  case hc =>
    refine LamX.walk_ofTsE (l := PySem.Challenge.rw_slotwork_k84_whole_seals) (n := 63) (k := 11) (x := "script") (CX := L2.CX PySem.Challenge.rw_slotwork_k84_whole_seals.prog) rfl (by decide) (by kernel_rfl) ⟨rfl, by decide, by decide⟩ ?F (fun w H s e s' z => L2.Dl.hCX0 _ w H s e s' z)
    intro w mg fa h Y G hmg0
    obtain ⟨K, KX, c⟩ := Y
    have hmg : mg ("law" : PySem.Str) = some (.ref fa) := by
      have e : (HandSHeadRun.topDef (OpenLaw.row PySem.Challenge.rw_slotwork_k84_whole_seals).prog 36).name = ("law" : PySem.Str) := by kernel_rfl
      rw [← e]
      exact hmg0
    exact ⟨K, KX, Lk84.law_at KX G hmg c LAW⟩
theorem PySem.Challenge.cw_slotwork_k84_whole_seals_holds : PySem.Challenge.rw_slotwork_k84_whole_seals.Holds := by
  exact Lk84.holds_of Lk84.LAW
