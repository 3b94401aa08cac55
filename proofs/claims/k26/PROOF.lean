import PyProof.Rows.All
import Wide.All
import OpenK.AllK
import Wide.FinOn
import HandS.ForMost
import HandS.ForExc
import HandS.CallSlots
import HandS.TryMany
import HandS.ExcInit
import HandS.ExcIs
import HandS.ExcField
import HandS.Lambda
import HandS.EndTab
import HandS.Wide
import HandS.TupAny
import HandS.TupMul
import HandS.Deep
import HandS.IsInst
import HandS.Style
import HandS.Small
import HandS.Text
import HandS.Walk
import HandS.ExcCtx
import HandS.SortInts
import HandS.Gcd
import HandS.RaiseMore
import HandS.More
import HandS.Iter
import HandS.Rev
import HandS.Zip
import HandS.Comp
import KE.GoesMore
import KE.GoesEnum
import HandS.Words
import HandS.WordsExc
import HandS.HeadWalk
import HandS.Strs
import HandS.SetFor
import HandS.Conv
import KE.KNestM
import HandS.Hot
import KE.KExcIs
import KE.DataMinMax
import PySem.Challenge.RW_carriedink_k26_leads_by_division
set_option Elab.async false
set_option maxRecDepth 100000
set_option maxHeartbeats 4000000
/-! FL: a functional reading over the hand layer: every expression and statement of the program is read as a function of the frame's values (data trees, owned lists, functions), and one theorem a construct says that the code does what the function says. -/
namespace FL
open PySem PySem.Spec PyProof.Rows L2

/-! ### data that an abstract value stands for; lists only where they are frozen (F) or written -/
abbrev FS := Addr → Prop
def Wr (K : PySem.W.Frag) (a : Addr) (xs : List V) : Prop :=
  ∃ (o : Obj) (its : Array Value) (n : Nat), K.lookup a = some o ∧ o.cls = .type "list" ∧ o.dict = none ∧ o.data = .seq its n ∧ its.size ≤ sizeLine ∧ Vals xs its.toList
mutual
inductive Rt (K : PySem.W.Frag) (F : FS) (H : Hp) : V → PyData → Prop
  | non : Rt K F H .non .none
  | bl (b : Bool) : Rt K F H (.bl b) (.bool b)
  | int (i : Int) : Rt K F H (.int i) (.int i)
  | str (x : Str) : Rt K F H (.str x) (.str x)
  | lst {a : Addr} {xs : List V} {ds : List PyData} : (F a ∧ Rd H a (.lst xs)) ∨ Wr K a xs → RtAll K F H xs ds → Rt K F H (.ref a) (.list ds)
  | tup {a : Addr} {xs : List V} {ds : List PyData} : SqT K H a xs → RtAll K F H xs ds → Rt K F H (.ref a) (.tuple ds)
inductive RtAll (K : PySem.W.Frag) (F : FS) (H : Hp) : List V → List PyData → Prop
  | nil : RtAll K F H [] []
  | cons {v : V} {vs : List V} {d : PyData} {ds : List PyData} : Rt K F H v d → RtAll K F H vs ds → RtAll K F H (v :: vs) (d :: ds)
end
/-- what data leans on stays -/
structure Ext (F : FS) (H : Hp) (F' : FS) (H' : Hp) : Prop where
  sub : ∀ a, F a → F' a
  fix : ∀ a o, F a → H a = some o → H' a = some o
  tup : ∀ a xs, H a = some (.tup xs) → H' a = some (.tup xs)
  frz : ∀ a o u, H a = some (.frz o u) → H' a = some (.frz o u)
  xd : ∀ a fs, H a = some (.xd fs) → H' a = some (.xd fs)
  ext : ∀ a φ, H a = some (.ext φ) → H' a = some (.ext φ)
theorem Ext.refl {F : FS} {H : Hp} : Ext F H F H := ⟨fun _ h => h, fun _ _ _ h => h, fun _ _ h => h, fun _ _ _ h => h, fun _ _ h => h, fun _ _ h => h⟩
theorem Ext.trans {F F1 F2 : FS} {H H1 H2 : Hp} (a : Ext F H F1 H1) (b : Ext F1 H1 F2 H2) : Ext F H F2 H2 :=
  ⟨fun x h => b.sub x (a.sub x h), fun x o h e => b.fix x o (a.sub x h) (a.fix x o h e), fun x xs e => b.tup x xs (a.tup x xs e), fun x o u e => b.frz x o u (a.frz x o u e), fun x o e => b.xd x o (a.xd x o e), fun x o e => b.ext x o (a.ext x o e)⟩
section
variable {K : PySem.W.Frag} {F F' : FS} {H H' : Hp}
theorem Ext.rd {a : Addr} {xs : List V} (e : Ext F H F' H') (hF : F a) (h : Rd H a (.lst xs)) : Rd H' a (.lst xs) := by
  rcases h with h | ⟨o, h⟩
  · exact .inl (e.fix _ _ hF h)
  · exact .inr ⟨o, e.frz _ _ _ h⟩
theorem Ext.sqT {a : Addr} {xs : List V} (e : Ext F H F' H') (h : SqT K H a xs) : SqT K H' a xs := by
  rcases h with (h | ⟨o, h⟩) | h
  · exact .inl (.inl (e.tup _ _ h))
  · exact .inl (.inr ⟨o, e.frz _ _ _ h⟩)
  · exact .inr h
mutual
theorem Rt.ext (e : Ext F H F' H') : ∀ {v : V} {d : PyData}, Rt K F H v d → Rt K F' H' v d
  | _, _, .non => .non
  | _, _, .bl b => .bl b
  | _, _, .int i => .int i
  | _, _, .str x => .str x
  | _, _, .lst (.inl ⟨hF, h⟩) r => .lst (.inl ⟨e.sub _ hF, e.rd hF h⟩) (RtAll.ext e r)
  | _, _, .lst (.inr h) r => .lst (.inr h) (RtAll.ext e r)
  | _, _, .tup h r => .tup (e.sqT h) (RtAll.ext e r)
theorem RtAll.ext (e : Ext F H F' H') : ∀ {vs : List V} {ds : List PyData}, RtAll K F H vs ds → RtAll K F' H' vs ds
  | _, _, .nil => .nil
  | _, _, .cons h t => .cons (Rt.ext e h) (RtAll.ext e t)
end
theorem Wr.sql {a : Addr} {xs : List V} (h : Wr K a xs) : SqL K H a xs := .inr h
mutual
theorem Rt.dp : ∀ {v : V} {d : PyData}, Rt K F H v d → Dp K H v d
  | _, _, .non => .non
  | _, _, .bl b => .bl b
  | _, _, .int i => .int i
  | _, _, .str x => .str x
  | _, _, .lst (.inl h) r => .lst (.inl h.2) (RtAll.dp r)
  | _, _, .lst (.inr h) r => .lst (.inr h) (RtAll.dp r)
  | _, _, .tup h r => .tup h (RtAll.dp r)
theorem RtAll.dp : ∀ {vs : List V} {ds : List PyData}, RtAll K F H vs ds → DpAll K H vs ds
  | _, _, .nil => .nil
  | _, _, .cons h t => .cons (Rt.dp h) (RtAll.dp t)
end
theorem RtAll.length : ∀ {vs : List V} {ds : List PyData}, RtAll K F H vs ds → vs.length = ds.length
  | _, _, .nil => rfl
  | _, _, .cons _ t => congrArg (· + 1) t.length
theorem RtAll.get : ∀ {vs : List V} {ds : List PyData} {i : Nat} {d : PyData}, RtAll K F H vs ds → ds[i]? = some d → ∃ v, vs[i]? = some v ∧ Rt K F H v d
  | _, _, _, _, .nil, e => by simp at e
  | _, _, 0, _, .cons h _, e => by
    simp at e
    subst e
    exact ⟨_, rfl, h⟩
  | _, _, i + 1, d, .cons _ t, e => by
    obtain ⟨v, h1, h2⟩ := RtAll.get (i := i) (d := d) t (by simpa using e)
    exact ⟨v, by simpa using h1, h2⟩
theorem RtAll.get' : ∀ {vs : List V} {ds : List PyData} {i : Nat} {v : V}, RtAll K F H vs ds → vs[i]? = some v → ∃ d, ds[i]? = some d ∧ Rt K F H v d
  | _, _, _, _, .nil, e => by simp at e
  | _, _, 0, _, .cons h _, e => by
    simp at e
    subst e
    exact ⟨_, rfl, h⟩
  | _, _, i + 1, v, .cons _ t, e => by
    obtain ⟨d, h1, h2⟩ := RtAll.get' (i := i) (v := v) t (by simpa using e)
    exact ⟨d, by simpa using h1, h2⟩
theorem RtAll.append : ∀ {vs ws : List V} {ds es : List PyData}, RtAll K F H vs ds → RtAll K F H ws es → RtAll K F H (vs ++ ws) (ds ++ es)
  | _, _, _, _, .nil, s => s
  | _, _, _, _, .cons h t, s => .cons h (RtAll.append t s)
theorem RtAll.take : ∀ {vs : List V} {ds : List PyData} (n : Nat), RtAll K F H vs ds → RtAll K F H (vs.take n) (ds.take n)
  | _, _, 0, _ => by simpa using RtAll.nil
  | _, _, _ + 1, .nil => .nil
  | _, _, n + 1, .cons h t => .cons h (RtAll.take n t)
theorem RtAll.drop : ∀ {vs : List V} {ds : List PyData} (n : Nat), RtAll K F H vs ds → RtAll K F H (vs.drop n) (ds.drop n)
  | _, _, 0, r => r
  | _, _, _ + 1, .nil => .nil
  | _, _, n + 1, .cons _ t => RtAll.drop n t
theorem RtAll.set : ∀ {vs : List V} {ds : List PyData} (i : Nat) {v : V} {d : PyData}, RtAll K F H vs ds → Rt K F H v d → RtAll K F H (vs.set i v) (ds.set i d)
  | _, _, _, _, _, .nil, _ => .nil
  | _, _, 0, _, _, .cons _ t, r => .cons r t
  | _, _, i + 1, _, _, .cons h t, r => .cons h (RtAll.set i t r)
theorem RtAll.dropLast : ∀ {vs : List V} {ds : List PyData}, RtAll K F H vs ds → RtAll K F H vs.dropLast ds.dropLast := fun {vs ds} r => by
  rw [List.dropLast_eq_take, List.dropLast_eq_take, r.length]
  exact r.take _
theorem RtAll.eraseIdx : ∀ {vs : List V} {ds : List PyData} (i : Nat), RtAll K F H vs ds → RtAll K F H (vs.eraseIdx i) (ds.eraseIdx i)
  | _, _, _, .nil => by simpa using RtAll.nil
  | _, _, 0, .cons _ t => t
  | _, _, i + 1, .cons h t => .cons h (RtAll.eraseIdx i t)
theorem RtAll.reverse {vs : List V} {ds : List PyData} (r : RtAll K F H vs ds) : RtAll K F H vs.reverse ds.reverse := by
  induction vs generalizing ds with
  | nil => cases r; exact .nil
  | cons v vs ih =>
    cases r with
    | cons h t =>
      rw [List.reverse_cons, List.reverse_cons]
      exact (ih t).append (.cons h .nil)
theorem RtAll.ints : ∀ {vs : List V} {ns : List Int}, RtAll K F H vs (ns.map PyData.int) → vs = ns.map V.int
  | _, [], .nil => rfl
  | _, n :: r, .cons h t => by
    cases h
    rw [RtAll.ints t]
    rfl
theorem RtAll.of_ints : ∀ (ns : List Int), RtAll K F H (ns.map V.int) (ns.map PyData.int)
  | [] => .nil
  | n :: r => .cons (.int n) (RtAll.of_ints r)

/-- a list that is nobody else's: at a, not frozen -/
def Own (K : PySem.W.Frag) (F : FS) (H : Hp) (a : Addr) (ds : List PyData) : Prop := ¬ F a ∧ ∃ xs, H a = some (.lst xs) ∧ RtAll K F H xs ds
end

/-! ### the frame's values -/
/-- a function's outcome -/
inductive TR where
  | ok (d : PyData)
  | ow (ds : List PyData)
  | ex (c : Str) (w : PyData)
  | st
/-- what is no data: a function; a caught error, its class, what it keeps -/
inductive Fm where
  | fn (f : List PyData → TR)
  | xc (c : Str) (w : PyData)
/-- what a slot holds: nothing known; data; a list of one's own (io: the caller's, handed in to be changed; lk: being walked); a function -/
inductive Sv where
  | no
  | sh (d : PyData)
  | li (io lk : Bool) (ds : List PyData)
  | fn (m : Fm)
abbrev Fr := List Sv
/-- what an expression gives: data; a new list that is nobody's yet; what slot i holds; a function -/
inductive Ev where
  | sh (d : PyData)
  | ow (ds : List PyData)
  | al (i : Nat)
  | fn (m : Fm)
inductive Rs (α : Type) where
  | ok (a : α) (fr : Fr)
  | ex (c : Str) (w : PyData) (fr : Fr)
  | st
/-- what a statement comes to -/
inductive Fl where
  | nx | rt (e : Ev) | bk | ct

/-- what it means that a value is the function m -/
structure ThP where
  tb : List (Addr × Str)
  p : FS → Hp → V → Fm → Prop
  mono : ∀ {F : FS} {H : Hp} {F' : FS} {H' : Hp} {v : V} {m : Fm}, p F H v m → Ext F H F' H' → p F' H' v m
def noTh (tb : List (Addr × Str)) : ThP := ⟨tb, fun _ _ _ _ => False, fun h _ => h⟩
/-- what the code's tables are is not told -/
def NoTbl (o : HO) : Prop := ∀ ps, o ≠ .tbl ps
theorem NoTbl.lst {xs : List V} : NoTbl (.lst xs) := fun _ z => by cases z
theorem NoTbl.tup {xs : List V} : NoTbl (.tup xs) := fun _ z => by cases z
theorem NoTbl.frz {o : Obj} {u : HO} : NoTbl (.frz o u) := fun _ z => by cases z
theorem NoTbl.xd {xs : List (Str × V)} : NoTbl (.xd xs) := fun _ z => by cases z
theorem NoTbl.ext {φ : Heap → Prop} : NoTbl (.ext φ) := fun _ z => by cases z
section
variable (K : PySem.W.Frag) (T : ThP) (F : FS) (H : Hp)
def SlotOK (ov : Option (Option V)) (ra : Option Addr) : Sv → Prop
  | .no => ra = none
  | .sh d => ra = none ∧ ∃ v, ov = some (some v) ∧ Rt K F H v d
  | .li _ _ ds => ∃ a, ra = some a ∧ ov = some (some (.ref a)) ∧ Own K F H a ds
  | .fn m => ra = none ∧ ∃ v, ov = some (some v) ∧ T.p F H v m
/-- the frame's values stand so; r: where the own lists lie -/
structure At (σ : L2.St) (fr : Fr) (r : Nat → Option Addr) : Prop where
  len : fr.length = σ.length
  slot : ∀ i s, fr[i]? = some s → SlotOK K T F H σ[i]? (r i) s
  out : ∀ i, fr[i]? = none → r i = none
  inj : ∀ i j a, r i = some a → r j = some a → i = j
  ftr : ∀ a, F a → ∃ o, H a = some o ∧ NoTbl o
  tabs : LamX.Tabs T.tb H
def EvOK (σ : L2.St) (r : Nat → Option Addr) (v : V) : Ev → Prop
  | .sh d => Rt K F H v d
  | .ow ds => ∃ a, v = .ref a ∧ Own K F H a ds ∧ ∀ i, r i ≠ some a
  | .al i => σ[i]? = some (some v)
  | .fn m => T.p F H v m
end
/-- a step of the code: what was frozen stays so, what is tracked and is not the frame's own stays as it is -/
structure Step (F : FS) (H : Hp) (fr : Fr) (r : Nat → Option Addr) (F' : FS) (H' : Hp) (fr' : Fr) (r' : Nat → Option Addr) : Prop where
  sub : ∀ a, F a → F' a
  new : ∀ a, F' a → F a ∨ H a = none ∨ ∃ i, r i = some a
  keep : ∀ a o, H a = some o → NoTbl o → (∀ i, r i ≠ some a) → H' a = some o
  trk : ∀ a o, H a = some o → ∃ o', H' a = some o'
  root : ∀ i a, r' i = some a → (∃ j, r j = some a) ∨ H a = none
  io : ∀ i lk ds, fr[i]? = some (.li true lk ds) → (∃ ds', fr'[i]? = some (.li true lk ds')) ∧ r' i = r i
  lk : ∀ i io ds, fr[i]? = some (.li io true ds) → fr'[i]? = some (.li io true ds) ∧ r' i = r i
section
variable {K : PySem.W.Frag} {T : ThP} {F F' F1 F2 : FS} {H H' H1 H2 : Hp} {σ σ' : L2.St} {fr fr' fr1 fr2 : Fr} {r r' r1 r2 : Nat → Option Addr}
theorem Step.refl : Step F H fr r F H fr r := ⟨fun _ h => h, fun _ h => .inl h, fun _ _ h _ _ => h, fun _ o h => ⟨o, h⟩, fun i _ h => .inl ⟨i, h⟩, fun _ _ ds h => ⟨⟨ds, h⟩, rfl⟩, fun _ _ _ h => ⟨h, rfl⟩⟩
theorem Step.trans (a : Step F H fr r F1 H1 fr1 r1) (b : Step F1 H1 fr1 r1 F2 H2 fr2 r2) : Step F H fr r F2 H2 fr2 r2 where
  sub := fun x h => b.sub x (a.sub x h)
  new := fun x h => by
    have back : H1 x = none → H x = none := fun n => by
      cases e : H x with
      | none => rfl
      | some o =>
        obtain ⟨o', e'⟩ := a.trk x o e
        rw [e'] at n
        cases n
    rcases b.new x h with h | h | ⟨i, h⟩
    · exact a.new x h
    · exact .inr (.inl (back h))
    · rcases a.root i x h with h | h
      · exact .inr (.inr h)
      · exact .inr (.inl h)
  keep := fun x o e nt n => b.keep x o (a.keep x o e nt n) nt fun i h => by
    rcases a.root i x h with ⟨j, h⟩ | h
    · exact n j h
    · rw [e] at h
      cases h
  trk := fun x o e => by
    obtain ⟨o', e'⟩ := a.trk x o e
    exact b.trk x o' e'
  root := fun i x h => by
    rcases b.root i x h with ⟨j, h⟩ | h
    · exact a.root j x h
    · refine .inr ?_
      cases e : H x with
      | none => rfl
      | some o =>
        obtain ⟨o', e'⟩ := a.trk x o e
        rw [e'] at h
        cases h
  io := fun i lk ds h => by
    obtain ⟨⟨d1, h1⟩, e1⟩ := a.io i lk ds h
    obtain ⟨h2, e2⟩ := b.io i lk d1 h1
    exact ⟨h2, e2.trans e1⟩
  lk := fun i io ds h => by
    obtain ⟨h1, e1⟩ := a.lk i io ds h
    obtain ⟨h2, e2⟩ := b.lk i io ds h1
    exact ⟨h2, e2.trans e1⟩
theorem At.root_li (A : At K T F H σ fr r) {i : Nat} {a : Addr} (h : r i = some a) : ∃ io lk ds, fr[i]? = some (.li io lk ds) ∧ Own K F H a ds ∧ σ[i]? = some (some (.ref a)) := by
  cases e : fr[i]? with
  | none =>
    rw [A.out i e] at h
    cases h
  | some s =>
    have q := A.slot i s e
    cases s with
    | no =>
      rw [show r i = none from q] at h
      cases h
    | sh d =>
      rw [q.1] at h
      cases h
    | fn m =>
      rw [q.1] at h
      cases h
    | li io lk ds =>
      obtain ⟨b, h1, h2, h3⟩ := q
      rw [h1] at h
      cases h
      exact ⟨io, lk, ds, rfl, h3, h2⟩
theorem At.rootF (A : At K T F H σ fr r) {i : Nat} {a : Addr} (h : r i = some a) : ¬ F a := by
  obtain ⟨_, _, _, _, h, _⟩ := A.root_li h
  exact h.1
theorem At.rootL (A : At K T F H σ fr r) {i : Nat} {a : Addr} (h : r i = some a) : ∃ xs, H a = some (.lst xs) := by
  obtain ⟨_, _, _, _, h, _⟩ := A.root_li h
  obtain ⟨_, xs, h, _⟩ := h
  exact ⟨xs, h⟩
/-- what data leans on stays over a step -/
theorem Step.ext (s : Step F H fr r F' H' fr' r') (A : At K T F H σ fr r) : Ext F H F' H' where
  sub := s.sub
  fix := fun a o hF e => s.keep a o e (by
    obtain ⟨o', e', nt⟩ := A.ftr a hF
    rw [e] at e'
    cases e'
    exact nt) fun i h => A.rootF h hF
  tup := fun a xs e => s.keep a _ e .tup fun i h => by
    obtain ⟨ys, e'⟩ := A.rootL h
    rw [e] at e'
    cases e'
  frz := fun a o u e => s.keep a _ e .frz fun i h => by
    obtain ⟨ys, e'⟩ := A.rootL h
    rw [e] at e'
    cases e'
  xd := fun a xs e => s.keep a _ e .xd fun i h => by
    obtain ⟨ys, e'⟩ := A.rootL h
    rw [e] at e'
    cases e'
  ext := fun a xs e => s.keep a _ e .ext fun i h => by
    obtain ⟨ys, e'⟩ := A.rootL h
    rw [e] at e'
    cases e'
theorem EvOK.step {v : V} {e : Ev} (h : EvOK K T F H σ r v e) (s : Step F H fr r F' H' fr' r') (A : At K T F H σ fr r) : EvOK K T F' H' σ r' v e := by
  cases e with
  | sh d => exact Rt.ext (s.ext A) h
  | al i => exact h
  | fn m => exact T.mono h (s.ext A)
  | ow ds =>
    obtain ⟨a, e, ⟨nF, xs, hx, hr⟩, n⟩ := h
    refine ⟨a, e, ⟨fun hF => ?_, xs, s.keep a _ hx .lst n, hr.ext (s.ext A)⟩, fun i hi => ?_⟩
    · rcases s.new a hF with h | h | ⟨i, h⟩
      · exact nF h
      · rw [hx] at h
        cases h
      · exact n i h
    · rcases s.root i a hi with ⟨j, h⟩ | h
      · exact n j h
      · rw [hx] at h
        cases h
end

/-! ### reading what an expression gave -/
/-- the data behind it, as it stands now -/
def rd (fr : Fr) : Ev → Option PyData
  | .sh d => some d
  | .ow ds => some (.list ds)
  | .al i => match fr[i]? with
    | some (.sh d) => some d
    | some (.li _ _ ds) => some (.list ds)
    | _ => none
  | .fn _ => none
/-- content: data, or a list of one's own -/
def Cn (K : PySem.W.Frag) (F : FS) (H : Hp) (v : V) (d : PyData) : Prop := Rt K F H v d ∨ ∃ a ds, v = .ref a ∧ d = .list ds ∧ Own K F H a ds
section
variable {K : PySem.W.Frag} {T : ThP} {F F' : FS} {H H' : Hp} {σ : L2.St} {fr fr' : Fr} {r r' : Nat → Option Addr}
theorem rd_cn (A : At K T F H σ fr r) {v : V} {e : Ev} {d : PyData} (h : EvOK K T F H σ r v e) (q : rd fr e = some d) : Cn K F H v d := by
  cases e with
  | sh d' =>
    cases q
    exact .inl h
  | ow ds =>
    cases q
    obtain ⟨a, e, o, _⟩ := h
    exact .inr ⟨a, ds, e, rfl, o⟩
  | fn m => cases q
  | al i =>
    have h : σ[i]? = some (some v) := h
    unfold rd at q
    dsimp only at q
    cases e : fr[i]? with
    | none =>
      rw [e] at q
      cases q
    | some s =>
      rw [e] at q
      have z := A.slot i s e
      cases s with
      | no => cases q
      | fn m => cases q
      | sh d' =>
        cases q
        obtain ⟨_, w, e1, e2⟩ := z
        rw [h] at e1
        cases e1
        exact .inl e2
      | li io lk ds =>
        cases q
        obtain ⟨a, _, e1, e2⟩ := z
        rw [h] at e1
        cases e1
        exact .inr ⟨a, ds, rfl, rfl, e2⟩
theorem Cn.dp {v : V} {d : PyData} (h : Cn K F H v d) : Dp K H v d := by
  rcases h with h | ⟨a, ds, rfl, rfl, _, xs, h1, h2⟩
  · exact h.dp
  · exact .lst (.of h1) h2.dp
theorem Cn.list {v : V} {ds : List PyData} (h : Cn K F H v (.list ds)) : ∃ a xs, v = .ref a ∧ SqL K H a xs ∧ RtAll K F H xs ds := by
  rcases h with h | ⟨a, ds', rfl, e, _, xs, h1, h2⟩
  · cases h with
    | lst h r =>
      refine ⟨_, _, rfl, ?_, r⟩
      rcases h with h | h
      · exact .inl h.2
      · exact .inr h
  · cases e
    exact ⟨a, xs, rfl, .of h1, h2⟩
theorem Cn.tuple {v : V} {ds : List PyData} (h : Cn K F H v (.tuple ds)) : ∃ a xs, v = .ref a ∧ SqT K H a xs ∧ RtAll K F H xs ds := by
  rcases h with h | ⟨a, ds', rfl, e, _⟩
  · cases h with
    | tup h r => exact ⟨_, _, rfl, h, r⟩
  · cases e
theorem Cn.int {v : V} {i : Int} (h : Cn K F H v (.int i)) : v = .int i := by
  rcases h with h | ⟨a, ds', rfl, e, _⟩
  · cases h
    rfl
  · cases e
theorem Cn.bool {v : V} {i : Bool} (h : Cn K F H v (.bool i)) : v = .bl i := by
  rcases h with h | ⟨a, ds', rfl, e, _⟩
  · cases h
    rfl
  · cases e
theorem Cn.str {v : V} {i : Str} (h : Cn K F H v (.str i)) : v = .str i := by
  rcases h with h | ⟨a, ds', rfl, e, _⟩
  · cases h
    rfl
  · cases e
theorem Cn.none {v : V} (h : Cn K F H v .none) : v = .non := by
  rcases h with h | ⟨a, ds', rfl, e, _⟩
  · cases h
    rfl
  · cases e
theorem Cn.nondict {v : V} {kvs : List (PyData × PyData)} (h : Cn K F H v (.dict kvs)) : False := by
  rcases h with h | ⟨a, ds', rfl, e, _⟩
  · cases h
  · cases e
def isNoneD : PyData → Bool
  | .none => true
  | _ => false
theorem Cn.isN {v : V} {d : PyData} (h : Cn K F H v d) : decide (v = V.non) = isNoneD d := by
  cases d with
  | none => rw [h.none]; rfl
  | bool b => rw [h.bool]; rfl
  | int b => rw [h.int]; rfl
  | str b => rw [h.str]; rfl
  | list b => obtain ⟨a, xs, e, _⟩ := h.list; rw [e]; rfl
  | tuple b => obtain ⟨a, xs, e, _⟩ := h.tuple; rw [e]; rfl
  | dict b => exact h.nondict.elim

/-! ### freezing -/
/-- what is handed on as data: the frame behind it -/
def fz (fr : Fr) : Ev → Option (PyData × Fr)
  | .sh d => some (d, fr)
  | .ow ds => some (.list ds, fr)
  | .al i => match fr[i]? with
    | some (.sh d) => some (d, fr)
    | some (.li false false ds) => some (.list ds, fr.set i (.sh (.list ds)))
    | _ => none
  | .fn _ => none
theorem Own.grow {a b : Addr} {ds : List PyData} (h : Own K F H b ds) (n : b ≠ a) (e : Ext F H F' H) (hF : ∀ x, F' x → F x ∨ x = a) : Own K F' H b ds := by
  obtain ⟨h1, xs, h2, h3⟩ := h
  refine ⟨fun z => ?_, xs, h2, h3.ext e⟩
  rcases hF b z with z | z
  · exact h1 z
  · exact n z
def addF (F : FS) (a : Addr) : FS := fun b => F b ∨ b = a
theorem ext_add {a : Addr} : Ext F H (addF F a) H := ⟨fun _ h => .inl h, fun _ _ _ h => h, fun _ _ h => h, fun _ _ _ h => h, fun _ _ h => h, fun _ _ h => h⟩
/-- a new list of nobody's is frozen -/
theorem At.freeze (A : At K T F H σ fr r) {a : Addr} (n : ∀ i, r i ≠ some a) (ht : ∃ o, H a = some o ∧ NoTbl o) : At K T (addF F a) H σ fr r := by
  refine ⟨A.len, fun i s e => ?_, A.out, A.inj, fun b hb => ?_, A.tabs⟩
  · have q := A.slot i s e
    cases s with
    | no => exact q
    | sh d =>
      obtain ⟨q1, v, q2, q3⟩ := q
      exact ⟨q1, v, q2, q3.ext ext_add⟩
    | fn m =>
      obtain ⟨q1, v, q2, q3⟩ := q
      exact ⟨q1, v, q2, T.mono q3 ext_add⟩
    | li io lk ds =>
      obtain ⟨b, q1, q2, q3⟩ := q
      exact ⟨b, q1, q2, q3.grow (fun z => n i (by rw [q1, z])) ext_add fun x hx => hx⟩
  · rcases hb with hb | hb
    · exact A.ftr b hb
    · rw [hb]
      exact ht
theorem step_add {a : Addr} (h : H a = none ∨ ∃ i, r i = some a) : Step F H fr r (addF F a) H fr r :=
  ⟨fun _ h => .inl h, fun x hx => hx.elim .inl fun e => .inr (by rw [e]; exact h), fun _ _ h _ _ => h, fun _ o h => ⟨o, h⟩, fun i _ h => .inl ⟨i, h⟩, fun _ _ ds h => ⟨⟨ds, h⟩, rfl⟩, fun _ _ _ h => ⟨h, rfl⟩⟩
def delR (r : Nat → Option Addr) (i : Nat) : Nat → Option Addr := fun j => if j = i then none else r j
theorem delR_ne {i j : Nat} (h : j ≠ i) : delR r i j = r j := if_neg h
theorem delR_same {i : Nat} : delR r i i = none := if_pos rfl
theorem delR_some {i j : Nat} {a : Addr} (h : delR r i j = some a) : j ≠ i ∧ r j = some a := by
  unfold delR at h
  by_cases e : j = i
  · rw [if_pos e] at h
    cases h
  · rw [if_neg e] at h
    exact ⟨e, h⟩
theorem fz_ok (A : At K T F H σ fr r) {v : V} {e : Ev} {d : PyData} (h : EvOK K T F H σ r v e) (q : fz fr e = some (d, fr')) :
    ∃ F' r', At K T F' H σ fr' r' ∧ Rt K F' H v d ∧ (∀ x, F x → F' x) ∧ (∀ x, F' x → F x ∨ (∃ i, r i = some x) ∨ ∃ ds, e = .ow ds ∧ v = .ref x) ∧ (∀ j a, r' j = some a → r j = some a) ∧
      (∀ i lk ds, fr[i]? = some (.li true lk ds) → fr'[i]? = some (.li true lk ds) ∧ r' i = r i) ∧ (∀ i io ds, fr[i]? = some (.li io true ds) → fr'[i]? = some (.li io true ds) ∧ r' i = r i) := by
  cases e with
  | sh d' =>
    cases q
    exact ⟨F, r, A, h, fun _ h => h, fun _ h => .inl h, fun _ _ h => h, fun _ _ _ h => ⟨h, rfl⟩, fun _ _ _ h => ⟨h, rfl⟩⟩
  | fn m => cases q
  | ow ds =>
    cases q
    obtain ⟨a, e, ⟨nF, xs, hx, hr⟩, n⟩ := h
    refine ⟨addF F a, r, A.freeze n ⟨_, hx, .lst⟩, ?_, fun _ h => .inl h, fun x hx => hx.elim .inl fun z => .inr (.inr ⟨ds, rfl, by rw [e, z]⟩), fun _ _ h => h, fun _ _ _ h => ⟨h, rfl⟩, fun _ _ _ h => ⟨h, rfl⟩⟩
    rw [e]
    exact .lst (.inl ⟨.inr rfl, .inl hx⟩) (hr.ext ext_add)
  | al i =>
    have h : σ[i]? = some (some v) := h
    unfold fz at q
    dsimp only at q
    cases e : fr[i]? with
    | none =>
      rw [e] at q
      cases q
    | some s =>
      rw [e] at q
      have z := A.slot i s e
      cases s with
      | no => cases q
      | fn m => cases q
      | sh d' =>
        cases q
        obtain ⟨_, w, e1, e2⟩ := z
        rw [h] at e1
        cases e1
        exact ⟨F, r, A, e2, fun _ h => h, fun _ h => .inl h, fun _ _ h => h, fun _ _ _ h => ⟨h, rfl⟩, fun _ _ _ h => ⟨h, rfl⟩⟩
      | li io lk ds =>
        cases io with
        | true => cases q
        | false =>
          cases lk with
          | true => cases q
          | false =>
            cases q
            obtain ⟨a, e0, e1, e2⟩ := z
            rw [h] at e1
            cases e1
            obtain ⟨nF, xs, hx, hr⟩ := e2
            have hi : i < fr.length := (List.getElem?_eq_some_iff.mp e).1
            refine ⟨addF F a, delR r i, ⟨by rw [List.length_set]; exact A.len, fun j s ej => ?_, fun j ej => ?_, fun j k b hj hk => ?_, fun b hb => ?_, A.tabs⟩, ?_, fun _ h => .inl h, fun x hx => hx.elim .inl fun z => .inr (.inl ⟨i, by rw [z]; exact e0⟩), fun j b hb => (delR_some hb).2, fun j lk ds' hj => ?_, fun j io ds' hj => ?_⟩
            · by_cases hj : j = i
              · subst hj
                rw [List.getElem?_set_self hi] at ej
                cases ej
                exact ⟨delR_same, _, h, .lst (.inl ⟨.inr rfl, .inl hx⟩) (hr.ext ext_add)⟩
              · rw [List.getElem?_set_ne (Ne.symm hj)] at ej
                have q := A.slot j s ej
                cases s with
                | no => exact (delR_ne hj).trans q
                | sh d =>
                  obtain ⟨q1, v, q2, q3⟩ := q
                  exact ⟨(delR_ne hj).trans q1, v, q2, q3.ext ext_add⟩
                | fn m =>
                  obtain ⟨q1, v, q2, q3⟩ := q
                  exact ⟨(delR_ne hj).trans q1, v, q2, T.mono q3 ext_add⟩
                | li io lk ds =>
                  obtain ⟨b, q1, q2, q3⟩ := q
                  exact ⟨b, (delR_ne hj).trans q1, q2, q3.grow (fun z => hj (A.inj j i a (by rw [q1, z]) e0)) ext_add fun x hx => hx⟩
            · by_cases hj : j = i
              · subst hj
                exact delR_same
              · rw [List.getElem?_set_ne (Ne.symm hj)] at ej
                exact (delR_ne hj).trans (A.out j ej)
            · exact A.inj j k b (delR_some hj).2 (delR_some hk).2
            · rcases hb with hb | hb
              · exact A.ftr b hb
              · rw [hb]
                exact ⟨_, hx, .lst⟩
            · exact .lst (.inl ⟨.inr rfl, .inl hx⟩) (hr.ext ext_add)
            · have hne : j ≠ i := fun z => by
                rw [z, e] at hj
                cases hj
              exact ⟨by rw [List.getElem?_set_ne (Ne.symm hne)]; exact hj, delR_ne hne⟩
            · have hne : j ≠ i := fun z => by
                rw [z, e] at hj
                cases hj
              exact ⟨by rw [List.getElem?_set_ne (Ne.symm hne)]; exact hj, delR_ne hne⟩
/-- what an expression has made is new since H -/
def New (H : Hp) (v : V) : Ev → Prop
  | .ow _ => ∀ a, v = .ref a → H a = none
  | _ => True
theorem New.back {F0 : FS} {H0 : Hp} {fr0 : Fr} {r0 : Nat → Option Addr} {v : V} {e : Ev} (n : New H v e) (s : Step F0 H0 fr0 r0 F H fr r) : New H0 v e := by
  cases e with
  | ow ds =>
    intro a e
    have h := n a e
    cases q : H0 a with
    | none => rfl
    | some o =>
      obtain ⟨o', q'⟩ := s.trk a o q
      rw [q'] at h
      cases h
  | sh d => trivial
  | al i => trivial
  | fn m => trivial
theorem fz_step {F0 : FS} {H0 : Hp} {fr0 : Fr} {r0 : Nat → Option Addr} (s : Step F0 H0 fr0 r0 F H fr r) (A : At K T F H σ fr r) {v : V} {e : Ev} {d : PyData} (h : EvOK K T F H σ r v e) (n : New H0 v e) (q : fz fr e = some (d, fr')) :
    ∃ F' r', At K T F' H σ fr' r' ∧ Rt K F' H v d ∧ Step F0 H0 fr0 r0 F' H fr' r' := by
  obtain ⟨F', r', A', R, sub, new, root, io, lk⟩ := fz_ok A h q
  refine ⟨F', r', A', R, fun x hx => sub x (s.sub x hx), fun x hx => ?_, s.keep, s.trk, fun j a hj => s.root j a (root j a hj), fun i l ds hi => ?_, fun i io' ds hi => ?_⟩
  · rcases new x hx with h1 | ⟨i, h1⟩ | ⟨ds, e1, e2⟩
    · exact s.new x h1
    · exact (s.root i x h1).elim (fun z => .inr (.inr z)) fun z => .inr (.inl z)
    · subst e1
      exact .inr (.inl (n x e2))
  · obtain ⟨⟨d1, h1⟩, e1⟩ := s.io i l ds hi
    obtain ⟨h2, e2⟩ := io i l d1 h1
    exact ⟨⟨d1, h2⟩, e2.trans e1⟩
  · obtain ⟨h1, e1⟩ := s.lk i io' ds hi
    obtain ⟨h2, e2⟩ := lk i io' ds h1
    exact ⟨h2, e2.trans e1⟩
end
end FL


set_option Elab.async false
set_option maxRecDepth 100000
set_option maxHeartbeats 4000000
namespace FL
open PySem PySem.Spec PyProof.Rows L2

/-! ### judgements -/
abbrev Ro := Nat → Option Addr
abbrev OkT (α β : Type) := FS → Hp → Ro → L2.St → Hp → β → α → Prop
section
variable (K : PySem.W.Frag) (mg : Str → Option Value) (T : ThP)
def okE : OkT Ev V := fun F H r σ H0 v e => EvOK K T F H σ r v e ∧ New H0 v e
def okB : OkT Bool Bool := fun _ _ _ _ _ b a => b = a
/-- what is wanted of an outcome, told from where it began -/
def cont {α β : Type} (ok : OkT α β) (W : WX) (F : FS) (H : Hp) (fr : Fr) (r : Ro) (σ : L2.St) (Q : β → Hp → Prop) : Rs α → Prop
  | .ok a fr' => ∀ b F' H' r', At K T F' H' σ fr' r' → ok F' H' r' σ H b a → Step F H fr r F' H' fr' r' → Q b H'
  | .ex c w fr' => ∀ C dd v F' H' r', mg c = some (.ref C) → At K T F' H' σ fr' r' → H' dd = some (.xd [("what", v)]) → Rt K F' H' v w → Step F H fr r F' H' fr' r' → W (.ref C) (some dd) σ H'
  | .st => False
def tG {α β : Type} (ok : OkT α β) (W : WX) (f : Fr → Rs α) : L2.St → Hp → (β → Hp → Prop) → Prop := fun σ H Q =>
  ∃ F fr r, At K T F H σ fr r ∧ cont K mg T ok W F H fr r σ Q (f fr)
def tE (W : WX) (f : Fr → Rs Ev) : TE := tG K mg T (okE K T) W f
def tB (W : WX) (f : Fr → Rs Bool) : TT := tG K mg T okB W f
end
abbrev GE (X : Cx) (T : ThP) (W : WX) (e : Expr) (f : Fr → Rs Ev) : Prop := PE X e (tE X.K X.mg T W f)
abbrev GT (X : Cx) (T : ThP) (W : WX) (e : Expr) (f : Fr → Rs Bool) : Prop := PT X e (tB X.K X.mg T W f)
abbrev GW (X : Cx) (T : ThP) (W : WX) (e : Expr) (f : Fr → Rs Bool) : Prop := PW X e (tB X.K X.mg T W f)
def bnd {α β : Type} (f : Fr → Rs α) (g : α → Fr → Rs β) : Fr → Rs β := fun fr => match f fr with
  | .ok a fr' => g a fr'
  | .ex c w fr' => .ex c w fr'
  | .st => .st
def ret {α : Type} (a : α) : Fr → Rs α := fun fr => .ok a fr
section
variable {K : PySem.W.Frag} {mg : Str → Option Value} {T : ThP} {W : WX} {F F0 F1 : FS} {H H0 H1 : Hp} {fr fr0 fr1 : Fr} {r r0 r1 : Ro} {σ : L2.St} {α β γ δ : Type} {ok : OkT α β} {ok2 : OkT γ δ} {Q Q' : β → Hp → Prop} {Q2 : δ → Hp → Prop}
theorem cont.mono {x : Rs α} (h : cont K mg T ok W F H fr r σ Q x) (q : ∀ b H', Q b H' → Q' b H') : cont K mg T ok W F H fr r σ Q' x := by
  cases x with
  | ok a fr' => exact fun b F' H' r' A o s => q _ _ (h b F' H' r' A o s)
  | ex c w fr' => exact h
  | st => exact h
theorem use_ok {f : Fr → Rs α} {g : α → Fr → Rs γ} (h : cont K mg T ok2 W F H fr r σ Q2 (bnd f g fr)) :
    cont K mg T ok W F H fr r σ (fun b H1 => ∃ a F1 fr1 r1, At K T F1 H1 σ fr1 r1 ∧ ok F1 H1 r1 σ H b a ∧ Step F H fr r F1 H1 fr1 r1 ∧ cont K mg T ok2 W F H fr r σ Q2 (g a fr1)) (f fr) := by
  unfold bnd at h
  cases e : f fr with
  | ok a fr' =>
    rw [e] at h
    exact fun b F' H' r' A o s => ⟨a, F', fr', r', A, o, s, h⟩
  | ex c w fr' =>
    rw [e] at h
    exact h
  | st =>
    rw [e] at h
    exact h
theorem cont.rebase {x : Rs α} (h : cont K mg T ok W F H fr r σ Q x) (s : Step F H fr r F1 H1 fr1 r1) (ho : ∀ F' H' r' b a, ok F' H' r' σ H1 b a → ok F' H' r' σ H b a) : cont K mg T ok W F1 H1 fr1 r1 σ Q x := by
  cases x with
  | ok a fr' => exact fun b F' H' r' A o s' => h b F' H' r' A (ho _ _ _ _ _ o) (s.trans s')
  | ex c w fr' => exact fun C dd v F' H' r' m A hd hv s' => h C dd v F' H' r' m A hd hv (s.trans s')
  | st => exact h
theorem okE.back (s : Step F H fr r F1 H1 fr1 r1) : ∀ F' H' r' b a, okE K T F' H' r' σ H1 b a → okE K T F' H' r' σ H b a := fun _ _ _ _ _ o => ⟨o.1, o.2.back s⟩
theorem okB.back (s : Step F H fr r F1 H1 fr1 r1) : ∀ F' H' r' b a, okB F' H' r' σ H1 b a → okB F' H' r' σ H b a := fun _ _ _ _ _ o => o
end
theorem PE.weak {X : Cx} {e : Expr} {t t' : TE} (h : PE X e t) (i : ∀ σ H Q, t' σ H Q → t σ H Q) : PE X e t' := ⟨fun pins s σ H Q I q => h.run pins s σ H Q I (i σ H Q q)⟩
theorem PT.weak {X : Cx} {e : Expr} {t t' : TT} (h : PT X e t) (i : ∀ σ H Q, t' σ H Q → t σ H Q) : PT X e t' := ⟨fun pins s σ H Q I q => h.run pins s σ H Q I (i σ H Q q)⟩
theorem PW.weak {X : Cx} {e : Expr} {t t' : TT} (h : PW X e t) (i : ∀ σ H Q, t' σ H Q → t σ H Q) : PW X e t' := ⟨fun wh pins s σ H Q I q => h.run wh pins s σ H Q I (i σ H Q q)⟩
/-- with what the invariant says of the heap -/
theorem PE.weakI {X : Cx} {e : Expr} {t t' : TE} (h : PE X e t) (i : ∀ pins s σ H Q, Inv X pins σ H s → t' σ H Q → t σ H Q) : PE X e t' := ⟨fun pins s σ H Q I q => h.run pins s σ H Q I (i pins s σ H Q I q)⟩

section
variable {X : Cx} {T : ThP} {W : WX} {e a b c : Expr} {pos : Pos}
/-- an expression that gives a value without a step -/
theorem ge_pure {e : Expr} {d : PyData} {v : V} (h : PE X e (tC v)) (hR : ∀ F H, Rt X.K F H v d) : GE X T W e (ret (.sh d)) := by
  refine PE.weak h fun σ H Q ⟨F, fr, r, A, q⟩ => ?_
  exact q v F H r A ⟨hR F H, trivial⟩ Step.refl
theorem ge_int {i j} : GE X T W (.Constant (.int i) j pos) (ret (.sh (.int i))) := ge_pure pe_int fun _ _ => .int i
theorem ge_bool {i j} : GE X T W (.Constant (.bool i) j pos) (ret (.sh (.bool i))) := ge_pure pe_bl fun _ _ => .bl i
theorem ge_none {j} : GE X T W (.Constant .none j pos) (ret (.sh .none)) := ge_pure pe_non fun _ _ => .non
theorem ge_str {i j} : GE X T W (.Constant (.str i) j pos) (ret (.sh (.str i))) := ge_pure pe_str fun _ _ => .str i
/-- a name of the def -/
def nm (i : Nat) : Fr → Rs Ev := fun fr => match fr[i]? with
  | some (.sh d) => .ok (.sh d) fr
  | some (.li _ _ _) => .ok (.al i) fr
  | some (.fn m) => .ok (.fn m) fr
  | _ => .st
theorem ge_nm {i : Nat} {x : Str} (h : PE X (.Name x pos) (tVar i)) : GE X T W (.Name x pos) (nm i) := by
  refine PE.weak h fun σ H Q ⟨F, fr, r, A, q⟩ => ?_
  unfold nm at q
  cases e : fr[i]? with
  | none =>
    rw [e] at q
    exact q.elim
  | some s =>
    rw [e] at q
    have z := A.slot i s e
    cases s with
    | no => exact q.elim
    | sh d =>
      obtain ⟨_, v, e1, e2⟩ := z
      exact ⟨v, e1, q v F H r A ⟨e2, trivial⟩ Step.refl⟩
    | fn m =>
      obtain ⟨_, v, e1, e2⟩ := z
      exact ⟨v, e1, q v F H r A ⟨e2, trivial⟩ Step.refl⟩
    | li io lk ds =>
      obtain ⟨a, _, e1, e2⟩ := z
      exact ⟨.ref a, e1, q (.ref a) F H r A ⟨e1, trivial⟩ Step.refl⟩

/-! ### operators on two values -/
/-- what an operation leaves: nothing but new objects -/
def Grow (H H' : Hp) : Prop := ∀ a o, H a = some o → H' a = some o
theorem Grow.refl (H : Hp) : Grow H H := fun _ _ h => h
theorem Grow.upd {H : Hp} {p : Addr} {o : HO} (h : H p = none) : Grow H (upd H p o) := fun b x e => by
  rw [upd_ne (ne_of_none e h)]
  exact e
/-- the value of an operation, at its end -/
def RvOK (K : PySem.W.Frag) (F : FS) (H H' : Hp) (v : V) : Ev → Prop
  | .sh d => Rt K F H' v d
  | .ow ds => ∃ a xs, v = .ref a ∧ H a = none ∧ H' a = some (.lst xs) ∧ RtAll K F H' xs ds
  | _ => False
theorem Grow.ext {F : FS} {H H' : Hp} (g : Grow H H') : Ext F H F H' := ⟨fun _ h => h, fun a o _ e => g a o e, fun a xs e => g a _ e, fun a o u e => g a _ e, fun a xs e => g a _ e, fun a xs e => g a _ e⟩
theorem At.grow {K : PySem.W.Frag} {T : ThP} {F : FS} {H H' : Hp} {σ : L2.St} {fr : Fr} {r : Ro} (A : At K T F H σ fr r) (g : Grow H H') : At K T F H' σ fr r := by
  refine ⟨A.len, fun i s e => ?_, A.out, A.inj, fun b hb => ?_, A.tabs.ext g⟩
  · have q := A.slot i s e
    cases s with
    | no => exact q
    | sh d =>
      obtain ⟨q1, v, q2, q3⟩ := q
      exact ⟨q1, v, q2, q3.ext g.ext⟩
    | fn m =>
      obtain ⟨q1, v, q2, q3⟩ := q
      exact ⟨q1, v, q2, T.mono q3 g.ext⟩
    | li io lk ds =>
      obtain ⟨b, q1, q2, nF, xs, q3, q4⟩ := q
      exact ⟨b, q1, q2, nF, xs, g _ _ q3, q4.ext g.ext⟩
  · obtain ⟨o, e, nt⟩ := A.ftr b hb
    exact ⟨o, g _ _ e, nt⟩
theorem Step.grow {F : FS} {H H' : Hp} {fr : Fr} {r : Ro} (g : Grow H H') : Step F H fr r F H' fr r :=
  ⟨fun _ h => h, fun _ h => .inl h, fun a o e _ _ => g a o e, fun a o e => ⟨o, g a o e⟩, fun i _ h => .inl ⟨i, h⟩, fun _ _ ds h => ⟨⟨ds, h⟩, rfl⟩, fun _ _ _ h => ⟨h, rfl⟩⟩
theorem RvOK.ev {K : PySem.W.Frag} {T : ThP} {F : FS} {H H' : Hp} {σ : L2.St} {fr : Fr} {r : Ro} {v : V} {e : Ev} (A : At K T F H σ fr r) (h : RvOK K F H H' v e) : EvOK K T F H' σ r v e ∧ New H v e := by
  cases e with
  | sh d => exact ⟨h, trivial⟩
  | al i => exact h.elim
  | fn m => exact h.elim
  | ow ds =>
    obtain ⟨a, xs, e, n, hx, hr⟩ := h
    refine ⟨⟨a, e, ⟨fun hF => ?_, xs, hx, hr⟩, fun i hi => ?_⟩, fun b eb => ?_⟩
    · obtain ⟨o, z, _⟩ := A.ftr a hF
      rw [n] at z
      cases z
    · obtain ⟨ys, z⟩ := A.rootL hi
      rw [n] at z
      cases z
    · rw [e] at eb
      cases eb
      exact n
/-- the end of an operation by values -/
theorem cont.op {K : PySem.W.Frag} {mg : Str → Option Value} {F : FS} {H H' : Hp} {σ : L2.St} {fr : Fr} {r : Ro} {v : V} {e : Ev} {Q : VK} (h : cont K mg T (okE K T) W F H fr r σ Q (.ok e fr)) (A : At K T F H σ fr r) (g : Grow H H') (hv : RvOK K F H H' v e) : Q v H' :=
  h v F H' r (A.grow g) (hv.ev A) (Step.grow g)
def OpM (K : PySem.W.Frag) (r : R2) (o : PyData → PyData → Option Ev) : Prop := ∀ (F : FS) (H : Hp) (v1 v2 : V) (d1 d2 : PyData) (e : Ev) (Q : VK), Cn K F H v1 d1 → Cn K F H v2 d2 → o d1 d2 = some e →
  (∀ v H', Grow H H' → RvOK K F H H' v e → Q v H') → r v1 v2 H Q
def opM (o : PyData → PyData → Option Ev) (x y : Ev) : Fr → Rs Ev := fun fr => match rd fr x, rd fr y with
  | some d1, some d2 => match o d1 d2 with
    | some e => .ok e fr
    | none => .st
  | _, _ => .st
def op2 (o : PyData → PyData → Option Ev) (f g : Fr → Rs Ev) : Fr → Rs Ev := bnd f fun x => bnd g fun y => opM o x y
theorem op2_ok {r : R2} {o : PyData → PyData → Option Ev} {f g : Fr → Rs Ev} (hm : OpM X.K r o) (σ : L2.St) (H : Hp) (Q : VK) (h : tE X.K X.mg T W (op2 o f g) σ H Q) : tOp r (tE X.K X.mg T W f) (tE X.K X.mg T W g) σ H Q := by
  obtain ⟨F, fr, r0, A, h⟩ := h
  refine ⟨F, fr, r0, A, (use_ok h).mono fun v1 H1 ⟨x, F1, fr1, r1, A1, o1, s1, h1⟩ => ?_⟩
  refine ⟨F1, fr1, r1, A1, (use_ok (h1.rebase s1 (okE.back s1))).mono fun v2 H2 ⟨y, F2, fr2, r2, A2, o2, s2, h2⟩ => ?_⟩
  have o1' := o1.1.step s2 A1
  unfold opM at h2
  cases e1 : rd fr2 x with
  | none =>
    rw [e1] at h2
    exact h2.elim
  | some d1 =>
    cases e2 : rd fr2 y with
    | none =>
      rw [e1, e2] at h2
      exact h2.elim
    | some d2 =>
      rw [e1, e2] at h2
      cases e3 : o d1 d2 with
      | none =>
        simp only [e3] at h2
        exact h2.elim
      | some ev =>
        simp only [e3] at h2
        exact hm F2 H2 v1 v2 d1 d2 ev Q (rd_cn A2 o1' e1) (rd_cn A2 o2.1 e2) e3 fun v H' g hv => (h2.rebase s2 (okE.back s2)).op A2 g hv
theorem ge_bin {op : Operator} {r : R2} {o : PyData → PyData → Option Ev} {f g : Fr → Rs Ev} (ho : OpR X (binaryOp op) r) (hm : OpM X.K r o) (ha : GE X T W a f) (hb : GE X T W b g) : GE X T W (.BinOp a op b pos) (op2 o f g) :=
  PE.weak (pe_op ho ha hb) (op2_ok hm)
theorem ge_cmp {op : CmpOp} {r : R2} {o : PyData → PyData → Option Ev} {f g : Fr → Rs Ev} (ho : OpR X (compareOp op) r) (hm : OpM X.K r o) (hk : behindInMarks op b = false) (ha : GE X T W a f) (hb : GE X T W b g) : GE X T W (.Compare a [op] [b] pos) (op2 o f g) :=
  PE.weak (pe_cmpR ho ha hb hk) (op2_ok hm)
theorem OpM.or {K : PySem.W.Frag} {r r' : R2} {o o' : PyData → PyData → Option Ev} (h : OpM K r o) (h' : OpM K r' o') : OpM K (fun x y H Q => r x y H Q ∨ r' x y H Q) (fun d1 d2 => (o d1 d2).orElse fun _ => o' d1 d2) := by
  intro F H v1 v2 d1 d2 e Q c1 c2 q k
  dsimp only at q
  cases z : o d1 d2 with
  | some e' =>
    rw [z] at q
    cases q
    exact .inl (h F H v1 v2 d1 d2 e Q c1 c2 z k)
  | none =>
    rw [z] at q
    exact .inr (h' F H v1 v2 d1 d2 e Q c1 c2 q k)
/-- a test by a value that is True or False -/
def asB (f : Fr → Rs Ev) : Fr → Rs Bool := bnd f fun x fr => match rd fr x with
  | some (.bool b) => .ok b fr
  | _ => .st
theorem asB_ok {f : Fr → Rs Ev} (σ : L2.St) (H : Hp) (Q : Bool → Hp → Prop) (h : tB X.K X.mg T W (asB f) σ H Q) : tE X.K X.mg T W f σ H fun x H1 => ∃ c, x = .bl c ∧ Q c H1 := by
  obtain ⟨F, fr, r0, A, h⟩ := h
  refine ⟨F, fr, r0, A, (use_ok h).mono fun v1 H1 ⟨x, F1, fr1, r1, A1, o1, s1, h1⟩ => ?_⟩
  cases e1 : rd fr1 x with
  | none =>
    simp only [e1] at h1
    exact h1.elim
  | some d =>
    simp only [e1] at h1
    cases d with
    | bool b => exact ⟨b, (rd_cn A1 o1.1 e1).bool, h1 b F1 H1 r1 A1 rfl s1⟩
    | none => exact h1.elim
    | int _ => exact h1.elim
    | str _ => exact h1.elim
    | list _ => exact h1.elim
    | tuple _ => exact h1.elim
    | dict _ => exact h1.elim
theorem gt_val {f : Fr → Rs Ev} (h : GE X T W e f) (he : ∀ whole, isTrue e X.env whole = (do let v ← whole; standAt e.pos; holding [v] (truthy v)) := by intro _; rfl) : GT X T W e (asB f) := PT.weak (pt_val h he) asB_ok
theorem gt_cmp {op : CmpOp} {r : R2} {o : PyData → PyData → Option Ev} {f g : Fr → Rs Ev} (ho : OpR X (compareOp op) r) (hm : OpM X.K r o) (hk : behindInMarks op b = false) (ha : GE X T W a f) (hb : GE X T W b g) : GT X T W (.Compare a [op] [b] pos) (asB (op2 o f g)) :=
  PT.weak (pt_cmpR ho ha hb hk) fun σ H Q h => by
    have z := asB_ok (X := X) σ H Q h
    exact op2_ok hm σ H _ z
end
end FL


set_option Elab.async false
set_option maxRecDepth 100000
set_option maxHeartbeats 4000000
namespace FL
open PySem PySem.Spec PyProof.Rows L2

/-! ### + -/
def oAdd : PyData → PyData → Option Ev
  | .int i, .int j => some (.sh (.int (i + j)))
  | .str x, .str y => if x.length + y.length ≤ sizeLine then some (.sh (.str (x ++ y))) else none
  | .list a, .list b => if a.length + b.length ≤ sizeLine then some (.ow (a ++ b)) else none
  | .tuple a, .tuple b => if a.length + b.length ≤ sizeLine then some (.sh (.tuple (a ++ b))) else none
  | _, _ => none
def rCatS (K : PySem.W.Frag) : R2 := fun x y H Q => ∃ l b xs zs, x = .ref l ∧ y = .ref b ∧ SqL K H l xs ∧ SqL K H b zs ∧ xs.length + zs.length ≤ sizeLine ∧ ∀ p, H p = none → Q (.ref p) (upd H p (.lst (xs ++ zs)))
section
variable {X : Cx}
theorem op_catS : OpR X (binaryOp .Add) (rCatS X.K) := by
  intro pins s σ H x y v u Q I rx ry h
  obtain ⟨l, b, xs, zs, rfl, rfl, hl, hb, hz, q⟩ := h
  cases rx
  cases ry
  obtain ⟨its, r1, ⟨⟨cls, dd, data, sl⟩, n, ho, hc, hd, hdt⟩, _⟩ := I.list hl
  obtain ⟨its2, r2, ⟨⟨cls2, dd2, data2, sl2⟩, n2, ho2, hc2, hd2, hdt2⟩, _⟩ := I.list hb
  simp only at hc hd hdt hc2 hd2 hdt2
  subst hc hd hdt hc2 hd2 hdt2
  have hsz : its.toArray.size + its2.toArray.size ≤ sizeLine := by rw [List.size_toArray, List.size_toArray, ← r1.length, ← r2.length]; exact hz
  refine concat_meets ⟨_, ho, rfl⟩ ⟨_, ho2, rfl⟩ noFill_list_add seq_list_add PySem.F.slot_list_add PySem.F.entry_list_add (PySem.F.args_list_add_2 _ _) (list_addW l b its.toArray its2.toArray n n2 none none sl sl2 hsz) ⟨ho, ho2, ?_⟩
  have ea : its.toArray ++ its2.toArray = (its ++ its2).toArray := by simp
  rw [ea]
  show EP X pins σ Q (.ref s.heap.objs.size) _
  exact ⟨.ref _, _, I.lnew (t' := s.toks) (r1.append r2) (by rw [List.length_append]; omega), rfl, q _ I.fresh⟩
abbrev rAddA (K : PySem.W.Frag) : R2 := fun x y H Q => (rI0 fun i j => .int (i + j)) x y H Q ∨ ((fun x y H Q => ∃ i j, x = .str i ∧ y = .str j ∧ i.length + j.length ≤ sizeLine ∧ Q (.str (i ++ j)) H) x y H Q ∨ (rCatS K x y H Q ∨ rCatA K x y H Q))
theorem op_addA : OpR X (binaryOp .Add) (rAddA X.K) := OpR.or op_add (OpR.or op_add_str (OpR.or op_catS op_catA))
theorem RvOK.tup {K : PySem.W.Frag} {F : FS} {H : Hp} {p : Addr} {xs : List V} {ds : List PyData} (n : H p = none) (h : RtAll K F H xs ds) : RvOK K F H (upd H p (.tup xs)) (.ref p) (.sh (.tuple ds)) :=
  Rt.tup (SqT.of upd_same) (h.ext (Grow.upd n).ext)
theorem RvOK.lst {K : PySem.W.Frag} {F : FS} {H : Hp} {p : Addr} {xs : List V} {ds : List PyData} (n : H p = none) (h : RtAll K F H xs ds) : RvOK K F H (upd H p (.lst xs)) (.ref p) (.ow ds) :=
  ⟨p, xs, rfl, n, upd_same, h.ext (Grow.upd n).ext⟩
theorem RtAll.nil_of {K : PySem.W.Frag} {F : FS} {H : Hp} {ds : List PyData} (h : RtAll K F H [] ds) : ds = [] := by cases h; rfl
theorem opm_add {K : PySem.W.Frag} : OpM K (rAddA K) oAdd := by
  intro F H v1 v2 d1 d2 e Q c1 c2 q k
  cases d1 <;> cases d2 <;> first | (cases q; done) | skip
  case int.int i j =>
    cases q
    exact .inl ⟨i, j, c1.int, c2.int, k _ H (.refl H) (.int _)⟩
  case str.str i j =>
    simp only [oAdd] at q
    split at q
    · cases q
      exact .inr (.inl ⟨i, j, c1.str, c2.str, by assumption, k _ H (.refl H) (.str _)⟩)
    · cases q
  case list.list i j =>
    simp only [oAdd] at q
    split at q
    · cases q
      rename_i hz
      obtain ⟨a, xs, rfl, h1, r1⟩ := c1.list
      obtain ⟨b, ys, rfl, h2, r2⟩ := c2.list
      exact .inr (.inr (.inl ⟨a, b, xs, ys, rfl, rfl, h1, h2, by rw [r1.length, r2.length]; exact hz, fun p hp => k _ _ (.upd hp) (.lst hp (r1.append r2))⟩))
    · cases q
  case tuple.tuple i j =>
    simp only [oAdd] at q
    split at q
    · cases q
      rename_i hz
      obtain ⟨a, xs, rfl, h1, r1⟩ := c1.tuple
      obtain ⟨b, ys, rfl, h2, r2⟩ := c2.tuple
      refine .inr (.inr (.inr ⟨a, b, xs, ys, rfl, rfl, h1, h2, by rw [r1.length, r2.length]; exact hz, fun e => ?_, fun _ e => ?_, fun _ _ p hp => k _ _ (.upd hp) (.tup hp (r1.append r2))⟩))
      · subst e
        have z := r1.nil_of
        subst z
        exact k _ H (.refl H) (Rt.tup h2 r2)
      · subst e
        have z := r2.nil_of
        subst z
        rw [List.append_nil] at k
        exact k _ H (.refl H) (Rt.tup h1 r1)
    · cases q

/-! ### ints -/
def oSub : PyData → PyData → Option Ev
  | .int i, .int j => some (.sh (.int (i - j)))
  | _, _ => none
theorem opm_sub {K : PySem.W.Frag} : OpM K (rI0 fun i j => .int (i - j)) oSub := by
  intro F H v1 v2 d1 d2 e Q c1 c2 q k
  cases d1 <;> cases d2 <;> first | (cases q; done) | skip
  cases q
  exact ⟨_, _, c1.int, c2.int, k _ H (.refl H) (.int _)⟩
instance (i j : Int) : Decidable (CMul i j) := inferInstanceAs (Decidable (_ ∨ _))
instance (i j : Int) : Decidable (CMulW i j) := inferInstanceAs (Decidable (_ < _))
instance (i j : Int) : Decidable (CDivW i j) := inferInstanceAs (Decidable (_ ∧ _))
instance (i j : Int) : Decidable (CDivN i j) := inferInstanceAs (Decidable (_ ∧ _))
instance (i j : Int) : Decidable (CPow i j) := inferInstanceAs (Decidable (_ ∧ _))
/-- the factors are not too great -/
def smallB (i : Int) (n : Nat) : Bool := Nat.ble (i.natAbs + 1) n
theorem smallB_iff {i : Int} {n : Nat} : smallB i n = true ↔ i.natAbs < n := by
  unfold smallB
  rw [Nat.ble_eq]
  exact Iff.rfl
def mulB (i j : Int) : Bool := smallB i 18446744073709551616 || (smallB j 18446744073709551616 || Nat.ble (i.natAbs.log2 + j.natAbs.log2 + 1) 1000000)
def MulFits (i j : Int) : Prop := mulB i j = true
instance (i j : Int) : Decidable (MulFits i j) := inferInstanceAs (Decidable (_ = _))
theorem MulFits.or {i j : Int} (h : MulFits i j) : CMul i j ∨ CMulW i j := by
  have h : (smallB i 18446744073709551616 || (smallB j 18446744073709551616 || Nat.ble (i.natAbs.log2 + j.natAbs.log2 + 1) 1000000)) = true := h
  simp only [Bool.or_eq_true, smallB_iff, Nat.ble_eq] at h
  rcases h with h | h | h
  · exact .inl (.inl ⟨by omega, by omega⟩)
  · exact .inl (.inr ⟨by omega, by omega⟩)
  · exact .inr h
theorem MulFits.left {i j : Int} (h : i.natAbs < 18446744073709551616) : MulFits i j := by
  show (_ || _) = true
  rw [smallB_iff.mpr h]
  rfl
theorem MulFits.right {i j : Int} (h : j.natAbs < 18446744073709551616) : MulFits i j := by
  show (_ || (_ || _)) = true
  rw [smallB_iff.mpr h, Bool.true_or, Bool.or_true]
theorem MulFits.wide {i j : Int} (h : i.natAbs.log2 + j.natAbs.log2 < 1000000) : MulFits i j := by
  show (_ || (_ || _)) = true
  rw [(Nat.ble_eq (x := i.natAbs.log2 + j.natAbs.log2 + 1) (y := 1000000)).mpr h, Bool.or_true, Bool.or_true]
def rMulS (K : PySem.W.Frag) : R2 := fun x y H Q => ∃ l k xs, x = .ref l ∧ y = .int k ∧ H l = some (.lst xs) ∧ -(2 ^ 63) ≤ k ∧ k < 2 ^ 63 ∧ xs.length * k.toNat ≤ sizeLine ∧
  ∀ p, H p = none → Q (.ref p) (upd H p (.lst (List.replicate k.toNat xs).flatten))
def repD (k : Int) (ds : List PyData) : List PyData := (List.replicate k.toNat ds).flatten
theorem RtAll.rep {K : PySem.W.Frag} {F : FS} {H : Hp} {vs : List V} {ds : List PyData} (h : RtAll K F H vs ds) : ∀ k : Nat, RtAll K F H (List.replicate k vs).flatten (List.replicate k ds).flatten
  | 0 => .nil
  | k + 1 => by
    rw [List.replicate_succ, List.replicate_succ, List.flatten_cons, List.flatten_cons]
    exact h.append (RtAll.rep h k)
/-- .. of a list: one of one's own, or a new one (a frozen one has no rule here) -/
def oMul : PyData → PyData → Option Ev
  | .int i, .int j => if MulFits i j then some (.sh (.int (i * j))) else none
  | _, _ => none
abbrev rMulA : R2 := fun x y H Q => (rI CMul fun i j => .int (i * j)) x y H Q ∨ (rI CMulW fun i j => .int (i * j)) x y H Q
theorem op_mulA : OpR X (binaryOp .Mult) rMulA := OpR.or op_mul op_mulW
theorem opm_mul {K : PySem.W.Frag} : OpM K rMulA oMul := by
  intro F H v1 v2 d1 d2 e Q c1 c2 q k
  cases d1 <;> cases d2 <;> first | (cases q; done) | skip
  simp only [oMul] at q
  split at q
  · rename_i i j h
    cases q
    rcases h.or with h | h
    · exact .inl ⟨_, _, c1.int, c2.int, h, k _ H (.refl H) (.int _)⟩
    · exact .inr ⟨_, _, c1.int, c2.int, h, k _ H (.refl H) (.int _)⟩
  · cases q
/-- the rounded quotient; of a divisor above 0 it is Lean's own -/
def fdv (i j : Int) : Int := if 0 < j then i / j else i.fdiv j
def fmd (i j : Int) : Int := if 0 < j then i % j else i.fmod j
def divB (j : Int) : Bool := (Nat.ble 1 j.natAbs && Nat.ble (j.natAbs + 1) 1073741824) || (Nat.ble 1 j.toNat && Nat.ble (j.natAbs.log2 + 1) 9000)
def DivFits (_ j : Int) : Prop := divB j = true
instance (i j : Int) : Decidable (DivFits i j) := inferInstanceAs (Decidable (_ = _))
theorem DivFits.or {i j : Int} (h : DivFits i j) : CDivN i j ∨ CDivW i j := by
  have h : ((Nat.ble 1 j.natAbs && Nat.ble (j.natAbs + 1) 1073741824) || (Nat.ble 1 j.toNat && Nat.ble (j.natAbs.log2 + 1) 9000)) = true := h
  simp only [Bool.or_eq_true, Bool.and_eq_true, Nat.ble_eq] at h
  rcases h with ⟨h1, h2⟩ | ⟨h1, h2⟩
  · exact .inl ⟨by omega, h2⟩
  · exact .inr ⟨by omega, h2⟩
theorem DivFits.small {i j : Int} (h0 : j ≠ 0) (h : j.natAbs < 1073741824) : DivFits i j := by
  have h1 : Nat.ble 1 j.natAbs = true := by rw [Nat.ble_eq]; omega
  have h2 : Nat.ble (j.natAbs + 1) 1073741824 = true := by rw [Nat.ble_eq]; exact h
  show ((_ && _) || _) = true
  rw [h1, h2]
  rfl
theorem DivFits.wide {i j : Int} (h0 : 0 < j) (h : j.natAbs.log2 < 9000) : DivFits i j := by
  have h1 : Nat.ble 1 j.toNat = true := by rw [Nat.ble_eq]; omega
  have h2 : Nat.ble (j.natAbs.log2 + 1) 9000 = true := by rw [Nat.ble_eq]; exact h
  show ((_ && _) || (_ && _)) = true
  rw [h1, h2, Bool.and_self, Bool.or_true]
def oFdiv : PyData → PyData → Option Ev
  | .int i, .int j => if DivFits i j then some (.sh (.int (fdv i j))) else none
  | _, _ => none
abbrev rFdivA : R2 := fun x y H Q => (rI CDivN fun i j => .int (i.fdiv j)) x y H Q ∨ (rI CDivW fun i j => .int (i / j)) x y H Q
theorem op_fdivA : OpR X (binaryOp .FloorDiv) rFdivA := OpR.or op_fdivN op_fdivW
theorem fdv_fdiv (i j : Int) : fdv i j = i.fdiv j := by
  unfold fdv
  split
  · exact (Int.fdiv_eq_ediv_of_nonneg i (by omega)).symm
  · rfl
theorem fmd_fmod (i j : Int) : fmd i j = i.fmod j := by
  unfold fmd
  split
  · exact (Int.fmod_eq_emod_of_nonneg i (by omega)).symm
  · rfl
theorem opm_fdiv {K : PySem.W.Frag} : OpM K rFdivA oFdiv := by
  intro F H v1 v2 d1 d2 e Q c1 c2 q k
  cases d1 <;> cases d2 <;> first | (cases q; done) | skip
  simp only [oFdiv] at q
  split at q
  · rename_i i j h
    cases q
    rcases h.or with h | h
    · exact .inl ⟨_, _, c1.int, c2.int, h, k _ H (.refl H) (by rw [fdv_fdiv]; exact .int _)⟩
    · refine .inr ⟨_, _, c1.int, c2.int, h, k _ H (.refl H) ?_⟩
      have e : fdv i j = i / j := if_pos h.1
      rw [e]
      exact .int _
  · cases q
def oMod : PyData → PyData → Option Ev
  | .int i, .int j => if j ≠ 0 then some (.sh (.int (fmd i j))) else none
  | _, _ => none
theorem opm_mod {K : PySem.W.Frag} : OpM K (rI (fun _ j => j ≠ 0) fun i j => .int (i.fmod j)) oMod := by
  intro F H v1 v2 d1 d2 e Q c1 c2 q k
  cases d1 <;> cases d2 <;> first | (cases q; done) | skip
  simp only [oMod] at q
  split at q
  · rename_i i j h
    cases q
    exact ⟨_, _, c1.int, c2.int, h, k _ H (.refl H) (by rw [fmd_fmod]; exact .int _)⟩
  · cases q
def oPow : PyData → PyData → Option Ev
  | .int i, .int j => if CPow i j then some (.sh (.int (i ^ j.toNat))) else none
  | _, _ => none
theorem opm_pow {K : PySem.W.Frag} : OpM K (rI CPow fun i j => .int (i ^ j.toNat)) oPow := by
  intro F H v1 v2 d1 d2 e Q c1 c2 q k
  cases d1 <;> cases d2 <;> first | (cases q; done) | skip
  simp only [oPow] at q
  split at q
  · rename_i i j h
    cases q
    exact ⟨_, _, c1.int, c2.int, h, k _ H (.refl H) (.int _)⟩
  · cases q
/-- comparisons of ints -/
def oCmp (p : Int → Int → Bool) : PyData → PyData → Option Ev
  | .int i, .int j => some (.sh (.bool (p i j)))
  | _, _ => none
theorem opm_cmp {K : PySem.W.Frag} (p : Int → Int → Bool) : OpM K (rI0 fun i j => .bl (p i j)) (oCmp p) := by
  intro F H v1 v2 d1 d2 e Q c1 c2 q k
  cases d1 <;> cases d2 <;> first | (cases q; done) | skip
  cases q
  exact ⟨_, _, c1.int, c2.int, k _ H (.refl H) (.bl _)⟩
abbrev oLt := oCmp fun i j => decide (i < j)
abbrev oLe := oCmp fun i j => decide (i ≤ j)
abbrev oGt := oCmp fun i j => decide (j < i)
abbrev oGe := oCmp fun i j => decide (j ≤ i)
/-! ### ==, in, is -/
def oEq (x y : PyData) : Option Ev := if SeqAt.shaped x = true ∧ SeqAt.shaped y = true then some (.sh (.bool (PyData.eqv x y))) else none
def oNe (x y : PyData) : Option Ev := if SeqAt.shaped x = true ∧ SeqAt.shaped y = true then some (.sh (.bool (!PyData.eqv x y))) else none
theorem opm_eq {K : PySem.W.Frag} : OpM K (rEqD K) oEq := by
  intro F H v1 v2 d1 d2 e Q c1 c2 q k
  unfold oEq at q
  split at q
  · rename_i h
    cases q
    exact ⟨d1, d2, c1.dp, c2.dp, h.1, h.2, k _ H (.refl H) (.bl _)⟩
  · cases q
theorem opm_ne {K : PySem.W.Frag} : OpM K (rNeD K) oNe := by
  intro F H v1 v2 d1 d2 e Q c1 c2 q k
  unfold oNe at q
  split at q
  · rename_i h
    cases q
    exact ⟨d1, d2, c1.dp, c2.dp, h.1, h.2, k _ H (.refl H) (.bl _)⟩
  · cases q
def oIsN (x y : PyData) : Option Ev := match y with
  | .none => some (.sh (.bool (isNoneD x)))
  | _ => none
def oNotN (x y : PyData) : Option Ev := match y with
  | .none => some (.sh (.bool (!isNoneD x)))
  | _ => none
theorem opm_isN {K : PySem.W.Frag} : OpM K (fun x y H Q => y = .non ∧ Q (.bl (decide (x = .non))) H) oIsN := by
  intro F H v1 v2 d1 d2 e Q c1 c2 q k
  cases d2 <;> first | (cases q; done) | skip
  cases q
  exact ⟨c2.none, by rw [c1.isN]; exact k _ H (.refl H) (.bl _)⟩
theorem opm_notN {K : PySem.W.Frag} : OpM K (fun x y H Q => y = .non ∧ Q (.bl (!decide (x = .non))) H) oNotN := by
  intro F H v1 v2 d1 d2 e Q c1 c2 q k
  cases d2 <;> first | (cases q; done) | skip
  cases q
  exact ⟨c2.none, by rw [c1.isN]; exact k _ H (.refl H) (.bl _)⟩
/-- a plain thing: None, a truth, a number, a text -/
def flatD : PyData → Bool
  | .none => true
  | .bool _ => true
  | .int _ => true
  | .str _ => true
  | _ => false
theorem Rt.flat {K : PySem.W.Frag} {F : FS} {H : Hp} {v : V} {d : PyData} (h : Rt K F H v d) : flatV v = flatD d := by cases h <;> rfl
theorem RtAll.flat {K : PySem.W.Frag} {F : FS} {H : Hp} : ∀ {vs : List V} {ds : List PyData}, RtAll K F H vs ds → vs.all flatV = ds.all flatD
  | _, _, .nil => rfl
  | _, _, .cons h t => by rw [List.all_cons, List.all_cons, h.flat, RtAll.flat t]
theorem Cn.flat {K : PySem.W.Frag} {F : FS} {H : Hp} {v : V} {d : PyData} (h : Cn K F H v d) (q : flatD d = true) : Rt K F H v d := by
  rcases h with h | ⟨a, ds, _, e, _⟩
  · exact h
  · rw [e] at q
    cases q
theorem eqV_eqv {K : PySem.W.Frag} {F : FS} {H : Hp} {v w : V} {d e : PyData} (h : Rt K F H v d) (h' : Rt K F H w e) (f : flatD d = true) (f' : flatD e = true) : eqV v w = PyData.eqv d e := by
  cases h <;> first | (cases f; done) | skip
  all_goals cases h' <;> first | (cases f'; done) | skip
  all_goals simp [eqV, PyData.eqv]
theorem any_eqv {K : PySem.W.Frag} {F : FS} {H : Hp} {v : V} {d : PyData} (h : Rt K F H v d) (f : flatD d = true) : ∀ {ws : List V} {es : List PyData}, RtAll K F H ws es → es.all flatD = true → inV v ws = es.any fun e => PyData.eqv e d
  | _, _, .nil, _ => rfl
  | _, _, .cons h1 t, g => by
    rw [List.all_cons, Bool.and_eq_true] at g
    have ih := any_eqv h f t g.2
    unfold inV at ih ⊢
    rw [List.any_cons, List.any_cons, ih]
    first | rw [eqV_eqv h1 h g.1 f] | rw [eqV_eqv h h1 f g.1]
end
end FL


set_option Elab.async false
set_option maxRecDepth 100000
set_option maxHeartbeats 4000000
namespace FL
open PySem PySem.Spec PyProof.Rows L2

/-! ### in -/
def oIn (neg : Bool) (x y : PyData) : Option Ev := match y with
  | .list ds => if SeqAt.shaped x = true ∧ SeqAt.shaped (.list ds) = true then some (.sh (.bool (if neg then !(ds.any fun z => PyData.eqv z x) else ds.any fun z => PyData.eqv z x))) else none
  | .tuple ds => if flatD x = true ∧ ds.all flatD = true then some (.sh (.bool (if neg then !(ds.any fun z => PyData.eqv z x) else ds.any fun z => PyData.eqv z x))) else none
  | _ => none
section
variable {X : Cx}
abbrev rInA (K : PySem.W.Frag) : R2 := fun x y H Q => rInD K x y H Q ∨ rIn K false x y H Q
abbrev rNotInA (K : PySem.W.Frag) : R2 := fun x y H Q => rNotInD K x y H Q ∨ rIn K true x y H Q
theorem op_inA (hu : X.A.units + 65 < cLine) : OpR X (compareOp .In) (rInA X.K) := OpR.or (op_inD hu) op_in_seq
theorem op_notInA (hu : X.A.units + 65 < cLine) : OpR X (compareOp .NotIn) (rNotInA X.K) := OpR.or (op_notInD hu) op_notIn_seq
theorem opm_in {K : PySem.W.Frag} : OpM K (rInA K) (oIn false) := by
  intro F H v1 v2 d1 d2 e Q c1 c2 q k
  cases d2 <;> first | (cases q; done) | skip
  case list ds =>
    simp only [oIn] at q
    split at q
    · rename_i h
      cases q
      exact .inl ⟨d1, ds, c1.dp, c2.dp, h.1, h.2, k _ H (.refl H) (.bl _)⟩
    · cases q
  case tuple ds =>
    simp only [oIn] at q
    split at q
    · rename_i h
      cases q
      obtain ⟨a, xs, rfl, h1, r1⟩ := c2.tuple
      have f1 := c1.flat h.1
      refine .inr ⟨a, xs, rfl, .inr h1, by rw [f1.flat]; exact h.1, by rw [r1.flat]; exact h.2, ?_⟩
      rw [any_eqv f1 h.1 r1 h.2]
      exact k _ H (.refl H) (.bl _)
    · cases q
theorem opm_notIn {K : PySem.W.Frag} : OpM K (rNotInA K) (oIn true) := by
  intro F H v1 v2 d1 d2 e Q c1 c2 q k
  cases d2 <;> first | (cases q; done) | skip
  case list ds =>
    simp only [oIn] at q
    split at q
    · rename_i h
      cases q
      exact .inl ⟨d1, ds, c1.dp, c2.dp, h.1, h.2, k _ H (.refl H) (.bl _)⟩
    · cases q
  case tuple ds =>
    simp only [oIn] at q
    split at q
    · rename_i h
      cases q
      obtain ⟨a, xs, rfl, h1, r1⟩ := c2.tuple
      have f1 := c1.flat h.1
      refine .inr ⟨a, xs, rfl, .inr h1, by rw [f1.flat]; exact h.1, by rw [r1.flat]; exact h.2, ?_⟩
      rw [any_eqv f1 h.1 r1 h.2]
      exact k _ H (.refl H) (.bl _)
    · cases q
end

section
variable {X : Cx} {T : ThP} {W : WX} {e a b c : Expr} {rest : List Expr} {pos : Pos}
/-! ### -, not, and, or, if -/
def negM (x : Ev) : Fr → Rs Ev := fun fr => match rd fr x with
  | some (.int i) => .ok (.sh (.int (-i))) fr
  | _ => .st
theorem ge_neg {f : Fr → Rs Ev} (h : GE X T W a f) : GE X T W (.UnaryOp .USub a pos) (bnd f negM) := by
  refine PE.weak (pe_un un_neg h) fun σ H Q ⟨F, fr, r, A, q⟩ => ?_
  refine ⟨F, fr, r, A, (use_ok q).mono fun v1 H1 ⟨x, F1, fr1, r1, A1, o1, s1, h1⟩ => ?_⟩
  unfold negM at h1
  cases e1 : rd fr1 x with
  | none => rw [e1] at h1; exact h1.elim
  | some d =>
    rw [e1] at h1
    cases d <;> first | (exact h1.elim) | skip
    exact ⟨_, (rd_cn A1 o1.1 e1).int, (h1.rebase s1 (okE.back s1)).op A1 (.refl H1) (.int _)⟩
def notB (f : Fr → Rs Bool) : Fr → Rs Bool := bnd f fun b => ret (!b)
theorem gt_not {f : Fr → Rs Bool} (h : GT X T W a f) : GT X T W (.UnaryOp .Not a pos) (notB f) := by
  refine PT.weak (pt_not h) fun σ H Q ⟨F, fr, r, A, q⟩ => ?_
  refine ⟨F, fr, r, A, (use_ok q).mono fun v1 H1 ⟨x, F1, fr1, r1, A1, o1, s1, h1⟩ => ?_⟩
  obtain rfl : v1 = x := o1
  exact h1 _ F1 H1 r1 A1 rfl s1
def andB (f g : Fr → Rs Bool) : Fr → Rs Bool := bnd f fun b => if b = true then g else ret false
def orB (f g : Fr → Rs Bool) : Fr → Rs Bool := bnd f fun b => if b = true then ret true else g
theorem gw_and1 {f : Fr → Rs Bool} (h : GT X T W a f) : GW X T W (.BoolOp .And [a] pos) f := pw_and1 h
theorem gw_or1 {f : Fr → Rs Bool} (h : GT X T W a f) : GW X T W (.BoolOp .Or [a] pos) f := pw_or1 h
theorem gw_and {f g : Fr → Rs Bool} (h : GT X T W a f) (h2 : GW X T W (.BoolOp .And (b :: rest) pos) g) : GW X T W (.BoolOp .And (a :: b :: rest) pos) (andB f g) := by
  refine PW.weak (pw_and h h2) fun σ H Q ⟨F, fr, r, A, q⟩ => ?_
  refine ⟨F, fr, r, A, (use_ok q).mono fun v1 H1 ⟨x, F1, fr1, r1, A1, o1, s1, h1⟩ => ?_⟩
  obtain rfl : v1 = x := o1
  cases v1 with
  | true => exact ⟨F1, fr1, r1, A1, h1.rebase s1 (okB.back s1)⟩
  | false => exact h1 _ F1 H1 r1 A1 rfl s1
theorem gw_or {f g : Fr → Rs Bool} (h : GT X T W a f) (h2 : GW X T W (.BoolOp .Or (b :: rest) pos) g) : GW X T W (.BoolOp .Or (a :: b :: rest) pos) (orB f g) := by
  refine PW.weak (pw_or h h2) fun σ H Q ⟨F, fr, r, A, q⟩ => ?_
  refine ⟨F, fr, r, A, (use_ok q).mono fun v1 H1 ⟨x, F1, fr1, r1, A1, o1, s1, h1⟩ => ?_⟩
  obtain rfl : v1 = x := o1
  cases v1 with
  | false => exact ⟨F1, fr1, r1, A1, h1.rebase s1 (okB.back s1)⟩
  | true => exact h1 _ F1 H1 r1 A1 rfl s1
/-- as values, all but the last a truth -/
def andV (f g : Fr → Rs Ev) : Fr → Rs Ev := bnd f fun x fr => match rd fr x with
  | some (.bool true) => g fr
  | some (.bool false) => .ok (.sh (.bool false)) fr
  | _ => .st
def orV (f g : Fr → Rs Ev) : Fr → Rs Ev := bnd f fun x fr => match rd fr x with
  | some (.bool false) => g fr
  | some (.bool true) => .ok (.sh (.bool true)) fr
  | _ => .st
theorem ge_one {op} {f : Fr → Rs Ev} (h : GE X T W a f) : GE X T W (.BoolOp op [a] pos) f := pe_one h
theorem ge_and {f g : Fr → Rs Ev} (h : GE X T W a f) (h2 : GE X T W (.BoolOp .And (b :: rest) pos) g) : GE X T W (.BoolOp .And (a :: b :: rest) pos) (andV f g) := by
  refine PE.weak (pe_and h h2) fun σ H Q ⟨F, fr, r, A, q⟩ => ?_
  refine ⟨F, fr, r, A, (use_ok q).mono fun v1 H1 ⟨x, F1, fr1, r1, A1, o1, s1, h1⟩ => ?_⟩
  cases e1 : rd fr1 x with
  | none => rw [e1] at h1; exact h1.elim
  | some d =>
    rw [e1] at h1
    cases d <;> first | (exact h1.elim) | skip
    rename_i d
    refine ⟨d, (rd_cn A1 o1.1 e1).bool, ?_⟩
    cases d with
    | true => exact ⟨F1, fr1, r1, A1, h1.rebase s1 (okE.back s1)⟩
    | false => exact (h1.rebase s1 (okE.back s1)).op A1 (.refl H1) (.bl _)
theorem ge_or {f g : Fr → Rs Ev} (h : GE X T W a f) (h2 : GE X T W (.BoolOp .Or (b :: rest) pos) g) : GE X T W (.BoolOp .Or (a :: b :: rest) pos) (orV f g) := by
  refine PE.weak (pe_or h h2) fun σ H Q ⟨F, fr, r, A, q⟩ => ?_
  refine ⟨F, fr, r, A, (use_ok q).mono fun v1 H1 ⟨x, F1, fr1, r1, A1, o1, s1, h1⟩ => ?_⟩
  cases e1 : rd fr1 x with
  | none => rw [e1] at h1; exact h1.elim
  | some d =>
    rw [e1] at h1
    cases d <;> first | (exact h1.elim) | skip
    rename_i d
    refine ⟨d, (rd_cn A1 o1.1 e1).bool, ?_⟩
    cases d with
    | false => exact ⟨F1, fr1, r1, A1, h1.rebase s1 (okE.back s1)⟩
    | true => exact (h1.rebase s1 (okE.back s1)).op A1 (.refl H1) (.bl _)
def notV (f : Fr → Rs Ev) : Fr → Rs Ev := bnd f fun x fr => match rd fr x with
  | some (.bool b) => .ok (.sh (.bool (!b))) fr
  | _ => .st
theorem ge_not {f : Fr → Rs Ev} (h : GE X T W a f) : GE X T W (.UnaryOp .Not a pos) (notV f) := by
  refine PE.weak (pe_not h) fun σ H Q ⟨F, fr, r, A, q⟩ => ?_
  refine ⟨F, fr, r, A, (use_ok q).mono fun v1 H1 ⟨x, F1, fr1, r1, A1, o1, s1, h1⟩ => ?_⟩
  cases e1 : rd fr1 x with
  | none => rw [e1] at h1; exact h1.elim
  | some d =>
    rw [e1] at h1
    cases d <;> first | (exact h1.elim) | skip
    rename_i d
    exact ⟨d, (rd_cn A1 o1.1 e1).bool, (h1.rebase s1 (okE.back s1)).op A1 (.refl H1) (.bl _)⟩
def iteE {α : Type} (c : Fr → Rs Bool) (f g : Fr → Rs α) : Fr → Rs α := bnd c fun b => if b = true then f else g
theorem ge_if {f : Fr → Rs Bool} {g h : Fr → Rs Ev} (hc : GT X T W c f) (ha : GE X T W a g) (hb : GE X T W b h) : GE X T W (.IfExp c a b pos) (iteE f g h) := by
  refine PE.weak (pe_ifExp hc ha hb) fun σ H Q ⟨F, fr, r, A, q⟩ => ?_
  refine ⟨F, fr, r, A, (use_ok q).mono fun v1 H1 ⟨x, F1, fr1, r1, A1, o1, s1, h1⟩ => ?_⟩
  obtain rfl : v1 = x := o1
  cases v1 with
  | true => exact ⟨F1, fr1, r1, A1, h1.rebase s1 (okE.back s1)⟩
  | false => exact ⟨F1, fr1, r1, A1, h1.rebase s1 (okE.back s1)⟩
/-- a < b < c -/
def chainM (o o' : PyData → PyData → Option Ev) (f g h : Fr → Rs Ev) : Fr → Rs Ev := bnd f fun x => bnd g fun y => bnd (opM o x y) fun z fr => match z with
  | .sh (.bool true) => (bnd h fun w => opM o' y w) fr
  | .sh (.bool false) => .ok (.sh (.bool false)) fr
  | _ => .st
theorem chain_ok {r r' : R2} {o o' : PyData → PyData → Option Ev} {f g h : Fr → Rs Ev} (hm : OpM X.K r o) (hm' : OpM X.K r' o') (hp : ∀ x y z, o x y = some z → ∃ b, z = .sh (.bool b)) (σ : L2.St) (H : Hp) (Q : VK)
    (q : tE X.K X.mg T W (chainM o o' f g h) σ H Q) : tChain r r' (tE X.K X.mg T W f) (tE X.K X.mg T W g) (tE X.K X.mg T W h) σ H Q := by
  obtain ⟨F, fr, r0, A, q⟩ := q
  refine ⟨F, fr, r0, A, (use_ok q).mono fun v1 H1 ⟨x, F1, fr1, r1, A1, o1, s1, h1⟩ => ?_⟩
  refine ⟨F1, fr1, r1, A1, (use_ok (h1.rebase s1 (okE.back s1))).mono fun v2 H2 ⟨y, F2, fr2, r2, A2, o2, s2, h2⟩ => ?_⟩
  have o1' := o1.1.step s2 A1
  unfold bnd opM at h2
  cases e1 : rd fr2 x with
  | none => simp only [e1] at h2; exact h2.elim
  | some d1 =>
    cases e2 : rd fr2 y with
    | none => simp only [e1, e2] at h2; exact h2.elim
    | some d2 =>
      simp only [e1, e2] at h2
      cases e3 : o d1 d2 with
      | none => simp only [e3] at h2; exact h2.elim
      | some z =>
        simp only [e3] at h2
        obtain ⟨b, rfl⟩ := hp _ _ _ e3
        refine hm F2 H2 v1 v2 d1 d2 _ _ (rd_cn A2 o1' e1) (rd_cn A2 o2.1 e2) e3 fun v H' gr hv => ?_
        cases hv
        refine ⟨b, rfl, ?_⟩
        have h3 := h2.rebase s2 (okE.back s2)
        cases b with
        | false => exact (h3.op A2 gr (.bl _))
        | true =>
          rw [if_pos rfl]
          refine ⟨F2, fr2, r2, A2.grow gr, ?_⟩
          have s3 : Step F2 H2 fr2 r2 F2 H' fr2 r2 := Step.grow gr
          refine (use_ok (h3.rebase s3 (okE.back s3))).mono fun v3 H4 ⟨w, F4, fr4, r4, A4, o4, s4, h4⟩ => ?_
          have o2' := (o2.1.step s3 A2).step s4 (A2.grow gr)
          cases e4 : rd fr4 y with
          | none => simp only [e4] at h4; exact h4.elim
          | some d4 =>
            cases e5 : rd fr4 w with
            | none => simp only [e4, e5] at h4; exact h4.elim
            | some d5 =>
              simp only [e4, e5] at h4
              cases e6 : o' d4 d5 with
              | none => simp only [e6] at h4; exact h4.elim
              | some ev =>
                simp only [e6] at h4
                exact hm' F4 H4 v2 v3 d4 d5 ev Q (rd_cn A4 o2' e4) (rd_cn A4 o4.1 e5) e6 fun v H' g hv => (h4.rebase s4 (okE.back s4)).op A4 g hv
theorem oCmp_bool {p : Int → Int → Bool} : ∀ x y z, oCmp p x y = some z → ∃ b, z = .sh (.bool b) := by
  intro x y z h
  cases x <;> cases y <;> first | (cases h; done) | skip
  cases h
  exact ⟨_, rfl⟩
theorem ge_chain {op op' : CmpOp} {r r' : R2} {o o' : PyData → PyData → Option Ev} {f g h : Fr → Rs Ev} (ho : OpR X (compareOp op) r) (ho' : OpR X (compareOp op') r') (hm : OpM X.K r o) (hm' : OpM X.K r' o') (hp : ∀ x y z, o x y = some z → ∃ b, z = .sh (.bool b))
    (ha : GE X T W a f) (hb : GE X T W b g) (hc : GE X T W c h) (hl : lastMarks [op, op'] [b, c] = false := by with_unfolding_all rfl) : GE X T W (.Compare a [op, op'] [b, c] pos) (chainM o o' f g h) :=
  PE.weak (pe_chain ho ho' ha hb hc hl) (chain_ok hm hm' hp)
theorem gt_chain {op op' : CmpOp} {r r' : R2} {o o' : PyData → PyData → Option Ev} {f g h : Fr → Rs Ev} (ho : OpR X (compareOp op) r) (ho' : OpR X (compareOp op') r') (hm : OpM X.K r o) (hm' : OpM X.K r' o') (hp : ∀ x y z, o x y = some z → ∃ b, z = .sh (.bool b))
    (ha : GE X T W a f) (hb : GE X T W b g) (hc : GE X T W c h) (hl : lastMarks [op, op'] [b, c] = false := by with_unfolding_all rfl) : GT X T W (.Compare a [op, op'] [b, c] pos) (asB (chainM o o' f g h)) :=
  PT.weak (pt_chain ho ho' ha hb hc hl) fun σ H Q q => chain_ok hm hm' hp σ H _ (asB_ok (X := X) σ H Q q)

/-! ### displays -/
def okA (K : PySem.W.Frag) : OkT (List PyData) (List V) := fun F H _ _ _ vs ds => RtAll K F H vs ds
abbrev GA (X : Cx) (T : ThP) (W : WX) (es : List Expr) (f : Fr → Rs (List PyData)) : Prop := PA X es (tG X.K X.mg T (okA X.K) W f)
theorem okA.back {F F1 : FS} {H H1 : Hp} {fr fr1 : Fr} {r r1 : Ro} {σ : L2.St} {K : PySem.W.Frag} (s : Step F H fr r F1 H1 fr1 r1) : ∀ F' H' r' b a, okA K F' H' r' σ H1 b a → okA K F' H' r' σ H b a := fun _ _ _ _ _ o => o
/-- as data -/
def fzM (x : Ev) : Fr → Rs PyData := fun fr => match fz fr x with
  | some (d, fr') => .ok d fr'
  | none => .st
def argC (f : Fr → Rs Ev) (g : Fr → Rs (List PyData)) : Fr → Rs (List PyData) := bnd f fun x => bnd (fzM x) fun d => bnd g fun ds => ret (d :: ds)
theorem PA.weak {es : List Expr} {t t' : TA} (h : PA X es t) (i : ∀ σ H Q, t' σ H Q → t σ H Q) : PA X es t' := ⟨fun pos pins s σ H Q I q => h.run pos pins s σ H Q I (i σ H Q q)⟩
theorem ga_nil : GA X T W [] (ret []) := PA.weak pa_nil fun σ H Q ⟨F, fr, r, A, q⟩ => q [] F H r A .nil Step.refl
theorem ga_cons {es : List Expr} {f : Fr → Rs Ev} {g : Fr → Rs (List PyData)} (h : GE X T W e f) (h2 : GA X T W es g) (hs : starEach (e :: es) X.env = (false, eval e X.env) :: starEach es X.env := by rfl) : GA X T W (e :: es) (argC f g) := by
  refine PA.weak (pa_cons h h2 hs) fun σ H Q ⟨F, fr, r, A, q⟩ => ?_
  refine ⟨F, fr, r, A, (use_ok q).mono fun v1 H1 ⟨x, F1, fr1, r1, A1, o1, s1, h1⟩ => ?_⟩
  unfold bnd fzM at h1
  cases ez : fz fr1 x with
  | none => simp only [ez] at h1; exact h1.elim
  | some p =>
    obtain ⟨d, fr1'⟩ := p
    simp only [ez] at h1
    obtain ⟨F2, r2, A2, R2, s2⟩ := fz_step s1 A1 o1.1 o1.2 ez
    refine ⟨F2, fr1', r2, A2, ?_⟩
    have h2 : cont X.K X.mg T (okA X.K) W F H fr r σ Q ((bnd g fun ds => ret (d :: ds)) fr1') := h1
    refine (use_ok (h2.rebase s2 (okA.back s2))).mono fun vs H3 ⟨ds, F3, fr3, r3, A3, o3, s3, h3⟩ => ?_
    exact h3 (v1 :: vs) F3 H3 r3 A3 (.cons (R2.ext (s3.ext A2)) o3) s3
def tupE (f : Fr → Rs (List PyData)) : Fr → Rs Ev := bnd f fun ds fr => if ds.length ≤ sizeLine then .ok (.sh (.tuple ds)) fr else .st
def lstE (f : Fr → Rs (List PyData)) : Fr → Rs Ev := bnd f fun ds fr => if ds.length ≤ sizeLine then .ok (.ow ds) fr else .st
theorem ge_tup {es : List Expr} {x1} {f : Fr → Rs (List PyData)} (h : GA X T W es f) : GE X T W (.Tuple es x1 pos) (tupE f) := by
  refine PE.weak (pe_tup h) fun σ H Q ⟨F, fr, r, A, q⟩ => ?_
  refine ⟨F, fr, r, A, (use_ok q).mono fun vs H1 ⟨ds, F1, fr1, r1, A1, o1, s1, h1⟩ => ?_⟩
  split at h1
  · rename_i hz
    have o1 : RtAll X.K F1 H1 vs ds := o1
    exact ⟨by rw [o1.length]; exact hz, fun p hp => (h1.rebase s1 (okE.back s1)).op A1 (.upd hp) (.tup hp o1)⟩
  · exact h1.elim
theorem ge_lst {es : List Expr} {f : Fr → Rs (List PyData)} (h : GA X T W es f) : GE X T W (.List es pos) (lstE f) := by
  refine PE.weak (pe_lst h) fun σ H Q ⟨F, fr, r, A, q⟩ => ?_
  refine ⟨F, fr, r, A, (use_ok q).mono fun vs H1 ⟨ds, F1, fr1, r1, A1, o1, s1, h1⟩ => ?_⟩
  split at h1
  · rename_i hz
    have o1 : RtAll X.K F1 H1 vs ds := o1
    exact ⟨by rw [o1.length]; exact hz, fun p hp => (h1.rebase s1 (okE.back s1)).op A1 (.upd hp) (.lst hp o1)⟩
  · exact h1.elim

/-! ### subscripts -/
def oIx : PyData → PyData → Option Ev
  | .list ds, .int i => (atI ds i).map .sh
  | .tuple ds, .int i => (atI ds i).map .sh
  | .str z, .int i => if z.length ≤ sizeLine then (atI z.cps.toList i).map fun c => .sh (.str ⟨#[c]⟩) else none
  | _, _ => none
theorem RtAll.atI {K : PySem.W.Frag} {F : FS} {H : Hp} {vs : List V} {ds : List PyData} {i : Int} {d : PyData} (h : RtAll K F H vs ds) (e : L2.atI ds i = some d) : ∃ v, L2.atI vs i = some v ∧ Rt K F H v d := by
  unfold L2.atI at e ⊢
  rw [h.length]
  cases q : ixN ds.length i with
  | none => rw [q] at e; cases e
  | some j =>
    rw [q] at e
    exact h.get e
theorem opm_ix {K : PySem.W.Frag} : OpM K (rIx K) oIx := by
  intro F H v1 v2 d1 d2 e Q c1 c2 q k
  cases d1 <;> cases d2 <;> first | (cases q; done) | skip
  case list.int ds i =>
    simp only [oIx, Option.map_eq_some_iff] at q
    obtain ⟨d, q, rfl⟩ := q
    obtain ⟨a, xs, rfl, h1, r1⟩ := c1.list
    obtain ⟨v, e, r⟩ := r1.atI q
    exact .inl ⟨a, xs, i, v, rfl, c2.int, h1, e, k _ H (.refl H) r⟩
  case tuple.int ds i =>
    simp only [oIx, Option.map_eq_some_iff] at q
    obtain ⟨d, q, rfl⟩ := q
    obtain ⟨a, xs, rfl, h1, r1⟩ := c1.tuple
    obtain ⟨v, e, r⟩ := r1.atI q
    exact .inr (.inl ⟨a, xs, i, v, rfl, c2.int, h1, e, k _ H (.refl H) r⟩)
  case str.int z i =>
    simp only [oIx] at q
    split at q
    · simp only [Option.map_eq_some_iff] at q
      obtain ⟨d, q, rfl⟩ := q
      exact .inr (.inr ⟨z, i, d, c1.str, c2.int, by assumption, q, k _ H (.refl H) (.str _)⟩)
    · cases q
theorem ge_ix {f g : Fr → Rs Ev} (ha : GE X T W a f) (hb : GE X T W b g) (hs : PlainIx b := by exact fun _ _ => rfl) : GE X T W (.Subscript a b pos) (op2 oIx f g) := PE.weak (pe_ix ix_seq ha hb hs) (op2_ok opm_ix)
/-- an optional int -/
def okO : OkT (Option Int) (Option Int) := fun _ _ _ _ _ b a => b = a
theorem okO.back {F F1 : FS} {H H1 : Hp} {fr fr1 : Fr} {r r1 : Ro} {σ : L2.St} (s : Step F H fr r F1 H1 fr1 r1) : ∀ F' H' r' b a, okO F' H' r' σ H1 b a → okO F' H' r' σ H b a := fun _ _ _ _ _ o => o
abbrev GO (X : Cx) (T : ThP) (W : WX) (e : Option Expr) (f : Fr → Rs (Option Int)) : Prop := PO X e (tG X.K X.mg T okO W f)
theorem PO.weak {e : Option Expr} {t t' : TO} (h : PO X e t) (i : ∀ σ H Q, t' σ H Q → t σ H Q) : PO X e t' := ⟨fun pins s σ H Q I q => h.run pins s σ H Q I (i σ H Q q)⟩
theorem go_none : GO X T W none (ret none) := PO.weak po_none fun σ H Q ⟨F, fr, r, A, q⟩ => q none F H r A rfl Step.refl
def asI (f : Fr → Rs Ev) : Fr → Rs (Option Int) := bnd f fun x fr => match rd fr x with
  | some (.int i) => .ok (some i) fr
  | _ => .st
theorem go_some {f : Fr → Rs Ev} (h : GE X T W e f) : GO X T W (some e) (asI f) := by
  refine PO.weak (po_some h) fun σ H Q ⟨F, fr, r, A, q⟩ => ?_
  refine ⟨F, fr, r, A, (use_ok q).mono fun v1 H1 ⟨x, F1, fr1, r1, A1, o1, s1, h1⟩ => ?_⟩
  cases e1 : rd fr1 x with
  | none => simp only [e1] at h1; exact h1.elim
  | some d =>
    simp only [e1] at h1
    cases d <;> first | (exact h1.elim) | skip
    exact ⟨_, (rd_cn A1 o1.1 e1).int, h1 _ F1 H1 r1 A1 rfl s1⟩
def cutD (xs : List PyData) (lo hi : Option Int) : List PyData := (xs.drop (HT.sIx xs.length 0 lo)).take (HT.sIx xs.length xs.length hi - HT.sIx xs.length 0 lo)
def oSl (lo hi : Option Int) : PyData → Option Ev
  | .list ds => some (.ow (cutD ds lo hi))
  | .tuple ds => some (.sh (.tuple (cutD ds lo hi)))
  | .str z => if z.length ≤ sizeLine then some (.sh (.str (cutS z lo hi))) else none
  | _ => none
def slM (x : Ev) (lo hi : Option Int) : Fr → Rs Ev := fun fr => match rd fr x with
  | some d => match oSl lo hi d with
    | some e => .ok e fr
    | none => .st
  | none => .st
def slE (f : Fr → Rs Ev) (g h : Fr → Rs (Option Int)) : Fr → Rs Ev := bnd f fun x => bnd g fun lo => bnd h fun hi => slM x lo hi
theorem RtAll.cut {K : PySem.W.Frag} {F : FS} {H : Hp} {vs : List V} {ds : List PyData} (h : RtAll K F H vs ds) (lo hi : Option Int) : RtAll K F H (cutV vs lo hi) (cutD ds lo hi) := by
  unfold cutV cutD
  rw [h.length]
  exact (h.drop _).take _
abbrev rSlM (K : PySem.W.Frag) : V → Option Int → Option Int → Hp → VK → Prop := fun x lo hi H Q => rSlL K x lo hi H Q ∨ (rSlA K x lo hi H Q ∨ rSlS x lo hi H Q)
theorem sl_all : SlR X (rSlM X.K) := SlR.or sl_list (SlR.or sl_tupA sl_str)
theorem cut_whole (ds : List PyData) (lo hi : Option Int) (h : HT.sIx ds.length 0 lo = 0 ∧ HT.sIx ds.length ds.length hi = ds.length) : cutD ds lo hi = ds := by
  unfold cutD
  rw [h.1, h.2]
  simp
theorem ge_sl {f : Fr → Rs Ev} {g h : Fr → Rs (Option Int)} {lo hi : Option Expr} {p2 : Pos} (ha : GE X T W a f) (hl : GO X T W lo g) (hh : GO X T W hi h) : GE X T W (.Subscript a (.Slice lo hi none p2) pos) (slE f g h) := by
  refine PE.weak (pe_slice sl_all ha hl hh) fun σ H Q ⟨F, fr, r, A, q⟩ => ?_
  refine ⟨F, fr, r, A, (use_ok q).mono fun v1 H1 ⟨x, F1, fr1, r1, A1, o1, s1, h1⟩ => ?_⟩
  refine ⟨F1, fr1, r1, A1, (use_ok (h1.rebase s1 (okE.back s1))).mono fun l H2 ⟨l', F2, fr2, r2, A2, o2, s2, h2⟩ => ?_⟩
  obtain rfl : l = l' := o2
  refine ⟨F2, fr2, r2, A2, (use_ok (h2.rebase s2 (okE.back s2))).mono fun u H3 ⟨u', F3, fr3, r3, A3, o3, s3, h3⟩ => ?_⟩
  obtain rfl : u = u' := o3
  have o := (o1.1.step s2 A1).step s3 A2
  have h4 := h3.rebase s3 (okE.back s3)
  unfold slM at h4
  cases e1 : rd fr3 x with
  | none => simp only [e1] at h4; exact h4.elim
  | some d =>
    simp only [e1] at h4
    have cn := rd_cn A3 o e1
    cases d <;> first | (exact h4.elim) | skip
    case list ds =>
      obtain ⟨a, xs, rfl, hx, rx⟩ := cn.list
      exact .inl ⟨a, xs, rfl, hx, fun p hp => h4.op A3 (.upd hp) (.lst hp (rx.cut l u))⟩
    case tuple ds =>
      obtain ⟨a, xs, rfl, hx, rx⟩ := cn.tuple
      refine .inr (.inl ⟨a, xs, rfl, hx, fun hw => ?_, fun _ p hp => h4.op A3 (.upd hp) (.tup hp (rx.cut l u))⟩)
      rw [rx.length] at hw
      have e : cutD ds l u = ds := cut_whole ds l u hw
      simp only [oSl, e] at h4
      exact h4.op A3 (.refl H3) (Rt.tup hx rx)
    case str z =>
      simp only [oSl] at h4
      split at h4
      · rename_i ev heq
        split at heq
        · cases heq
          exact .inr (.inr ⟨z, cn.str, by assumption, h4.op A3 (.refl H3) (.str _)⟩)
        · cases heq
      · exact h4.elim
end
end FL


set_option Elab.async false
set_option maxRecDepth 100000
set_option maxHeartbeats 4000000
namespace FL
open PySem PySem.Spec PyProof.Rows L2

/-! ### a slot is stored -/
/-- may the slot be stored anew? -/
def free (s : Sv) : Bool := match s with
  | .li io lk _ => !io && !lk
  | _ => true
def stM (i : Nat) (x : Ev) : Fr → Rs Unit := fun fr => match fr[i]? with
  | none => .st
  | some s => if free s = true then (match x with
    | .ow ds => .ok () (fr.set i (.li false false ds))
    | .fn m => .ok () (fr.set i (.fn m))
    | x => match fz fr x with
      | some (d, fr') => .ok () (fr'.set i (.sh d))
      | none => .st) else .st
def setR (r : Ro) (i : Nat) (a : Addr) : Ro := fun j => if j = i then some a else r j
section
variable {K : PySem.W.Frag} {T : ThP} {F F0 F' : FS} {H H0 : Hp} {σ : L2.St} {fr fr0 fr' : Fr} {r r0 : Ro}
/-- a slot gets what is not a list of one's own -/
theorem At.put (A : At K T F H σ fr r) {i : Nat} {v : V} {s : Sv} (hi : i < fr.length) (hs : ∀ r' : Ro, r' i = none → SlotOK K T F H (some (some v)) (r' i) s) : At K T F H (σ.set i (some v)) (fr.set i s) (delR r i) := by
  have hσ : i < σ.length := by rw [← A.len]; exact hi
  refine ⟨by rw [List.length_set, List.length_set]; exact A.len, fun j s' ej => ?_, fun j ej => ?_, fun j k b hj hk => A.inj j k b (delR_some hj).2 (delR_some hk).2, A.ftr, A.tabs⟩
  · by_cases hj : j = i
    · subst hj
      rw [List.getElem?_set_self hi] at ej
      cases ej
      rw [List.getElem?_set_self hσ]
      exact hs (delR r j) delR_same
    · rw [List.getElem?_set_ne (Ne.symm hj)] at ej
      rw [List.getElem?_set_ne (Ne.symm hj), delR_ne hj]
      exact A.slot j s' ej
  · by_cases hj : j = i
    · subst hj
      exact delR_same
    · rw [List.getElem?_set_ne (Ne.symm hj)] at ej
      exact (delR_ne hj).trans (A.out j ej)
/-- a slot gets a new list -/
theorem At.putO (A : At K T F H σ fr r) {i : Nat} {a : Addr} {ds : List PyData} (hi : i < fr.length) (ho : Own K F H a ds) (hn : ∀ j, r j ≠ some a) : At K T F H (σ.set i (some (.ref a))) (fr.set i (.li false false ds)) (setR r i a) := by
  have hσ : i < σ.length := by rw [← A.len]; exact hi
  have ne : ∀ {j}, j ≠ i → setR r i a j = r j := fun h => if_neg h
  have sm : setR r i a i = some a := if_pos rfl
  refine ⟨by rw [List.length_set, List.length_set]; exact A.len, fun j s' ej => ?_, fun j ej => ?_, fun j k b hj hk => ?_, A.ftr, A.tabs⟩
  · by_cases hj : j = i
    · subst hj
      rw [List.getElem?_set_self hi] at ej
      cases ej
      rw [List.getElem?_set_self hσ]
      exact ⟨a, sm, rfl, ho⟩
    · rw [List.getElem?_set_ne (Ne.symm hj)] at ej
      rw [List.getElem?_set_ne (Ne.symm hj), ne hj]
      exact A.slot j s' ej
  · by_cases hj : j = i
    · subst hj
      rw [List.getElem?_eq_none_iff, List.length_set] at ej
      omega
    · rw [List.getElem?_set_ne (Ne.symm hj)] at ej
      exact (ne hj).trans (A.out j ej)
  · by_cases h1 : j = i
    · subst h1
      by_cases h2 : k = j
      · exact h2.symm
      · rw [sm] at hj
        cases hj
        rw [ne h2] at hk
        exact (hn k hk).elim
    · by_cases h2 : k = i
      · subst h2
        rw [sm] at hk
        cases hk
        rw [ne h1] at hj
        exact (hn j hj).elim
      · rw [ne h1] at hj
        rw [ne h2] at hk
        exact A.inj j k b hj hk
theorem step_put {s s' : Sv} {i : Nat} (hs : fr[i]? = some s) (hf : free s = true) {r' : Ro} (hr : ∀ j, j ≠ i → r' j = r j) (hri : ∀ a, r' i = some a → H0 a = none) (s0 : Step F0 H0 fr0 r0 F H fr r) : Step F0 H0 fr0 r0 F H (fr.set i s') r' := by
  refine ⟨s0.sub, s0.new, s0.keep, s0.trk, fun j a hj => ?_, fun j lk ds hj => ?_, fun j io ds hj => ?_⟩
  · by_cases e : j = i
    · subst e
      exact .inr (hri a hj)
    · rw [hr j e] at hj
      exact s0.root j a hj
  · obtain ⟨⟨d1, h1⟩, e1⟩ := s0.io j lk ds hj
    have e : j ≠ i := fun z => by
      rw [z, hs] at h1
      cases h1
      simp [free] at hf
    exact ⟨⟨d1, by rw [List.getElem?_set_ne (Ne.symm e)]; exact h1⟩, (hr j e).trans e1⟩
  · obtain ⟨h1, e1⟩ := s0.lk j io ds hj
    have e : j ≠ i := fun z => by
      rw [z, hs] at h1
      cases h1
      simp [free] at hf
    exact ⟨by rw [List.getElem?_set_ne (Ne.symm e)]; exact h1, (hr j e).trans e1⟩
theorem fz_len {e : Ev} {d : PyData} (q : fz fr e = some (d, fr')) : fr'.length = fr.length := by
  cases e with
  | sh d' => cases q; rfl
  | ow d' => cases q; rfl
  | fn m => cases q
  | al i =>
    simp only [fz] at q
    split at q <;> first | (cases q; done) | skip
    · cases q; rfl
    · cases q; rw [List.length_set]
theorem fz_free {e : Ev} {d : PyData} {i : Nat} {s : Sv} (q : fz fr e = some (d, fr')) (hs : fr[i]? = some s) (hf : free s = true) : ∃ s', fr'[i]? = some s' ∧ free s' = true := by
  cases e with
  | sh d' => cases q; exact ⟨s, hs, hf⟩
  | ow d' => cases q; exact ⟨s, hs, hf⟩
  | fn m => cases q
  | al j =>
    simp only [fz] at q
    split at q <;> first | (cases q; done) | skip
    · cases q; exact ⟨s, hs, hf⟩
    · cases q
      by_cases e : i = j
      · subst e
        exact ⟨_, List.getElem?_set_self (List.getElem?_eq_some_iff.mp hs).1, rfl⟩
      · exact ⟨s, by rw [List.getElem?_set_ne (Ne.symm e)]; exact hs, hf⟩
theorem stM_ok (s0 : Step F0 H0 fr0 r0 F H fr r) (A : At K T F H σ fr r) {v : V} {x : Ev} {i : Nat} (h : EvOK K T F H σ r v x) (n : New H0 v x) (q : stM i x fr = .ok () fr') :
    ∃ F' r', At K T F' H (σ.set i (some v)) fr' r' ∧ Step F0 H0 fr0 r0 F' H fr' r' := by
  unfold stM at q
  cases hs : fr[i]? with
  | none => rw [hs] at q; cases q
  | some s =>
    rw [hs] at q
    dsimp only at q
    have hi : i < fr.length := (List.getElem?_eq_some_iff.mp hs).1
    split at q
    · rename_i hf
      have viaFz : ∀ d fr1, fz fr x = some (d, fr1) → fr' = fr1.set i (.sh d) → ∃ F' r', At K T F' H (σ.set i (some v)) fr' r' ∧ Step F0 H0 fr0 r0 F' H fr' r' := by
        rintro d fr1 e rfl
        obtain ⟨F1, r1, A1, R1, s1⟩ := fz_step s0 A h n e
        obtain ⟨s', hs', hf'⟩ := fz_free e hs hf
        refine ⟨F1, delR r1 i, A1.put (by rw [fz_len e]; exact hi) fun r' e' => ⟨e', v, rfl, R1⟩, step_put hs' hf' (fun j hj => delR_ne hj) (fun a ha => ?_) s1⟩
        rw [delR_same] at ha
        cases ha
      cases x with
      | ow ds =>
        cases q
        obtain ⟨a, e, o, hn⟩ := h
        have hna := n a e
        subst e
        exact ⟨F, setR r i a, A.putO hi o hn, step_put hs hf (fun j hj => if_neg hj) (fun b hb => by
          rw [show setR r i a i = some a from if_pos rfl] at hb
          cases hb
          exact hna) s0⟩
      | fn m =>
        cases q
        refine ⟨F, delR r i, A.put hi fun r' e' => ⟨e', v, rfl, h⟩, step_put hs hf (fun j hj => delR_ne hj) (fun a ha => ?_) s0⟩
        rw [delR_same] at ha
        cases ha
      | sh d =>
        dsimp only at q
        cases e : fz fr (.sh d) with
        | none => rw [e] at q; cases q
        | some p =>
          rw [e] at q
          obtain ⟨d', fr1⟩ := p
          cases q
          exact viaFz d' fr1 e rfl
      | al j =>
        dsimp only at q
        cases e : fz fr (.al j) with
        | none => rw [e] at q; cases q
        | some p =>
          rw [e] at q
          obtain ⟨d', fr1⟩ := p
          cases q
          exact viaFz d' fr1 e rfl
    · cases q
theorem stM_ne {x : Ev} {i : Nat} {c w fr1} : stM i x fr ≠ .ex c w fr1 := by
  unfold stM
  intro h
  split at h
  · cases h
  · split at h
    · split at h <;> first | (cases h; done) | skip
      split at h <;> cases h
    · cases h
end

/-! ### targets -/
section
variable (K : PySem.W.Frag) (T : ThP)
/-- what is wanted behind a store -/
def contU (F : FS) (H : Hp) (fr : Fr) (r : Ro) (Q : L2.St → Hp → Prop) : Rs Unit → Prop
  | .ok _ fr' => ∀ σ' F' H' r', At K T F' H' σ' fr' r' → Step F H fr r F' H' fr' r' → Q σ' H'
  | _ => False
def tU (m : Ev → Fr → Rs Unit) : TG := fun v σ H Q => ∃ (F0 : FS) (H0 : Hp) (fr0 : Fr) (r0 : Ro) (F : FS) (fr : Fr) (r : Ro) (x : Ev), Step F0 H0 fr0 r0 F H fr r ∧ At K T F H σ fr r ∧ EvOK K T F H σ r v x ∧ New H0 v x ∧ contU K T F0 H0 fr0 r0 Q (m x fr)
/-- several data, one after another -/
def tUs (m : List PyData → Fr → Rs Unit) : TGs := fun vs σ H Q => ∃ (F0 : FS) (H0 : Hp) (fr0 : Fr) (r0 : Ro) (F : FS) (fr : Fr) (r : Ro) (ds : List PyData), Step F0 H0 fr0 r0 F H fr r ∧ At K T F H σ fr r ∧ RtAll K F H vs ds ∧ contU K T F0 H0 fr0 r0 Q (m ds fr)
end
theorem contU.mono {K : PySem.W.Frag} {T : ThP} {F : FS} {H : Hp} {fr : Fr} {r : Ro} {Q Q' : L2.St → Hp → Prop} {x : Rs Unit} (h : contU K T F H fr r Q x) (q : ∀ σ H, Q σ H → Q' σ H) : contU K T F H fr r Q' x := by
  cases x with
  | ok a fr' => exact fun σ' F' H' r' A s => q _ _ (h σ' F' H' r' A s)
  | ex => exact h
  | st => exact h
section
variable {X : Cx} {T : ThP} {W : WX} {e a b c : Expr} {pos : Pos}
abbrev GG (X : Cx) (T : ThP) (e : Expr) (m : Ev → Fr → Rs Unit) : Prop := PG X e (tU X.K T m)
abbrev GGs (X : Cx) (T : ThP) (es : List Expr) (m : List PyData → Fr → Rs Unit) : Prop := PGs X es (tUs X.K T m)
theorem PG.weak {e : Expr} {t t' : TG} (h : PG X e t) (i : ∀ v σ H Q, t' v σ H Q → t v σ H Q) : PG X e t' := ⟨fun pins s σ H v u Q I r q => h.run pins s σ H v u Q I r (i v σ H Q q)⟩
theorem PGs.weak {es : List Expr} {t t' : TGs} (h : PGs X es t) (i : ∀ v σ H Q, t' v σ H Q → t v σ H Q) : PGs X es t' := ⟨fun pins s σ H v u Q I r q => h.run pins s σ H v u Q I r (i v σ H Q q)⟩
theorem gg_name {i : Nat} {x : Str} (h : PG X (.Name x pos) (gName i)) : GG X T (.Name x pos) (stM i) := by
  refine PG.weak h fun v σ H Q ⟨F0, H0, fr0, r0, F, fr, r, x, s, A, o, n, q⟩ => ?_
  cases e : stM i x fr with
  | ok u fr' =>
    rw [e] at q
    obtain ⟨F', r', A', s'⟩ := stM_ok s A o n e
    exact q _ F' H r' A' s'
  | ex => rw [e] at q; exact q.elim
  | st => rw [e] at q; exact q.elim
def bU (f : Fr → Rs Unit) (g : Fr → Rs Unit) : Fr → Rs Unit := fun fr => match f fr with
  | .ok _ fr' => g fr'
  | .ex c w fr' => .ex c w fr'
  | .st => .st
def tgN : List PyData → Fr → Rs Unit
  | [], fr => .ok () fr
  | _, _ => .st
def tgC (m : Ev → Fr → Rs Unit) (ms : List PyData → Fr → Rs Unit) : List PyData → Fr → Rs Unit
  | d :: ds, fr => bU (m (.sh d)) (ms ds) fr
  | _, _ => .st
theorem ggs_nil : GGs X T [] tgN := by
  refine PGs.weak pgs_nil fun vs σ H Q ⟨F0, H0, fr0, r0, F, fr, r, ds, s, A, o, q⟩ => ?_
  cases o with
  | nil => exact ⟨rfl, q σ F H r A s⟩
  | cons _ _ => exact q.elim
theorem ggs_cons {es : List Expr} {m : Ev → Fr → Rs Unit} {ms : List PyData → Fr → Rs Unit} (h1 : GG X T e m) (h2 : GGs X T es ms) (hs : (assignEach (e :: es) X.env).map (·.2) = assign e X.env :: (assignEach es X.env).map (·.2) := by rfl) :
    GGs X T (e :: es) (tgC m ms) := by
  refine PGs.weak (pgs_cons h1 h2 hs) fun vs σ H Q ⟨F0, H0, fr0, r0, F, fr, r, ds, s, A, o, q⟩ => ?_
  cases o with
  | nil => exact q.elim
  | @cons v vs d ds h t =>
    refine ⟨v, vs, rfl, F, H, fr, r, F, fr, r, .sh d, Step.refl, A, h, trivial, ?_⟩
    unfold tgC bU at q
    cases e1 : m (.sh d) fr with
    | ok u fr' =>
      simp only [e1] at q
      intro σ' F' H' r' A' s'
      exact ⟨F0, H0, fr0, r0, F', fr', r', ds, s.trans s', A', t.ext (s'.ext A), q⟩
    | ex => simp only [e1] at q; exact q.elim
    | st => simp only [e1] at q; exact q.elim
def tgT (n : Nat) (ms : List PyData → Fr → Rs Unit) : Ev → Fr → Rs Unit := fun x fr => match rd fr x with
  | some (.tuple ds) => if ds.length = n then ms ds fr else .st
  | _ => .st
theorem gg_tup {es : List Expr} {k n : Nat} {ms : List PyData → Fr → Rs Unit} (hc : X.calm = true) (h : GGs X T es ms) (hn : (assignEach es X.env).length = n := by rfl) (hst : (assignEach es X.env).findIdx? (·.1) = none := by rfl) :
    GG X T (.Tuple es k pos) (tgT n ms) := by
  refine PG.weak (pg_tup hc h hn hst) fun v σ H Q ⟨F0, H0, fr0, r0, F, fr, r, x, s, A, o, nw, q⟩ => ?_
  unfold tgT at q
  cases e : rd fr x with
  | none => rw [e] at q; exact q.elim
  | some d =>
    rw [e] at q
    have cn := rd_cn A o e
    cases d <;> first | (exact q.elim) | skip
    rename_i ds
    obtain ⟨a, xs, rfl, hx, hr⟩ := cn.tuple
    dsimp only at q
    split at q
    · rename_i hl
      exact ⟨a, xs, rfl, hx, by rw [hr.length]; exact hl, F0, H0, fr0, r0, F, fr, r, ds, s, A, hr, q⟩
    · exact q.elim
end

/-! ### statements -/
section
variable (K : PySem.W.Frag) (mg : Str → Option Value) (T : ThP)
def contS (W : WX) (F : FS) (H : Hp) (fr : Fr) (r : Ro) (D : Ends) : Rs Fl → Prop
  | .ok .nx fr' => ∀ σ' F' H' r', At K T F' H' σ' fr' r' → Step F H fr r F' H' fr' r' → D.nx σ' H'
  | .ok .bk fr' => ∀ σ' F' H' r', At K T F' H' σ' fr' r' → Step F H fr r F' H' fr' r' → D.bk σ' H'
  | .ok .ct fr' => ∀ σ' F' H' r', At K T F' H' σ' fr' r' → Step F H fr r F' H' fr' r' → D.ct σ' H'
  | .ok (.rt e) fr' => ∀ σ' v F' H' r', At K T F' H' σ' fr' r' → EvOK K T F' H' σ' r' v e → New H v e → Step F H fr r F' H' fr' r' → D.rt v H'
  | .ex c w fr' => ∀ C dd v σ' F' H' r', mg c = some (.ref C) → At K T F' H' σ' fr' r' → H' dd = some (.xd [("what", v)]) → Rt K F' H' v w → Step F H fr r F' H' fr' r' → W (.ref C) (some dd) σ' H'
  | .st => False
def tS (W : WX) (f : Fr → Rs Fl) : TS := fun D σ H => ∃ F fr r, At K T F H σ fr r ∧ contS K mg T W F H fr r D (f fr)
end
abbrev GS (X : Cx) (T : ThP) (W : WX) (st : Stmt) (f : Fr → Rs Fl) : Prop := PS X st (tS X.K X.mg T W f)
abbrev GSs (X : Cx) (T : ThP) (W : WX) (st : List Stmt) (f : Fr → Rs Fl) : Prop := PSs X st (tS X.K X.mg T W f)
section
variable {K : PySem.W.Frag} {mg : Str → Option Value} {T : ThP} {W : WX} {F F0 F1 : FS} {H H0 H1 : Hp} {fr fr0 fr1 : Fr} {r r0 r1 : Ro} {σ : L2.St} {α β γ δ : Type} {ok : OkT α β} {D D' : Ends}
theorem contS.rebase {x : Rs Fl} (h : contS K mg T W F H fr r D x) (s : Step F H fr r F1 H1 fr1 r1) : contS K mg T W F1 H1 fr1 r1 D x := by
  cases x with
  | ok a fr' =>
    cases a with
    | nx => exact fun σ' F' H' r' A s' => h σ' F' H' r' A (s.trans s')
    | bk => exact fun σ' F' H' r' A s' => h σ' F' H' r' A (s.trans s')
    | ct => exact fun σ' F' H' r' A s' => h σ' F' H' r' A (s.trans s')
    | rt e => exact fun σ' v F' H' r' A o n s' => h σ' v F' H' r' A o (n.back s) (s.trans s')
  | ex c w fr' => exact fun C dd v σ' F' H' r' m A hd hv s' => h C dd v σ' F' H' r' m A hd hv (s.trans s')
  | st => exact h
/-- an expression ahead of the rest of a statement -/
theorem use_okS {f : Fr → Rs α} {g : α → Fr → Rs Fl} (h : contS K mg T W F H fr r D (bnd f g fr)) :
    cont K mg T ok W F H fr r σ (fun b H1 => ∃ a F1 fr1 r1, At K T F1 H1 σ fr1 r1 ∧ ok F1 H1 r1 σ H b a ∧ Step F H fr r F1 H1 fr1 r1 ∧ contS K mg T W F H fr r D (g a fr1)) (f fr) := by
  unfold bnd at h
  cases e : f fr with
  | ok a fr' =>
    rw [e] at h
    exact fun b F' H' r' A o s => ⟨a, F', fr', r', A, o, s, h⟩
  | ex c w fr' =>
    rw [e] at h
    exact fun C dd v F' H' r' m A hd hv s => h C dd v σ F' H' r' m A hd hv s
  | st =>
    rw [e] at h
    exact h
end
section
variable {X : Cx} {T : ThP} {W : WX} {e a b c : Expr} {st : Stmt} {rest sa sb : List Stmt} {pos : Pos}
theorem PS.weak {t t' : TS} (h : PS X st t) (i : ∀ D σ H, t' D σ H → t D σ H) : PS X st t' := ⟨fun pins s σ H D I q => h.run pins s σ H D I (i D σ H q)⟩
theorem PSs.weak {t t' : TS} (h : PSs X rest t) (i : ∀ D σ H, t' D σ H → t D σ H) : PSs X rest t' := ⟨fun pins s σ H D I q => h.run pins s σ H D I (i D σ H q)⟩
def seqS (f g : Fr → Rs Fl) : Fr → Rs Fl := bnd f fun x => match x with
  | .nx => g
  | o => ret o
def nxS : Fr → Rs Fl := ret .nx
theorem gss_nil : GSs X T W [] nxS := PSs.weak pss_nil fun D σ H ⟨F, fr, r, A, q⟩ => q σ F H r A Step.refl
theorem gss_cons {f g : Fr → Rs Fl} (h1 : GS X T W st f) (h2 : GSs X T W rest g) : GSs X T W (st :: rest) (seqS f g) := by
  refine PSs.weak (pss_cons h1 h2) fun D σ H ⟨F, fr, r, A, q⟩ => ?_
  refine ⟨F, fr, r, A, ?_⟩
  unfold seqS bnd at q
  cases e : f fr with
  | st => rw [e] at q; exact q.elim
  | ex c w fr' => rw [e] at q; exact q
  | ok fl fr' =>
    rw [e] at q
    cases fl with
    | nx => exact fun σ' F' H' r' A' s' => ⟨F', fr', r', A', contS.rebase (D := D) q s'⟩
    | bk => exact q
    | ct => exact q
    | rt e => exact q
theorem gss_one {f : Fr → Rs Fl} (h : GS X T W st f) : GSs X T W [st] f := pss_one h
theorem gs_pass : GS X T W (.Pass pos) nxS := PS.weak ps_pass fun D σ H ⟨F, fr, r, A, q⟩ => q σ F H r A Step.refl
theorem gs_break : GS X T W (.Break pos) (ret .bk) := PS.weak ps_break fun D σ H ⟨F, fr, r, A, q⟩ => q σ F H r A Step.refl
theorem gs_continue : GS X T W (.Continue pos) (ret .ct) := PS.weak ps_continue fun D σ H ⟨F, fr, r, A, q⟩ => q σ F H r A Step.refl
def exS (f : Fr → Rs Ev) : Fr → Rs Fl := bnd f fun _ => nxS
theorem gs_expr {f : Fr → Rs Ev} (h : GE X T W e f) (hs : swapsWith e none pos.line X.env = pure false := by rfl) : GS X T W (.Expr e pos) (exS f) := by
  refine PS.weak (ps_expr h hs) fun D σ H ⟨F, fr, r, A, q⟩ => ?_
  exact ⟨F, fr, r, A, (use_okS q).mono fun v1 H1 ⟨x, F1, fr1, r1, A1, o1, s1, h1⟩ => h1 σ F1 H1 r1 A1 s1⟩
def rtS (f : Fr → Rs Ev) : Fr → Rs Fl := bnd f fun x => ret (.rt x)
theorem gs_ret {f : Fr → Rs Ev} (h : GE X T W e f) : GS X T W (.Return (some e) pos) (rtS f) := by
  refine PS.weak (ps_ret h) fun D σ H ⟨F, fr, r, A, q⟩ => ?_
  exact ⟨F, fr, r, A, (use_okS q).mono fun v1 H1 ⟨x, F1, fr1, r1, A1, o1, s1, h1⟩ => h1 σ v1 F1 H1 r1 A1 o1.1 o1.2 s1⟩
theorem gs_retN : GS X T W (.Return none pos) (ret (.rt (.sh .none))) := PS.weak ps_retN fun D σ H ⟨F, fr, r, A, q⟩ => q σ .non F H r A .non trivial Step.refl
theorem gs_if {f : Fr → Rs Bool} {g h : Fr → Rs Fl} (hc : GT X T W c f) (ha : GSs X T W sa g) (hb : GSs X T W sb h) : GS X T W (.If c sa sb pos) (iteE f g h) := by
  refine PS.weak (ps_if hc ha hb) fun D σ H ⟨F, fr, r, A, q⟩ => ?_
  refine ⟨F, fr, r, A, (use_okS q).mono fun v1 H1 ⟨x, F1, fr1, r1, A1, o1, s1, h1⟩ => ?_⟩
  obtain rfl : v1 = x := o1
  cases v1 with
  | true => exact ⟨F1, fr1, r1, A1, h1.rebase s1⟩
  | false => exact ⟨F1, fr1, r1, A1, h1.rebase s1⟩
def unS (m : Fr → Rs Unit) : Fr → Rs Fl := fun fr => match m fr with
  | .ok _ fr' => .ok .nx fr'
  | .ex c w fr' => .ex c w fr'
  | .st => .st
def asgS (f : Fr → Rs Ev) (m : Ev → Fr → Rs Unit) : Fr → Rs Fl := bnd f fun x => unS (m x)
/-- no store raises -/
theorem contS.toU {K : PySem.W.Frag} {mg : Str → Option Value} {F : FS} {H : Hp} {fr : Fr} {r : Ro} {D : Ends} {m : Fr → Rs Unit} {fr1 : Fr} (h : contS K mg T W F H fr r D (unS m fr1)) (hx : ∀ c w fr', m fr1 ≠ .ex c w fr') : contU K T F H fr r D.nx (m fr1) := by
  unfold unS at h
  cases e : m fr1 with
  | ok u fr' => rw [e] at h; exact h
  | ex c w fr' => exact (hx _ _ _ e).elim
  | st => rw [e] at h; exact h
def NoX (m : Ev → Fr → Rs Unit) : Prop := ∀ x fr c w fr', m x fr ≠ .ex c w fr'
theorem nox_name {i : Nat} : NoX (stM i) := fun _ _ _ _ _ => stM_ne
def NoXs (m : List PyData → Fr → Rs Unit) : Prop := ∀ x fr c w fr', m x fr ≠ .ex c w fr'
theorem noxs_nil : NoXs tgN := fun x fr c w fr' h => by cases x <;> cases h
theorem noxs_cons {m : Ev → Fr → Rs Unit} {ms : List PyData → Fr → Rs Unit} (h : NoX m) (h2 : NoXs ms) : NoXs (tgC m ms) := fun x fr c w fr' q => by
  cases x with
  | nil => cases q
  | cons d ds =>
    unfold tgC bU at q
    cases e : m (.sh d) fr with
    | ok u fr1 => simp only [e] at q; exact h2 _ _ _ _ _ q
    | ex c w fr1 => exact h _ _ _ _ _ e
    | st => simp only [e] at q; cases q
theorem nox_tup {n : Nat} {ms : List PyData → Fr → Rs Unit} (h : NoXs ms) : NoX (tgT n ms) := fun x fr c w fr' q => by
  unfold tgT at q
  split at q
  · split at q
    · exact h _ _ _ _ _ q
    · cases q
  · cases q
/-- target = value -/
theorem gs_asg {tg : Expr} {f : Fr → Rs Ev} {m : Ev → Fr → Rs Unit} (he : GE X T W e f) (hg : GG X T tg m) (hx : NoX m) (hs : swapsWithSole [tg] e pos.line X.env = pure false := by rfl) (hw : swappedStores [tg] e X.env = pure none := by rfl)
    (h1 : (assignEach [tg] X.env).map (·.2) = [assign tg X.env] := by rfl) : GS X T W (.Assign [tg] e pos) (asgS f m) := by
  refine PS.weak (ps_asg he hg hs hw h1) fun D σ H ⟨F, fr, r, A, q⟩ => ?_
  refine ⟨F, fr, r, A, (use_okS q).mono fun v1 H1 ⟨x, F1, fr1, r1, A1, o1, s1, h1⟩ => ?_⟩
  exact ⟨F, H, fr, r, F1, fr1, r1, x, s1, A1, o1.1, o1.2, h1.toU (hx x fr1)⟩
/-- name = value -/
theorem gs_set {i : Nat} {x : Str} {f : Fr → Rs Ev} {pos' : Pos} (h : PS X (.Assign [.Name x pos'] e pos) (tAsg (tE X.K X.mg T W f) (gName i))) : GS X T W (.Assign [.Name x pos'] e pos) (asgS f (stM i)) := by
  refine PS.weak h fun D σ H ⟨F, fr, r, A, q⟩ => ?_
  refine ⟨F, fr, r, A, (use_okS q).mono fun v1 H1 ⟨y, F1, fr1, r1, A1, o1, s1, h1⟩ => ?_⟩
  have q := h1.toU (nox_name y fr1)
  cases e : stM i y fr1 with
  | ok u fr' =>
    rw [e] at q
    obtain ⟨F', r', A', s'⟩ := stM_ok s1 A1 o1.1 o1.2 e
    exact q _ F' H1 r' A' s'
  | ex => rw [e] at q; exact q.elim
  | st => rw [e] at q; exact q.elim
end
end FL


set_option Elab.async false
set_option maxRecDepth 100000
set_option maxHeartbeats 4000000
namespace FL
open PySem PySem.Spec PyProof.Rows L2

/-! ### what a def promises -/
inductive DA where
  | d (x : PyData)
  | io (ds : List PyData)
  | fn (m : Fm)
inductive Rv where
  | sh (d : PyData)
  | ow (ds : List PyData)
inductive DO where
  | ret (rv : Rv) (ios : List (List PyData))
  | ex (c : Str) (w : PyData) (ios : List (List PyData))
  | st
abbrev Md := List DA → DO
section
variable (K : PySem.W.Frag) (tb : List (Addr × Str)) (F : FS) (H : Hp)
inductive ArgsOK : List V → List DA → List Addr → Prop
  | nil : ArgsOK [] [] []
  | d {v : V} {x : PyData} {vs : List V} {das : List DA} {S : List Addr} : Rt K F H v x → ArgsOK vs das S → ArgsOK (v :: vs) (.d x :: das) S
  | io {a : Addr} {ds : List PyData} {vs : List V} {das : List DA} {S : List Addr} : Own K F H a ds → a ∉ S → ArgsOK vs das S → ArgsOK (.ref a :: vs) (.io ds :: das) (a :: S)
inductive IosOK : List Addr → List (List PyData) → Prop
  | nil : IosOK [] []
  | cons {a : Addr} {ds : List PyData} {S : List Addr} {ios : List (List PyData)} : Own K F H a ds → IosOK S ios → IosOK (a :: S) (ds :: ios)
structure FOk : Prop where
  ftr : ∀ a, F a → ∃ o, H a = some o ∧ NoTbl o
  tabs : LamX.Tabs tb H
def RvK (H0 : Hp) (v : V) : Rv → Prop
  | .sh d => Rt K F H v d
  | .ow ds => ∃ a, v = .ref a ∧ H0 a = none ∧ Own K F H a ds
end
structure CStep (F : FS) (H : Hp) (F' : FS) (H' : Hp) (S : List Addr) : Prop where
  sub : ∀ a, F a → F' a
  new : ∀ a, F' a → F a ∨ H a = none
  keep : ∀ a o, H a = some o → NoTbl o → a ∉ S → H' a = some o
  trk : ∀ a o, H a = some o → ∃ o', H' a = some o'
def spD (K : PySem.W.Frag) (mg : Str → Option Value) (tb : List (Addr × Str)) (m : Md) : Sp := fun vs H Q E => ∃ F das S, FOk tb F H ∧ ArgsOK K F H vs das S ∧ match m das with
  | .ret rv ios => ∀ v F' H', FOk tb F' H' → IosOK K F' H' S ios → RvK K F' H' H v rv → CStep F H F' H' S → Q v H'
  | .ex c w ios => ∀ C dd v F' H', mg c = some (.ref C) → FOk tb F' H' → IosOK K F' H' S ios → H' dd = some (.xd [("what", v)]) → Rt K F' H' v w → CStep F H F' H' S → E (.ref C) (some dd) H'
  | .st => False
theorem ArgsOK.length {K : PySem.W.Frag} {F : FS} {H : Hp} {vs : List V} {das : List DA} {S : List Addr} (h : ArgsOK K F H vs das S) : vs.length = das.length := by
  induction h with
  | nil => rfl
  | d _ _ ih => rw [List.length_cons, List.length_cons, ih]
  | io _ _ _ ih => rw [List.length_cons, List.length_cons, ih]

/-! ### the caller's side -/
inductive Av where
  | d (x : PyData)
  | io (i : Nat)
  | fn (m : Fm)
section
variable (K : PySem.W.Frag) (T : ThP)
def AvOK (F : FS) (H : Hp) (σ : L2.St) (v : V) : Av → Prop
  | .d x => Rt K F H v x
  | .io i => σ[i]? = some (some v)
  | .fn m => T.p F H v m
inductive AvsOK (F : FS) (H : Hp) (σ : L2.St) : List V → List Av → Prop
  | nil : AvsOK F H σ [] []
  | cons {v : V} {a : Av} {vs : List V} {as : List Av} : AvOK K T F H σ v a → AvsOK F H σ vs as → AvsOK F H σ (v :: vs) (a :: as)
def okAv : OkT (List Av) (List V) := fun F H _ σ _ vs as => AvsOK K T F H σ vs as
end
section
variable {K : PySem.W.Frag} {T : ThP} {F F' F1 : FS} {H H' H1 : Hp} {σ : L2.St} {fr fr' fr1 : Fr} {r r' r1 : Ro}
theorem okAv.back (s : Step F H fr r F1 H1 fr1 r1) : ∀ F' H' r' b a, okAv K T F' H' r' σ H1 b a → okAv K T F' H' r' σ H b a := fun _ _ _ _ _ o => o
theorem AvOK.step {v : V} {a : Av} (h : AvOK K T F H σ v a) (e : Ext F H F' H') : AvOK K T F' H' σ v a := by
  cases a with
  | d x => exact Rt.ext e h
  | io i => exact h
  | fn m => exact T.mono h e
/-- the args as the def gets them; the slots that are handed in to be changed -/
def resolve (fr : Fr) : List Av → Option (List DA)
  | [] => some []
  | .d x :: r => (resolve fr r).map (.d x :: ·)
  | .io i :: r => match fr[i]? with
    | some (.li _ false ds) => (resolve fr r).map (.io ds :: ·)
    | _ => none
  | .fn _ :: _ => none
def ioSlots : List Av → List Nat
  | [] => []
  | .io i :: r => i :: ioSlots r
  | _ :: r => ioSlots r
def setLi (fr : Fr) (i : Nat) (ds : List PyData) : Fr := match fr[i]? with
  | some (.li io lk _) => fr.set i (.li io lk ds)
  | _ => fr
def putIos : Fr → List Nat → List (List PyData) → Fr
  | fr, i :: is, ds :: dss => putIos (setLi fr i ds) is dss
  | fr, _, _ => fr
def rvE : Rv → Ev
  | .sh d => .sh d
  | .ow ds => .ow ds
def callM (m : Md) (avs : List Av) : Fr → Rs Ev := fun fr => if (ioSlots avs).Nodup then (match resolve fr avs with
  | none => .st
  | some das => match m das with
    | .ret rv ios => .ok (rvE rv) (putIos fr (ioSlots avs) ios)
    | .ex c w ios => .ex c w (putIos fr (ioSlots avs) ios)
    | .st => .st) else .st
/-- slots and where their lists lie -/
inductive Roots (fr : Fr) (r : Ro) : List Nat → List Addr → Prop
  | nil : Roots fr r [] []
  | cons {i : Nat} {a : Addr} {is : List Nat} {S : List Addr} : r i = some a → (∃ io ds, fr[i]? = some (.li io false ds)) → Roots fr r is S → Roots fr r (i :: is) (a :: S)
theorem Roots.mem (h : Roots fr r is S) {a : Addr} (ha : a ∈ S) : ∃ i, i ∈ is ∧ r i = some a := by
  induction h with
  | nil => cases ha
  | @cons i b is S h1 h2 _ ih =>
    rcases List.mem_cons.mp ha with e | ha
    · exact ⟨i, List.mem_cons_self, by rw [e]; exact h1⟩
    · obtain ⟨j, h3, h4⟩ := ih ha
      exact ⟨j, List.mem_cons_of_mem _ h3, h4⟩
theorem args_of (A : At K T F H σ fr r) : ∀ {avs : List Av} {vs : List V} {das : List DA}, AvsOK K T F H σ vs avs → resolve fr avs = some das → (ioSlots avs).Nodup → ∃ S, ArgsOK K F H vs das S ∧ Roots fr r (ioSlots avs) S
  | [], _, _, .nil, e, _ => by
    cases e
    exact ⟨[], .nil, .nil⟩
  | .d x :: avs, _, _, .cons h t, e, n => by
    simp only [resolve, Option.map_eq_some_iff] at e
    obtain ⟨das', e1, rfl⟩ := e
    obtain ⟨S, h1, h2⟩ := args_of A t e1 n
    exact ⟨S, .d h h1, h2⟩
  | .fn m :: avs, _, _, .cons h t, e, n => by cases e
  | .io i :: avs, _, _, .cons (v := v) h t, e, n => by
    have h : σ[i]? = some (some v) := h
    simp only [resolve] at e
    split at e
    · rename_i io ds hs
      simp only [Option.map_eq_some_iff] at e
      obtain ⟨das', e1, rfl⟩ := e
      have n' : i ∉ ioSlots avs ∧ (ioSlots avs).Nodup := List.nodup_cons.mp n
      obtain ⟨S, h1, h2⟩ := args_of A t e1 n'.2
      obtain ⟨a, z1, z2, z3⟩ := A.slot i _ hs
      rw [h] at z2
      cases z2
      refine ⟨a :: S, .io z3 (fun ha => ?_) h1, .cons z1 ⟨io, ds, hs⟩ h2⟩
      obtain ⟨j, hj, hr⟩ := h2.mem ha
      exact n'.1 (by rw [A.inj i j a z1 hr]; exact hj)
    · cases e
/-- the frame where the lists at U may have turned -/
structure AtX (K : PySem.W.Frag) (T : ThP) (F : FS) (H : Hp) (σ : L2.St) (fr : Fr) (r : Ro) (U : List Addr) : Prop where
  len : fr.length = σ.length
  slot : ∀ i s, fr[i]? = some s → SlotOK K T F H σ[i]? (r i) s ∨ ∃ io lk ds a, s = .li io lk ds ∧ r i = some a ∧ a ∈ U ∧ σ[i]? = some (some (.ref a))
  out : ∀ i, fr[i]? = none → r i = none
  inj : ∀ i j a, r i = some a → r j = some a → i = j
  ftr : ∀ a, F a → ∃ o, H a = some o ∧ NoTbl o
  tabs : LamX.Tabs T.tb H
theorem AtX.at (A : AtX K T F H σ fr r []) : At K T F H σ fr r := ⟨A.len, fun i s e => (A.slot i s e).elim id fun ⟨_, _, _, _, _, _, h, _⟩ => absurd h (by simp), A.out, A.inj, A.ftr, A.tabs⟩
theorem setLi_at {i j : Nat} {io lk : Bool} {ds ds' : List PyData} (h : fr[i]? = some (.li io lk ds)) : (setLi fr i ds')[j]? = if j = i then some (.li io lk ds') else fr[j]? := by
  unfold setLi
  rw [h]
  dsimp only
  have hi : i < fr.length := (List.getElem?_eq_some_iff.mp h).1
  split
  · rename_i e
    rw [e, List.getElem?_set_self hi]
  · rename_i e
    rw [List.getElem?_set_ne (Ne.symm e)]
theorem setLi_len {i : Nat} {ds' : List PyData} : (setLi fr i ds').length = fr.length := by
  unfold setLi
  split
  · rw [List.length_set]
  · rfl
theorem AtX.put (A : AtX K T F H σ fr r (a :: U)) {i : Nat} {ds : List PyData} (hr : r i = some a) (hs : ∃ io ds, fr[i]? = some (.li io false ds)) (o : Own K F H a ds) : AtX K T F H σ (setLi fr i ds) r U := by
  obtain ⟨io, ds0, hs⟩ := hs
  have rf : σ[i]? = some (some (.ref a)) := by
    rcases A.slot i _ hs with z | ⟨_, _, _, b, _, z1, _, z2⟩
    · obtain ⟨b, z1, z2, _⟩ := z
      rw [hr] at z1
      cases z1
      exact z2
    · rw [hr] at z1
      cases z1
      exact z2
  refine ⟨setLi_len.trans A.len, fun j s e => ?_, fun j e => ?_, A.inj, A.ftr, A.tabs⟩
  · rw [setLi_at hs] at e
    split at e
    · rename_i ej
      subst ej
      cases e
      exact .inl ⟨a, hr, rf, o⟩
    · rename_i ej
      rcases A.slot j s e with z | ⟨i1, i2, i3, b, z1, z2, z3, z4⟩
      · exact .inl z
      · refine .inr ⟨i1, i2, i3, b, z1, z2, ?_, z4⟩
        rcases List.mem_cons.mp z3 with q | q
        · subst q
          exact (ej (A.inj j i b z2 hr)).elim
        · exact q
  · rw [setLi_at hs] at e
    split at e
    · cases e
    · exact A.out j e
theorem Roots.set {i : Nat} {ds : List PyData} (h : Roots fr r is S) (hs : ∃ io ds, fr[i]? = some (.li io false ds)) : Roots (setLi fr i ds) r is S := by
  obtain ⟨io, ds0, hs⟩ := hs
  induction h with
  | nil => exact .nil
  | cons h1 h2 _ ih =>
    refine .cons h1 ?_ ih
    obtain ⟨io', ds', e⟩ := h2
    rw [setLi_at hs]
    split
    · exact ⟨io, ds, rfl⟩
    · exact ⟨io', ds', e⟩
theorem AtX.puts : ∀ {is : List Nat} {S : List Addr} {ios : List (List PyData)} {fr : Fr}, AtX K T F H σ fr r S → Roots fr r is S → IosOK K F H S ios → At K T F H σ (putIos fr is ios) r
  | [], _, _, _, A, .nil, .nil => A.at
  | i :: is, _, _, fr, A, .cons h1 h2 t, .cons (ds := ds) o t' => by
    have q := AtX.puts (fr := setLi fr i ds) (A.put h1 h2 o) (t.set h2) t'
    exact q
theorem putIos_at : ∀ {is : List Nat} {S : List Addr} {ios : List (List PyData)} {fr : Fr} {j : Nat}, Roots fr r is S → IosOK K F H S ios → ∀ {io lk : Bool} {ds : List PyData}, fr[j]? = some (.li io lk ds) → (∃ ds', (putIos fr is ios)[j]? = some (.li io lk ds')) ∧ (lk = true → (putIos fr is ios)[j]? = some (.li io lk ds))
  | [], _, _, _, j, .nil, .nil, io, lk, ds, e => ⟨⟨ds, e⟩, fun _ => e⟩
  | i :: is, _, _, fr, j, .cons h1 h2 t, .cons (ds := dn) o t', io, lk, ds, e => by
    obtain ⟨io0, ds0, hs⟩ := id h2
    by_cases ej : j = i
    · subst ej
      rw [hs] at e
      cases e
      have e2 : (setLi fr j dn)[j]? = some (.li io false dn) := by rw [setLi_at hs, if_pos rfl]
      obtain ⟨q, _⟩ := putIos_at (t.set h2) t' e2
      exact ⟨q, fun z => by cases z⟩
    · have e2 : (setLi fr i dn)[j]? = some (.li io lk ds) := by rw [setLi_at hs, if_neg ej]; exact e
      exact putIos_at (t.set h2) t' e2
theorem CStep.ext (s : CStep F H F' H' S) (hF : ∀ a, F a → ∃ o, H a = some o ∧ NoTbl o) (hS : ∀ a ∈ S, ¬ F a ∧ ∃ xs, H a = some (.lst xs)) : Ext F H F' H' where
  sub := s.sub
  fix := fun a o h e => s.keep a o e (by
    obtain ⟨o', e', nt⟩ := hF a h
    rw [e] at e'
    cases e'
    exact nt) fun ha => (hS a ha).1 h
  tup := fun a xs e => s.keep a _ e .tup fun ha => by
    obtain ⟨_, ys, e'⟩ := hS a ha
    rw [e] at e'
    cases e'
  frz := fun a o u e => s.keep a _ e .frz fun ha => by
    obtain ⟨_, ys, e'⟩ := hS a ha
    rw [e] at e'
    cases e'
  xd := fun a xs e => s.keep a _ e .xd fun ha => by
    obtain ⟨_, ys, e'⟩ := hS a ha
    rw [e] at e'
    cases e'
  ext := fun a xs e => s.keep a _ e .ext fun ha => by
    obtain ⟨_, ys, e'⟩ := hS a ha
    rw [e] at e'
    cases e'
/-- behind a call -/
theorem after_call (A : At K T F H σ fr r) (R : Roots fr r is S) (o : FOk T.tb F' H') (io : IosOK K F' H' S ios) (s : CStep F H F' H' S) : At K T F' H' σ (putIos fr is ios) r ∧ Step F H fr r F' H' (putIos fr is ios) r := by
  have hS : ∀ a ∈ S, ¬ F a ∧ ∃ xs, H a = some (.lst xs) := fun a ha => by
    obtain ⟨i, _, hr⟩ := R.mem ha
    exact ⟨A.rootF hr, A.rootL hr⟩
  have e := s.ext A.ftr hS
  refine ⟨AtX.puts ⟨A.len, fun i sv es => ?_, A.out, A.inj, o.ftr, o.tabs⟩ R io, s.sub, fun a h => (s.new a h).elim .inl fun z => .inr (.inl z), fun a ob h nt n => s.keep a ob h nt fun ha => ?_, s.trk, fun i a h => .inl ⟨i, h⟩, fun i lk ds h => ⟨(putIos_at R io h).1, rfl⟩, fun i io' ds h => ⟨(putIos_at R io h).2 rfl, rfl⟩⟩
  · have q := A.slot i sv es
    cases sv with
    | no => exact .inl q
    | sh d =>
      obtain ⟨q1, v, q2, q3⟩ := q
      exact .inl ⟨q1, v, q2, q3.ext e⟩
    | fn m =>
      obtain ⟨q1, v, q2, q3⟩ := q
      exact .inl ⟨q1, v, q2, T.mono q3 e⟩
    | li io1 lk1 ds1 =>
      obtain ⟨b, q1, q2, nF, xs, q3, q4⟩ := q
      by_cases hb : b ∈ S
      · exact .inr ⟨io1, lk1, ds1, b, rfl, q1, hb, q2⟩
      · refine .inl ⟨b, q1, q2, fun z => ?_, xs, s.keep b _ q3 .lst hb, q4.ext e⟩
        rcases s.new b z with z | z
        · exact nF z
        · rw [q3] at z
          cases z
  · obtain ⟨i, _, hr⟩ := R.mem ha
    exact n i hr
theorem RvK.ev (A : At K T F' H' σ fr r) (hr : ∀ i a, r i = some a → ∃ o, H a = some o) {v : V} {rv : Rv} (h : RvK K F' H' H v rv) : EvOK K T F' H' σ r v (rvE rv) ∧ New H v (rvE rv) := by
  cases rv with
  | sh d => exact ⟨h, trivial⟩
  | ow ds =>
    obtain ⟨a, e, n, o⟩ := h
    refine ⟨⟨a, e, o, fun i hi => ?_⟩, fun b eb => ?_⟩
    · obtain ⟨ob, z⟩ := hr i a hi
      rw [n] at z
      cases z
    · rw [e] at eb
      cases eb
      exact n
end
section
variable {X : Cx} {T : ThP} {W : WX} {e a b c : Expr} {es : List Expr} {pos p : Pos}
abbrev GV (X : Cx) (T : ThP) (W : WX) (es : List Expr) (f : Fr → Rs (List Av)) : Prop := PA X es (tG X.K X.mg T (okAv X.K T) W f)
/-- one argument: data; a list to be changed; a function -/
def aD (f : Fr → Rs Ev) : Fr → Rs Av := bnd f fun x => bnd (fzM x) fun d => ret (.d d)
def aIO (f : Fr → Rs Ev) : Fr → Rs Av := bnd f fun x => match x with
  | .al i => ret (.io i)
  | _ => fun _ => .st
def aFn (f : Fr → Rs Ev) : Fr → Rs Av := bnd f fun x => match x with
  | .fn m => ret (.fn m)
  | _ => fun _ => .st
def avC (f : Fr → Rs Av) (g : Fr → Rs (List Av)) : Fr → Rs (List Av) := bnd f fun x => bnd g fun xs => ret (x :: xs)
theorem gv_nil : GV X T W [] (ret []) := PA.weak pa_nil fun σ H Q ⟨F, fr, r, A, q⟩ => q [] F H r A .nil Step.refl
theorem gv_d {f : Fr → Rs Ev} {g : Fr → Rs (List Av)} (h : GE X T W e f) (h2 : GV X T W es g) (hs : starEach (e :: es) X.env = (false, eval e X.env) :: starEach es X.env := by rfl) : GV X T W (e :: es) (avC (aD f) g) := by
  refine PA.weak (pa_cons h h2 hs) fun σ H Q ⟨F, fr, r, A, q⟩ => ?_
  have q : cont X.K X.mg T (okAv X.K T) W F H fr r σ Q ((bnd f fun x => bnd (fzM x) fun d => bnd g fun xs => ret (.d d :: xs)) fr) := by
    unfold avC aD bnd at q
    unfold bnd
    cases e1 : f fr with
    | st => simp only [e1] at q ⊢; exact q
    | ex c w fr' => simp only [e1] at q ⊢; exact q
    | ok x fr1 =>
      simp only [e1] at q ⊢
      cases e2 : fzM x fr1 with
      | st => simp only [e2] at q ⊢; exact q
      | ex c w fr' => simp only [e2] at q ⊢; exact q
      | ok d fr2 => simp only [e2] at q ⊢; exact q
  refine ⟨F, fr, r, A, (use_ok q).mono fun v1 H1 ⟨x, F1, fr1, r1, A1, o1, s1, h1⟩ => ?_⟩
  unfold bnd fzM at h1
  cases ez : fz fr1 x with
  | none => simp only [ez] at h1; exact h1.elim
  | some p =>
    obtain ⟨d, fr1'⟩ := p
    simp only [ez] at h1
    obtain ⟨F2, r2, A2, R2, s2⟩ := fz_step s1 A1 o1.1 o1.2 ez
    refine ⟨F2, fr1', r2, A2, ?_⟩
    have h2 : cont X.K X.mg T (okAv X.K T) W F H fr r σ Q ((bnd g fun ds => ret (.d d :: ds)) fr1') := h1
    refine (use_ok (h2.rebase s2 (okAv.back s2))).mono fun vs H3 ⟨ds, F3, fr3, r3, A3, o3, s3, h3⟩ => ?_
    exact h3 (v1 :: vs) F3 H3 r3 A3 (.cons (Rt.ext (s3.ext A2) R2) o3) s3
theorem gv_io {f : Fr → Rs Ev} {g : Fr → Rs (List Av)} (h : GE X T W e f) (h2 : GV X T W es g) (hs : starEach (e :: es) X.env = (false, eval e X.env) :: starEach es X.env := by rfl) : GV X T W (e :: es) (avC (aIO f) g) := by
  refine PA.weak (pa_cons h h2 hs) fun σ H Q ⟨F, fr, r, A, q⟩ => ?_
  have q : cont X.K X.mg T (okAv X.K T) W F H fr r σ Q ((bnd f fun x => match x with
      | .al i => bnd g fun xs => ret (.io i :: xs)
      | _ => fun _ => .st) fr) := by
    unfold avC aIO bnd at q
    unfold bnd
    cases e1 : f fr with
    | st => simp only [e1] at q ⊢; exact q
    | ex c w fr' => simp only [e1] at q ⊢; exact q
    | ok x fr1 =>
      simp only [e1] at q ⊢
      cases x <;> exact q
  refine ⟨F, fr, r, A, (use_ok q).mono fun v1 H1 ⟨x, F1, fr1, r1, A1, o1, s1, h1⟩ => ?_⟩
  cases x with
  | al i =>
    refine ⟨F1, fr1, r1, A1, ?_⟩
    refine (use_ok (h1.rebase s1 (okAv.back s1))).mono fun vs H3 ⟨ds, F3, fr3, r3, A3, o3, s3, h3⟩ => ?_
    exact (h3 (v1 :: vs) F3 H3 r3 A3 (.cons (show AvOK X.K T F3 H3 σ v1 (.io i) from o1.1) o3) s3)
  | sh d => exact h1.elim
  | ow d => exact h1.elim
  | fn d => exact h1.elim
/-- f(e, ..) -/
theorem call_reads {m : Md} {f : Fr → Rs (List Av)} {C : Cx} (σ : L2.St) (H : Hp) (Q : VK) (h : tE X.K X.mg T W (bnd f (callM m)) σ H Q) :
    tCallSD (spD X.K X.mg T.tb m) [] (WE W) (tG X.K X.mg T (okAv X.K T) W f) σ H Q := by
  obtain ⟨F, fr, r, A, q⟩ := h
  refine ⟨F, fr, r, A, (use_ok q).mono fun vs H1 ⟨avs, F1, fr1, r1, A1, o1, s1, h1⟩ => ?_⟩
  rw [List.append_nil]
  unfold callM at h1
  split at h1
  · rename_i hn
    cases e1 : resolve fr1 avs with
    | none => rw [e1] at h1; exact h1.elim
    | some das =>
      rw [e1] at h1
      obtain ⟨S, hA, hR⟩ := args_of A1 (show AvsOK X.K T F1 H1 σ vs avs from o1) e1 hn
      refine ⟨F1, das, S, ⟨A1.ftr, A1.tabs⟩, hA, ?_⟩
      dsimp only at h1
      cases e2 : m das with
      | st => rw [e2] at h1; exact h1.elim
      | ex c w ios =>
        rw [e2] at h1
        intro C dd v F' H' hm fo io hd hv s
        obtain ⟨A2, s2⟩ := after_call A1 hR fo io s
        exact h1 C dd v F' H' r1 hm A2 hd hv (s1.trans s2)
      | ret rv ios =>
        rw [e2] at h1
        intro v F' H' fo io hv s
        obtain ⟨A2, s2⟩ := after_call A1 hR fo io s
        obtain ⟨q1, q2⟩ := hv.ev A2 fun i a hi => (A1.rootL hi).elim fun xs h => ⟨_, h⟩
        exact h1 v F' H' r1 A2 ⟨q1, q2.back s1⟩ (s1.trans s2)
  · exact h1.elim
theorem ge_call {k : Nat} {f : Addr} {fd : FuncData} {ps : List Str} {m : Md} {x : Str} {g : Fr → Rs (List Av)} (tk : L2N.Takes X W) (G : FnOk X.prog X.w X.K X.mg X.base (L2N.CX X.prog X.w) k f fd ps (spD X.K X.mg T.tb m)) (hr : Room k X.A) (hg : Gl X x) (hm : X.mg x = some (.ref f))
    (hk : PySem.W.keepIn X.K (.ref f) = true) (hb : Binds X.K fd ps []) (ha : GV X T W (e :: es) g) (hdb : (x == ("__debug__" : Str)) = false := by decide) (he : starEach (e :: es) X.env = (false, eval e X.env) :: starEach es X.env := by rfl)
    (hpl : (backTo pos (starEach es X.env)).any (·.1) = false := by rfl) : GE X T W (.Call (.Name x p) (e :: es) [] pos) (bnd g (callM m)) :=
  PE.weak (pe_callSD G hr hg hm hk hb .nil (fun σ => L2N.passAt tk σ) ha hdb he hpl) fun σ H Q q => call_reads (C := X) σ H Q q
theorem ge_call0 {k : Nat} {f : Addr} {fd : FuncData} {ps : List Str} {m : Md} {x : Str} (tk : L2N.Takes X W) (G : FnOk X.prog X.w X.K X.mg X.base (L2N.CX X.prog X.w) k f fd ps (spD X.K X.mg T.tb m)) (hr : Room k X.A) (hg : Gl X x) (hm : X.mg x = some (.ref f))
    (hk : PySem.W.keepIn X.K (.ref f) = true) (hb : Binds X.K fd ps []) (hdb : (x == ("__debug__" : Str)) = false := by decide) : GE X T W (.Call (.Name x p) [] [] pos) (callM m []) := by
  refine ⟨fun pins s σ H Q I h => ?_⟩
  refine wpAny_Call_Name_kw (ld_glob I hg hm ?_ hdb)
  refine PySem.W.callWith_K0 I.kIn hk (run_fnSD (us := []) (vs := []) (ds := []) (dvs := []) (E := WE W) G hr hb .nil (L2N.passAt tk σ) I .nil ?_)
  have q := call_reads (C := X) (f := ret []) (m := m) (X := X) (T := T) (W := W) σ H Q h
  obtain ⟨F, fr, r, A, q⟩ := q
  exact q [] F H r A .nil Step.refl
end

/-! ### the def's side -/
def toSv : DA → Sv
  | .d x => .sh x
  | .io ds => .li true false ds
  | .fn m => .fn m
def fr0 (N : Nat) (das : List DA) : Fr := das.map toSv ++ List.replicate (N - das.length) .no
/-- the lists handed in, at the end -/
def iosOf : List DA → Fr → Option (List (List PyData))
  | [], _ => some []
  | .io _ :: das, .li true _ ds :: fr => (iosOf das fr).map (ds :: ·)
  | .io _ :: _, _ => none
  | _ :: das, _ :: fr => iosOf das fr
  | _ :: _, [] => none
def rvOf (fr : Fr) : Ev → Option Rv
  | .sh d => some (.sh d)
  | .ow ds => some (.ow ds)
  | .al i => match fr[i]? with
    | some (.sh d) => some (.sh d)
    | some (.li false _ ds) => some (.ow ds)
    | _ => none
  | .fn _ => none
def finish (das : List DA) : Rs Fl → DO
  | .ok (.rt e) fr => match rvOf fr e, iosOf das fr with
    | some rv, some ios => .ret rv ios
    | _, _ => .st
  | .ok .nx fr => match iosOf das fr with
    | some ios => .ret (.sh .none) ios
    | none => .st
  | .ok _ _ => .st
  | .ex c w fr => match iosOf das fr with
    | some ios => .ex c w ios
    | none => .st
  | .st => .st
def mkM (np N : Nat) (body : Fr → Rs Fl) : Md := fun das => if das.length = np then finish das (body (fr0 N das)) else .st
section
variable {K : PySem.W.Frag} {T : ThP} {F F' : FS} {H H' : Hp} {σ σ' : L2.St}
def root0 (vs : List V) (das : List DA) : Ro := fun i => match das[i]?, vs[i]? with
  | some (.io _), some (.ref a) => some a
  | _, _ => none
theorem root0_mem {vs : List V} {das : List DA} {S : List Addr} (h : ArgsOK K F H vs das S) : ∀ {i a}, root0 vs das i = some a → a ∈ S := by
  induction h with
  | nil => intro i a e; simp [root0] at e
  | @d v x vs das S h1 h2 ih =>
    intro i a e
    cases i with
    | zero => simp [root0] at e
    | succ i => exact ih (i := i) (by simpa [root0] using e)
  | @io b ds vs das S h1 h2 h3 ih =>
    intro i a e
    cases i with
    | zero =>
      simp [root0] at e
      rw [e]
      exact List.mem_cons_self
    | succ i => exact List.mem_cons_of_mem _ (ih (i := i) (by simpa [root0] using e))
theorem root0_inj {vs : List V} {das : List DA} {S : List Addr} (h : ArgsOK K F H vs das S) : ∀ {i j a}, root0 vs das i = some a → root0 vs das j = some a → i = j := by
  induction h with
  | nil => intro i j a e; simp [root0] at e
  | @d v x vs das S h1 h2 ih =>
    intro i j a e1 e2
    cases i with
    | zero => simp [root0] at e1
    | succ i =>
      cases j with
      | zero => simp [root0] at e2
      | succ j => rw [ih (i := i) (j := j) (by simpa [root0] using e1) (by simpa [root0] using e2)]
  | @io b ds vs das S h1 h2 h3 ih =>
    intro i j a e1 e2
    cases i with
    | zero =>
      cases j with
      | zero => rfl
      | succ j =>
        simp [root0] at e1
        subst e1
        exact (h2 (root0_mem h3 (i := j) (by simpa [root0] using e2))).elim
    | succ i =>
      cases j with
      | zero =>
        simp [root0] at e2
        subst e2
        exact (h2 (root0_mem h3 (i := i) (by simpa [root0] using e1))).elim
      | succ j => rw [ih (i := i) (j := j) (by simpa [root0] using e1) (by simpa [root0] using e2)]
theorem ArgsOK.slot {vs : List V} {das : List DA} {S : List Addr} (h : ArgsOK K F H vs das S) : ∀ {i : Nat} {da : DA}, das[i]? = some da → SlotOK K T F H ((vs.map some)[i]?) (root0 vs das i) (toSv da) := by
  induction h with
  | nil => intro i da e; simp at e
  | @d v x vs das S h1 h2 ih =>
    intro i da e
    cases i with
    | zero =>
      simp at e
      subst e
      exact ⟨rfl, v, rfl, h1⟩
    | succ i =>
      have q := ih (i := i) (da := da) (by simpa using e)
      simpa [root0] using q
  | @io b ds vs das S h1 h2 h3 ih =>
    intro i da e
    cases i with
    | zero =>
      simp at e
      subst e
      exact ⟨b, rfl, rfl, h1⟩
    | succ i =>
      have q := ih (i := i) (da := da) (by simpa using e)
      simpa [root0] using q
theorem at_start {N : List Str} {vs : List V} {das : List DA} {S : List Addr} (h : ArgsOK K F H vs das S) (o : FOk T.tb F H) (hN : vs.length ≤ N.length) : At K T F H (L2.start N vs) (fr0 N.length das) (root0 vs das) := by
  have hl := h.length
  refine ⟨?_, fun i s e => ?_, fun i e => ?_, fun i j a => root0_inj h, o.ftr, o.tabs⟩
  · unfold fr0 L2.start
    rw [List.length_append, List.length_append, List.length_map, List.length_map, List.length_replicate, List.length_replicate, hl]
  · unfold fr0 at e
    by_cases hi : i < das.length
    · rw [List.getElem?_append_left (by rw [List.length_map]; exact hi), List.getElem?_map] at e
      cases q : das[i]? with
      | none => rw [q] at e; cases e
      | some da =>
        rw [q] at e
        cases e
        unfold L2.start
        rw [List.getElem?_append_left (by rw [List.length_map, hl]; exact hi)]
        exact h.slot q
    · have e' := e
      rw [List.getElem?_append_right (by rw [List.length_map]; omega)] at e
      have es : s = .no := by
        have := List.mem_of_getElem? e
        exact (List.mem_replicate.mp this).2
      subst es
      show root0 vs das i = none
      unfold root0
      rw [List.getElem?_eq_none (by omega : das.length ≤ i)]
  · unfold fr0 at e
    rw [List.getElem?_eq_none_iff, List.length_append, List.length_map, List.length_replicate] at e
    unfold root0
    rw [List.getElem?_eq_none (by omega : das.length ≤ i)]
/-- the lists at the end lie where they lay -/
theorem ios_end {vs : List V} {das : List DA} {S : List Addr} (h : ArgsOK K F H vs das S) : ∀ {fr : Fr} {ios : List (List PyData)} {g : Nat → Option Addr},
    (∀ i ds a, das[i]? = some (.io ds) → root0 vs das i = some a → ∃ lk ds', fr[i]? = some (.li true lk ds') ∧ g i = some a) → (∀ i lk ds a, fr[i]? = some (.li true lk ds) → g i = some a → Own K F' H' a ds) → iosOf das fr = some ios → IosOK K F' H' S ios := by
  induction h with
  | nil =>
    intro fr ios g _ _ e
    simp [iosOf] at e
    subst e
    exact .nil
  | @d v x vs das S h1 h2 ih =>
    intro fr ios g hio ho e
    cases fr with
    | nil => cases e
    | cons sv fr =>
      exact ih (g := fun i => g (i + 1)) (fun i ds a e1 e2 => by
        obtain ⟨lk, ds', q1, q2⟩ := hio (i + 1) ds a (by simpa using e1) (by simpa [root0] using e2)
        exact ⟨lk, ds', by simpa using q1, q2⟩) (fun i lk ds a e1 e2 => ho (i + 1) lk ds a (by simpa using e1) e2) (by simpa [iosOf] using e)
  | @io b ds vs das S h1 h2 h3 ih =>
    intro fr ios g hio ho e
    cases fr with
    | nil => cases e
    | cons sv fr =>
      obtain ⟨lk, ds', q1, q2⟩ := hio 0 ds b rfl rfl
      have q1 : sv = .li true lk ds' := by simpa using q1
      subst q1
      simp only [iosOf, Option.map_eq_some_iff] at e
      obtain ⟨ios', e1, rfl⟩ := e
      refine .cons (ho 0 lk ds' b rfl q2) (ih (g := fun i => g (i + 1)) (fun i ds a e1 e2 => ?_) (fun i lk ds a e1 e2 => ho (i + 1) lk ds a (by simpa using e1) e2) e1)
      obtain ⟨lk, ds', q1, q2⟩ := hio (i + 1) ds a (by simpa using e1) (by simpa [root0] using e2)
      exact ⟨lk, ds', by simpa using q1, q2⟩
end
end FL


set_option Elab.async false
set_option maxRecDepth 100000
set_option maxHeartbeats 4000000
/-! FLN: errors whose context is told to be None (L2N's ways of leaving), for what is done within an except suite -/
namespace FL
open PySem PySem.Spec PyProof.Rows L2
open PySem.HandSPX (excO)
theorem passN {X : Cx} : Passes (L2N.CX X.prog X.w) X (fun _ _ _ => False) := fun _ _ _ _ _ _ _ ⟨_, _, _, _, _, _, _, _, _, _, _, _, no⟩ => no.elim
theorem takes0N {X : Cx} : L2N.Takes X (fun _ _ _ _ => False) := fun _ _ ⟨_, _, _, _, _, _, _, _, _, _, _, _, _, _, _, _, no⟩ => no.elim
section
variable {X : Cx} {e : Expr} {es : List Expr} {ta : TA} {p pos : Pos}
/-- C(e, ..) of a class with its own __init__: the new error's context is None -/
theorem pmk_oexN {CX : CXT} {x : Str} {C fI : Addr} {k : Nat} {fd : FuncData} {ps : List Str} {sp : Sp} {ds : List Value} {dvs : List V} (T : OexC X.K C) (hfind : PySem.W.findIn X.K (.ref C) "__init__" = some (some (.ref fI))) (hty : PySem.W.typeIn X.K (.ref fI) = some (.type "function"))
    (G : FnOk X.prog X.w X.K X.mg X.base CX k fI fd ps sp) (room : Room (k + 1) X.A) (bd : Binds X.K fd ps ds) (dv : Vals dvs ds) (out : Passes CX X (fun _ _ _ => False)) (gl : Gl X x) (mgx : X.mg x = some (.ref C)) (args : PA X (e :: es) ta)
    (ndb : (x == ("__debug__" : Str)) = false := by decide) (st : starEach (e :: es) X.env = (false, eval e X.env) :: starEach es X.env := by rfl) (pl : (backTo pos (starEach es X.env)).any (·.1) = false := by rfl) :
    L2N.PMk X (.Call (.Name x p) (e :: es) [] pos) (tMkO C sp dvs ta) := by
  intro pins s₀ σ H₀ Q inv₀ wish
  obtain ⟨_, _, _, _, bm, _, _, _, _, _, _, _, _, _, _, hC, hbm⟩ := T.cls
  apply wpAny_Call_Name_kw
  refine ld_glob inv₀ gl mgx ?_ ndb
  refine PySem.W.callWith_K (h₀ := X.base) inv₀.ok.mod.kin T.kC (thn (args.run pos pins s₀ σ H₀ _ inv₀ wish) fun us st1 got => ?_) st pl
  obtain ⟨vs, H₁, inv₁, rvs, few, fin⟩ := got
  refine ⟨inv₁.kIn, ?_⟩
  obtain ⟨h₁, g₁, dr₁, tk₁, os₁⟩ := st1
  have up1 : h₁.objs.size ≤ h₁.objs.size + 1 := Nat.le_add_right _ 1
  have fresh : H₁ (h₁.objs.size + 1) = none := inv₁.hok.fresh up1
  have fin' := fin (h₁.objs.size + 1) fresh
  generalize hh : (h₁.push (PySem.W.kdv_tup us)).push (excO C h₁.objs.size) = h₂
  have keep : ∀ b o, h₁.get? b = some o → h₂.get? b = some o := fun b o q => hh ▸ Heap.get?_push_of_some _ (Heap.get?_push_of_some _ q)
  have there : h₂.get? (h₁.objs.size + 1) = some (excO C h₁.objs.size) := by
    subst hh
    heap_get
  have inv₂ : Inv X pins σ (upd H₁ (h₁.objs.size + 1) (exo (h₁.objs.size + 1) C none)) ⟨h₂, g₁, dr₁, tk₁, os₁⟩ := inv₁.laid (t' := tk₁) keep up1 (exo_ok there)
  have rel : Vals (V.ref (h₁.objs.size + 1) :: (vs ++ dvs)) (Value.ref (h₁.objs.size + 1) :: (us ++ ds)) := .cons rfl (rvs.append dv)
  have many : (Value.ref (h₁.objs.size + 1) :: us ++ ds).length = ps.length := (rel.length.symm.trans (G.len _ _ _ _ fin'))
  have line : us.length ≤ sizeLine := by
    have := Paired.length rvs
    rw [sizeLine_eq]
    omega
  subst hh
  refine wpAny_call (PySem.HandSPX.call_own F.excBase_ValueError (fun Y => PySem.HandSPX.refsVE_contains Y bm hbm) (inv₁.kIn _ _ hC) (PySem.W.looks_findIn inv₁.kIn hfind) (fun self => PySem.W.bind_fn inv₁.kIn self hty) line
    (codeAny_mono (G.run _ X.stack _ _ ⟨Value.ref (h₁.objs.size + 1) :: us, []⟩ (Value.ref (h₁.objs.size + 1) :: (us ++ ds)) _ _ (fun _ _ _ => False) (room.make C us []) (inv₂.env0.make C us []) (bd _ (Value.ref (h₁.objs.size + 1) :: us) inv₂.kIn many) rel fin')
      fun res st2 post => ?_))
  cases res with
  | error er => exact out pins σ _ _ er st2 inv₂ post
  | ok fl =>
    cases fl <;> first | exact False.elim post | skip
    obtain ⟨v, H₂, hos, bare, un, hok, rv, ev, d, fs, ea, ed, hd, wish'⟩ := post
    subst ev
    obtain ⟨h₃, g₃, dr₃, tk₃, os₃⟩ := st2
    obtain ⟨t0, low, J, kl, _, at0, na⟩ := mk_end0 (d2 := dr₃) (t2 := tk₃) inv₁ up1 keep un hok hos bare ea ed hd
    rename_i lo
    exact ⟨rv, _, _, _, ⟨low, g₃, dr₃, tk₃, os₃⟩, _, .ref C, some d, rfl, J, kl, by assumption, at0, ⟨rfl, rfl, fun _ z => by cases z; rfl⟩, rfl, rfl, na, rfl, bare, raises_own T.exC T.tyC, wish'⟩
end
end FL


set_option Elab.async false
set_option maxRecDepth 100000
set_option maxHeartbeats 4000000
namespace FL
open PySem PySem.Spec PyProof.Rows L2

/-! ### a def, by its body -/
section
variable {P : Program} {w : World} {K : PySem.W.Frag} {mg : Str → Option Value} {base : Heap} {tb : List (Addr × Str)}
theorem rv_end {T : ThP} {F' : FS} {H H' : Hp} {σ' : L2.St} {fr' : Fr} {r' : Ro} {v : V} {e : Ev} {rv : Rv} (A : At K T F' H' σ' fr' r') (o : EvOK K T F' H' σ' r' v e) (n : New H v e) (q : rvOf fr' e = some rv)
    (hroot : ∀ i a, r' i = some a → (∃ lk ds, fr'[i]? = some (.li false lk ds)) → H a = none) : RvK K F' H' H v rv := by
  cases e with
  | sh d =>
    cases q
    exact o
  | ow ds =>
    cases q
    obtain ⟨a, e, ow, _⟩ := o
    exact ⟨a, e, n a e, ow⟩
  | fn m => cases q
  | al i =>
    have o : σ'[i]? = some (some v) := o
    simp only [rvOf] at q
    split at q
    · rename_i d hs
      cases q
      obtain ⟨_, v', e1, e2⟩ := A.slot i _ hs
      rw [o] at e1
      cases e1
      exact e2
    · rename_i lk ds hs
      cases q
      obtain ⟨a, e0, e1, e2⟩ := A.slot i _ hs
      rw [o] at e1
      cases e1
      exact ⟨a, rfl, hroot i a e0 ⟨lk, ds, hs⟩, e2⟩
    · cases q
theorem sp_len {np nN : Nat} {body : Fr → Rs Fl} {vs : List V} {H : Hp} {Q : VK} {E : XK} (h : spD K mg tb (mkM np nN body) vs H Q E) : vs.length = np := by
  obtain ⟨F, das, S', o, ha, q⟩ := h
  by_cases e : das.length = np
  · rw [ha.length, e]
  · unfold mkM at q
    rw [if_neg e] at q
    exact q.elim
/-- the body's function is what the code does -/
theorem fn_core {qual : Str} {bst : List Stmt} {scope : Scope} {f : Addr} {N ps : List Str} {body : Fr → Rs Fl} {cdv : Value} {A : Around} {outer : List Env} {s : Shared} {H : Hp} {E : XK} {vs : List V} {Q : VK} (S : FnScope N ps scope)
    (hb : GSs (cxOf (L2N.CX P w) P w K mg base N qual scope f cdv A outer s H E) (noTh tb) (fun cls d _ H => E cls d H) bst body) (h : spD K mg tb (mkM ps.length N.length body) vs H Q E) :
    ∃ t, PSs (cxOf (L2N.CX P w) P w K mg base N qual scope f cdv A outer s H E) bst t ∧ t { nx := fun _ H' => Q .non H', rt := Q } (start N vs) H := by
  have hl := sp_len h
  refine ⟨_, hb, ?_⟩
  obtain ⟨F, das, S', o, ha, q⟩ := h
  have hpl : ps.length ≤ N.length := by
    have := congrArg List.length S.pre
    rw [List.length_take] at this
    omega
  have A0 : At K (noTh tb) F H (L2.start N vs) (fr0 N.length das) (root0 vs das) := at_start (T := noTh tb) ha o (by omega)
  refine ⟨F, _, _, A0, ?_⟩
  have hd : das.length = ps.length := by rw [← ha.length]; exact hl
  unfold mkM at q
  rw [if_pos hd] at q
  -- what a step leaves of the lists that were handed in
  have hio : ∀ i ds a, das[i]? = some (.io ds) → root0 vs das i = some a → (fr0 N.length das)[i]? = some (.li true false ds) := fun i ds a e _ => by
    unfold fr0
    have hi : i < das.length := (List.getElem?_eq_some_iff.mp e).1
    rw [List.getElem?_append_left (by rw [List.length_map]; exact hi), List.getElem?_map, e]
    rfl
  have rootIo : ∀ i a, root0 vs das i = some a → ∃ ds, das[i]? = some (.io ds) := fun i a e => by
    unfold root0 at e
    split at e
    · rename_i ds b h1 h2
      exact ⟨ds, h1⟩
    · cases e
  have ends : ∀ {σ' F' H' fr' r' ios}, At K (noTh tb) F' H' σ' fr' r' → Step F H (fr0 N.length das) (root0 vs das) F' H' fr' r' → iosOf das fr' = some ios →
      FOk tb F' H' ∧ IosOK K F' H' S' ios ∧ CStep F H F' H' S' := fun {σ' F' H' fr' r' ios} A1 s1 e => by
    have h1 : ∀ i ds a, das[i]? = some (.io ds) → root0 vs das i = some a → ∃ lk ds', fr'[i]? = some (.li true lk ds') ∧ r' i = some a := fun i ds a e1 e2 => by
      obtain ⟨⟨ds', q1⟩, q2⟩ := s1.io i false ds (hio i ds a e1 e2)
      exact ⟨false, ds', q1, q2.trans e2⟩
    refine ⟨⟨A1.ftr, A1.tabs⟩, ios_end ha (g := r') h1 (fun i lk ds a e1 e2 => ?_) e, s1.sub, fun a h => ?_, fun a ob h nt n => s1.keep a ob h nt fun i hi => n (root0_mem ha hi), s1.trk⟩
    · obtain ⟨b, q1, q2, q3⟩ := A1.slot i _ e1
      rw [e2] at q1
      cases q1
      exact q3
    · rcases s1.new a h with h | h | ⟨i, hi⟩
      · exact .inl h
      · exact .inr h
      · obtain ⟨ds, hds⟩ := rootIo i a hi
        obtain ⟨lk, ds', q1, q2⟩ := h1 i ds a hds hi
        obtain ⟨b, z1, z2, z3⟩ := A1.slot i _ q1
        rw [q2] at z1
        cases z1
        exact (z3.1 h).elim
  have fresh : ∀ {σ' F' H' fr' r'}, At K (noTh tb) F' H' σ' fr' r' → Step F H (fr0 N.length das) (root0 vs das) F' H' fr' r' → ∀ i a, r' i = some a → (∃ lk ds, fr'[i]? = some (.li false lk ds)) → H a = none := fun {σ' F' H' fr' r'} A1 s1 i a hi ⟨lk, ds, hs⟩ => by
    rcases s1.root i a hi with ⟨j, hj⟩ | h
    · obtain ⟨ds0, hds⟩ := rootIo j a hj
      obtain ⟨⟨ds', q1⟩, q2⟩ := s1.io j false ds0 (hio j ds0 a hds hj)
      have e : i = j := A1.inj i j a hi (q2.trans hj)
      subst e
      rw [hs] at q1
      cases q1
    · exact h
  cases e : body (fr0 N.length das) with
  | st =>
    rw [e] at q
    exact q.elim
  | ex c w' fr' =>
    rw [e] at q
    unfold finish at q
    cases e2 : iosOf das fr' with
    | none => simp only [e2] at q
    | some ios =>
      simp only [e2] at q
      intro C dd v σ' F' H' r' hm A1 hdd hv s1
      obtain ⟨f1, f2, f3⟩ := ends A1 s1 e2
      exact q C dd v F' H' hm f1 f2 hdd hv f3
  | ok fl fr' =>
    rw [e] at q
    cases fl with
    | bk => exact q.elim
    | ct => exact q.elim
    | nx =>
      unfold finish at q
      cases e2 : iosOf das fr' with
      | none => simp only [e2] at q
      | some ios =>
        simp only [e2] at q
        intro σ' F' H' r' A1 s1
        obtain ⟨f1, f2, f3⟩ := ends A1 s1 e2
        exact q .non F' H' f1 f2 (show RvK K F' H' H .non (.sh .none) from Rt.non) f3
    | rt ev =>
      unfold finish at q
      cases e3 : rvOf fr' ev with
      | none => simp only [e3] at q
      | some rv =>
        cases e2 : iosOf das fr' with
        | none => simp only [e3, e2] at q
        | some ios =>
          simp only [e3, e2] at q
          intro σ' v F' H' r' A1 o1 n1 s1
          obtain ⟨f1, f2, f3⟩ := ends A1 s1 e2
          exact q v F' H' f1 f2 (rv_end A1 o1 n1 e3 (fresh A1 s1)) f3

/-- what a def does: its body's function -/
theorem fn_ok {x qual : Str} {st : Stmt} {f : Addr} {fd : FuncData} {N ps : List Str} {k : Nat} {body : Fr → Rs Fl} (G : Fun K x qual st f fd) (S : FnScope N ps (defScope st))
    (hb : ∀ (cdv : Value) (A : Around) (outer : List Env) (s : Shared) (H : Hp) (E : XK), Room k (A.deeper (envOfC qual (defScope st) s.heap.objs.size f cdv)) →
      L2N.Takes (cxOf (L2N.CX P w) P w K mg base N qual (defScope st) f cdv A outer s H E) (fun cls d _ H => E cls d H) →
      GSs (cxOf (L2N.CX P w) P w K mg base N qual (defScope st) f cdv A outer s H E) (noTh tb) (fun cls d _ H => E cls d H) (defBody st) body) :
    FnOk P w K mg base (L2N.CX P w) (k + 1) f fd ps (spD K mg tb (mkM ps.length N.length body)) := by
  obtain ⟨oc, od, kV, doc, pm, an, cdv, ct, osl, rfl, lk, hcd⟩ := G.ex
  exact fn_of lk hcd S (fun vs H Q E h => sp_len h) fun A outer s H vs Q E hr h => fn_core S (hb cdv A outer s H E hr (L2N.takes_of rfl rfl rfl rfl)) h
/-- .. its code object told -/
theorem fn_okC {x qual : Str} {st : Stmt} {f c : Addr} {N ps : List Str} {k : Nat} {body : Fr → Rs Fl} {oc : Value} {od an : Option Addr} {osl : Array (Option Value)} {kV doc pm ct : Value} (l : K.lookup f = some ⟨oc, od, .func (PySem.W.fnOf x qual (defArgs st) (defBody st) (defScope st) .none kV doc pm an (.ref c) ct), osl⟩)
    (hcd : PySem.W.codeIn K (.ref c) qual = true) (S : FnScope N ps (defScope st))
    (hb : ∀ (A : Around) (outer : List Env) (s : Shared) (H : Hp) (E : XK), Room k (A.deeper (envOfC qual (defScope st) s.heap.objs.size f (.ref c))) →
      L2N.Takes (cxOf (L2N.CX P w) P w K mg base N qual (defScope st) f (.ref c) A outer s H E) (fun cls d _ H => E cls d H) →
      GSs (cxOf (L2N.CX P w) P w K mg base N qual (defScope st) f (.ref c) A outer s H E) (noTh tb) (fun cls d _ H => E cls d H) (defBody st) body) :
    FnOk P w K mg base (L2N.CX P w) (k + 1) f (PySem.W.fnOf x qual (defArgs st) (defBody st) (defScope st) .none kV doc pm an (.ref c) ct) ps (spD K mg tb (mkM ps.length N.length body)) :=
  fn_of l hcd S (fun vs H Q E h => sp_len h) fun A outer s H vs Q E hr h => fn_core S (hb A outer s H E hr (L2N.takes_of rfl rfl rfl rfl)) h
end

/-! ### errors -/
/-- the promise of Refused.__init__ -/
def spInit (K : PySem.W.Frag) : Sp := fun vs H Q _ => ∃ (a C : Addr) (v : V), vs = [.ref a, v] ∧ OexC K C ∧ PySem.W.findIn K (.ref C) "what" = some none ∧ H a = some (exo a C none) ∧
  ∀ dx, H dx = none → dx ≠ a → Q .non (upd (upd H dx (exd dx [("what", v)])) a (exo a C (some dx)))
/-- what the written part says of an error class of the program -/
structure ExcT (P : Program) (w : World) (K : PySem.W.Frag) (mg : Str → Option Value) (base : Heap) (c : Str) : Prop where
  ex : ∃ (C fI : Addr) (fd : FuncData), mg c = some (.ref C) ∧ OexC K C ∧ PySem.W.findIn K (.ref C) "what" = some none ∧ PySem.W.findIn K (.ref C) "__init__" = some (some (.ref fI)) ∧ PySem.W.typeIn K (.ref fI) = some (.type "function") ∧
    FnOk P w K mg base (L2N.CX P w) 1 fI fd ["self", "what"] (spInit K) ∧ Binds K fd ["self", "what"] []
section
variable {X : Cx} {T : ThP} {W : WX} {e a b c : Expr} {es : List Expr} {pos p p2 : Pos}
def raiseS (c : Str) (f : Fr → Rs Ev) : Fr → Rs Fl := bnd f fun x => bnd (fzM x) fun d fr => .ex c d fr
theorem gs_raise {x : Str} {f : Fr → Rs Ev} (hc : X.calm = true) (tk : L2N.Takes X W) (t : ExcT X.prog X.w X.K X.mg X.base x) (hr : Room 2 X.A) (hg : Gl X x) (he : GE X T W e f) (hdb : (x == ("__debug__" : Str)) = false := by decide)
    (hs : starEach [e] X.env = (false, eval e X.env) :: starEach [] X.env := by rfl) (hpl : (backTo p2 (starEach [] X.env)).any (·.1) = false := by rfl) : GS X T W (.Raise (some (.Call (.Name x p) [e] [] p2)) none pos) (raiseS x f) := by
  obtain ⟨C, fI, fd, hm, oex, hwt, iC, tI, G, hb⟩ := t.ex
  refine PS.weak (L2N.ps_raise hc tk (pmk_oexN oex iC tI G hr hb .nil passN hg hm (pa_cons he pa_nil hs) hdb hs hpl)) fun D σ H ⟨F, fr, r, A, q⟩ => ?_
  refine ⟨F, fr, r, A, (use_okS q).mono fun v1 H1 ⟨y, F1, fr1, r1, A1, o1, s1, h1⟩ => ?_⟩
  unfold bnd fzM at h1
  cases ez : fz fr1 y with
  | none => simp only [ez] at h1; exact h1.elim
  | some pr =>
    obtain ⟨d, fr1'⟩ := pr
    simp only [ez] at h1
    obtain ⟨F2, r2, A2, R2, s2⟩ := fz_step s1 A1 o1.1 o1.2 ez
    refine ⟨by show 1 ≤ 1000; decide, fun ae hae => ⟨ae, C, v1, rfl, oex, hwt, upd_same, fun dx hdx hne => ⟨rfl, dx, [("what", v1)], upd_same, ?_, ?_, ?_⟩⟩⟩
    · rw [upd_ne hne, upd_same]
    · rw [upd_ne hne] at hdx
      exact hdx
    · rw [upd_ne hne] at hdx
      have at_ : ∀ bb, bb ≠ ae → bb ≠ dx → upd (del (upd (upd (upd H1 ae (exo ae C none)) dx (exd dx [("what", v1)])) ae (exo ae C (some dx))) ae) dx (.xd [("what", v1)]) bb = H1 bb := fun bb n1 n2 => by
        rw [upd_ne n2, del_ne n1, upd_ne n1, upd_ne n2, upd_ne n1]
      have g : Grow H1 (upd (del (upd (upd (upd H1 ae (exo ae C none)) dx (exd dx [("what", v1)])) ae (exo ae C (some dx))) ae) dx (.xd [("what", v1)])) := fun bb ob hbb => by
        rw [at_ bb (ne_of_none hbb hae) (ne_of_none hbb hdx)]
        exact hbb
      have h2 : contS X.K X.mg T W F H fr r D (.ex x d fr1') := h1
      exact h2 C dx v1 σ F2 _ r2 hm (A2.grow g) upd_same (R2.ext g.ext) (s2.trans (Step.grow g))
end

/-! ### try, except -/
/-- the clauses' wishes -/
def wManyN (K : PySem.W.Frag) (Wout : WX) (D : Ends) : List (Value × Option Nat × (Addr → Value → Option Addr → TS)) → WX
  | [] => Wout
  | (c, none, ts) :: r => fun cls d σ H => ∃ b, PySem.W.exmOne K cls c = some b ∧ (b = true → ∀ a, H a = none → ts a cls d D σ H) ∧ (b = false → wManyN K Wout D r cls d σ H)
  | (c, some i, ts) :: r => fun cls d σ H => ∃ b, PySem.W.exmOne K cls c = some b ∧ (b = true → ∀ a, H a = none → ts a cls d { nx := fun σ' H' => D.nx (σ'.set i none) H', rt := D.rt, bk := fun σ' H' => D.bk (σ'.set i none) H', ct := fun σ' H' => D.ct (σ'.set i none) H' } (σ.set i (some (.ref a))) H) ∧ (b = false → wManyN K Wout D r cls d σ H)
inductive HdsOkN (X : Cx) : List ExceptHandler → List (Value × Option Nat × (Addr → Value → Option Addr → TS)) → Prop
  | nil : HdsOkN X [] []
  | cons {x : Str} {c : Value} {ts : Addr → Value → Option Addr → TS} {b₀ : Stmt} {suite : List Stmt} {np pos' : Pos} {hds : List ExceptHandler} {l : List (Value × Option Nat × (Addr → Value → Option Addr → TS))} (hc : Names X x c)
      (hsu : ∀ (a : Addr) (oe : Obj) (cls : Value) (d : Option Addr) (pn : List (Addr × Obj)), L2N.Zn cls d oe → (∃ vs, oe.data = .fields vs) → PSs (X.suite a ((a, oe) :: pn)) (b₀ :: suite) (ts a cls d)) (r : HdsOkN X hds l) :
      HdsOkN X (.ExceptHandler (some (.Name x np)) none (b₀ :: suite) pos' :: hds) ((c, none, ts) :: l)
  | consAs {x n : Str} {i : Nat} {c : Value} {ts : Addr → Value → Option Addr → TS} {b₀ : Stmt} {suite : List Stmt} {np pos' : Pos} {hds : List ExceptHandler} {l : List (Value × Option Nat × (Addr → Value → Option Addr → TS))} (hi : X.N[i]? = some n) (hln : X.env.kindOf n = some .local) (hc : Names X x c)
      (hsu : ∀ (a : Addr) (oe : Obj) (cls : Value) (d : Option Addr) (pn : List (Addr × Obj)), L2N.Zn cls d oe → (∃ vs, oe.data = .fields vs) → PSs (X.suite a ((a, oe) :: pn)) (b₀ :: suite) (ts a cls d)) (r : HdsOkN X hds l) :
      HdsOkN X (.ExceptHandler (some (.Name x np)) (some n) (b₀ :: suite) pos' :: hds) ((c, some i, ts) :: l)
section
variable {X : Cx} {body : List Stmt} {h₀ : ExceptHandler} {hds : List ExceptHandler} {l : List (Value × Option Nat × (Addr → Value → Option Addr → TS))} {pos : Pos} {tb : WX → TS} {Wout : WX}
theorem ps_try_manyN (hs : X.stack = X.env :: X.outer) (hf : X.env.frame = some X.env.locals) (hN : X.N.Nodup) (tk : L2N.Takes X Wout)
    (hb : ∀ (W : WX) (pn : List (Addr × Obj)) (xe : Value → Shared → Prop), L2N.Takes (X.tr pn xe) W → PassesOwn (model X.prog X.w) X.A X.env xe → PSs (X.tr pn xe) body (tb W))
    (hh : HdsOkN X (h₀ :: hds) l) : PS X (.Try body (h₀ :: hds) [] [] pos) (fun D σ H => tb (wManyN X.K Wout D l) D σ H) := by
  refine ⟨fun pins s σ H D I h => ?_⟩
  have ok := I.ok
  have hfr : X.A.frames = some (X.env :: X.outer) := by rw [ok.frames, hs]
  refine wpAny_Try_except ?_
  refine wpAny_mono ((hb (wManyN X.K Wout D l) (X.pn ++ pins) (fun e s₁ => wpAny (model X.prog X.w) X.A (noteFrame e X.env) (fun _ s₂ => wpAny (model X.prog X.w) X.A (setFlight e none) (fun _ s₃ =>
    wpAny (model X.prog X.w) X.A (handleBy e X.env (h₀ :: hds)) (SP X pins D) X.xe s₃) X.xe s₂) X.xe s₁) (fun u s' xx => ?_) PassesOwn.looking).run [] s σ H D (I.toTry _) h) (fun f s1 hsp => ?_) (fun e s1 he => he)
  · obtain ⟨a, B, sI, pins', σ', H', cls, d, rfl, J', nb, up, sky, na, os, ag, w⟩ := xx
    have J : Inv X pins σ' H' sI := J'.ofTry ok
    have sky' : Sky B (X.env :: X.outer) a (L2N.Zn cls d) X.env.locals s'.heap := by rw [← hs]; exact sky
    show wpAny (model X.prog X.w) X.A (noteFrame (.ref a) X.env) _ _ _
    refine L2N.Sky.land L2N.Zn.steady hfr hf sky' fun h3 fl3 up3 => ?_
    have J3 : Inv X pins σ' H' { s' with heap := h3 } := J.landed nb fl3.1 (up.trans up3) os ag
    obtain ⟨oe3, vs3, he3, hz3, hd3⟩ := fl3.there
    have notFr : ∀ {h : Heap} {o : Obj} {vs : Array Value}, h.FunFrames B (X.env :: X.outer) → h.get? a = some o → o.data = .fields vs → a ∉ frs (X.env :: X.outer) := fun {h o vs} ff e dd hm => by
      obtain ⟨_, o', e', hnf⟩ := ff.mem hm
      rw [e] at e'; cases e'
      exact hnf _ dd
    have nfr := notFr fl3.2.2.1 he3 hd3
    have nL : a ≠ X.env.locals := fun z => nfr (List.mem_filterMap.mpr ⟨X.env, List.mem_cons_self, by rw [hf, z]⟩)
    have nF : a ∉ X.fs := fun hm => by
      obtain ⟨e, he, q⟩ := List.mem_filterMap.mp hm
      exact nfr (List.mem_filterMap.mpr ⟨e, List.mem_cons_of_mem _ he, q⟩)
    have S3 := J3.suite he3 hd3 na nL nF
    have test : ∀ {x : Str} {np : Pos} {c : Value} {Q : Value → Shared → Prop} {E : Value → Shared → Prop}, Names X x c → Q c { s' with heap := h3 } → wpAny (model X.prog X.w) (X.A.mark (some (.ref a))) (eval (.Name x np) X.env) Q E { s' with heap := h3 } := fun {x np c Q E} hc q => by
      obtain ⟨hg, hdbg, hm | ⟨hm, hv, hnn⟩⟩ := hc
      · exact ld_glob (X := X.suite a ((a, oe3) :: (X.pn ++ pins))) S3 hg hm q hdbg
      · exact ld_blt (X := X.suite a ((a, oe3) :: (X.pn ++ pins))) S3 hg hm hv q hnn hdbg
    have LT : PySem.W.Looks (model X.prog X.w) h3 (typeOf (.ref a)) cls := fun A Q E s k q => wpAny_typeOf_ref (k _ _ he3) (by rw [hz3.1]; exact q)
    have go : ∀ {hds' : List ExceptHandler} {l' : List (Value × Option Nat × (Addr → Value → Option Addr → TS))}, HdsOkN X hds' l' → wManyN X.K Wout D l' cls d σ' H' →
        wpAny (model X.prog X.w) X.A (handleBy (.ref a) X.env hds') (SP X pins D) X.xe { s' with heap := h3 } := by
      intro hds' l' hk
      induction hk with
      | nil =>
        intro w
        refine wpAny_handleBy_nil ?_
        obtain ⟨k1, k2, k3, oe, vs, T, oT, ts', he, hz, hd, h1, hr⟩ := id fl3
        unfold PySem.passOn
        refine wpAny_bind (wpAny_field he hd h1 ?_)
        rw [if_neg (show ¬ ((Value.ref T == Value.none) = true) from by simp)]
        have fin : wpAny (model X.prog X.w) X.A (setFlight (.ref a) X.env.frame) (fun _ s4 => wpAny (model X.prog X.w) X.A (throw (.ref a) : Sem Flow) (SP X pins D) X.xe s4) X.xe { s' with heap := h3 } := by
          rw [hf]
          refine HandSPX.setFlight_upZ fl3 fun h4 hh4 up4 => wpAny_throw (tk _ _ ?_)
          exact ⟨a, B, sI, pins, σ', H', cls, d, rfl, J, nb, (up.trans up3).trans up4, .inr (.inr (by rw [hs]; exact hh4)), na, os, ag, w⟩
        first
          | exact wpAny_bind (wpAny_pure (wpAny_bind fin))
          | exact wpAny_bind fin
      | @cons x c ts b₀ suite np pos' hds2 l2 hc hsu r ih =>
        intro w
        obtain ⟨b, hb1, hyes, hno⟩ := w
        refine wpAny_handleBy_cons (codeAny_handlers_test ?_) (by intro q; cases q)
        have LM := PySem.W.exm_one (M := model X.prog X.w) (J3.kIn) LT hb1
        refine test hc (LM.here ?_)
        cases b with
        | true =>
          refine codeAny_handlers_suite ?_
          refine HandSPX.lands_againZ fl3 fun h4 fl4 up4 => ?_
          have J4 : Inv X pins σ' H' { s' with heap := h4 } := J.landed nb fl4.1 ((up.trans up3).trans up4) os ag
          obtain ⟨oe4, vs4, he4, hz4, hd4⟩ := fl4.there
          have S4 := J4.suite he4 hd4 na nL nF
          refine wpAny_mono ((hsu a oe4 cls d (X.pn ++ pins) hz4 ⟨_, hd4⟩).run [] _ _ H' _ S4 (hyes rfl a na)) (fun f s6 hsp => ?_) (fun _ _ z => False.elim z)
          cases f with
          | next =>
            obtain ⟨σ6, H6, S6, q6⟩ := hsp
            exact ⟨_, _, S6.unsuite ok, q6⟩
          | brk =>
            obtain ⟨σ6, H6, S6, q6⟩ := hsp
            exact ⟨_, _, S6.unsuite ok, q6⟩
          | cont =>
            obtain ⟨σ6, H6, S6, q6⟩ := hsp
            exact ⟨_, _, S6.unsuite ok, q6⟩
          | ret u =>
            obtain ⟨v6, σ6, H6, S6, r6, q6⟩ := hsp
            exact ⟨_, _, _, S6.unsuite ok, r6, q6⟩
        | false =>
          show wpAny _ X.A (handleBy (.ref a) X.env hds2) _ _ _
          exact ih (hno rfl)
      | @consAs x n i c ts b₀ suite np pos' hds2 l2 hi hln hc hsu r ih =>
        intro w
        obtain ⟨b, hb1, hyes, hno⟩ := w
        refine wpAny_handleBy_cons (codeAny_handlers_test ?_) (by intro q; cases q)
        have LM := PySem.W.exm_one (M := model X.prog X.w) (J3.kIn) LT hb1
        refine test hc (LM.here ?_)
        cases b with
        | true =>
          refine codeAny_handlers_suite_as ?_
          refine HandSPX.lands_againZ fl3 fun h4 fl4 up4 => ?_
          have J4 : Inv X pins σ' H' { s' with heap := h4 } := J.landed nb fl4.1 ((up.trans up3).trans up4) os ag
          obtain ⟨oe4, vs4, he4, hz4, hd4⟩ := fl4.there
          have S4 := J4.suite he4 hd4 na nL nF
          refine store_ok (X := X.suite a ((a, oe4) :: (X.pn ++ pins))) (v := .ref a) S4 hN hi (.inl hln) rfl (fun s5 S5 => ?_) (.inr hln)
          refine wpAny_mono ((hsu a oe4 cls d (X.pn ++ pins) hz4 ⟨_, hd4⟩).run [] s5 _ H' _ S5 (hyes rfl a na)) (fun f s6 hsp => ?_) (fun _ _ z => False.elim z)
          have end_ : ∀ {σ6 : L2.St} {H6 : Hp} {Q : Shared → Prop}, Inv (X.suite a ((a, oe4) :: (X.pn ++ pins))) [] σ6 H6 s6 → (∀ s7, Inv X pins (σ6.set i none) H6 s7 → Q s7) →
              wpAny (model X.prog X.w) X.A (do bindName X.env n .none; unbindBehindTheSuite X.env n pos') (fun _ s7 => Q s7) X.xe s6 := fun {σ6 H6 Q} S6 hq => gone_ok (S6.unsuite ok) hN hi hln hq
          cases f with
          | next =>
            obtain ⟨σ6, H6, S6, q6⟩ := hsp
            exact end_ S6 fun s7 J7 => ⟨_, _, J7, q6⟩
          | brk =>
            obtain ⟨σ6, H6, S6, q6⟩ := hsp
            exact end_ S6 fun s7 J7 => ⟨_, _, J7, q6⟩
          | cont =>
            obtain ⟨σ6, H6, S6, q6⟩ := hsp
            exact end_ S6 fun s7 J7 => ⟨_, _, J7, q6⟩
          | ret u =>
            obtain ⟨v6, σ6, H6, S6, r6, q6⟩ := hsp
            exact end_ S6 fun s7 J7 => ⟨_, _, _, J7, r6, q6⟩
        | false =>
          show wpAny _ X.A (handleBy (.ref a) X.env hds2) _ _ _
          exact ih (hno rfl)
    exact go hh w
  · cases f with
    | next =>
      obtain ⟨σ', H', J', q⟩ := hsp
      exact wpAny_execs_nil ⟨σ', H', J'.ofTry ok, q⟩
    | brk =>
      obtain ⟨σ', H', J', q⟩ := hsp
      exact ⟨σ', H', J'.ofTry ok, q⟩
    | cont =>
      obtain ⟨σ', H', J', q⟩ := hsp
      exact ⟨σ', H', J'.ofTry ok, q⟩
    | ret u =>
      obtain ⟨v, σ', H', J', r, q⟩ := hsp
      exact ⟨v, σ', H', J'.ofTry ok, r, q⟩
end
end FL


set_option Elab.async false
set_option maxRecDepth 100000
set_option maxHeartbeats 4000000
namespace FL
open PySem PySem.Spec PyProof.Rows L2

/-! ### try, except: the function -/
def notXc : Sv → Bool
  | .fn (.xc _ _) => false
  | _ => true
/-- a slot is emptied -/
def clrI (i : Nat) (fr : Fr) : Option Fr := match fr[i]? with
  | some s => if free s = true then some (fr.set i .no) else none
  | none => none
def evNotXc (i : Option Nat) : Ev → Bool
  | .fn _ => false
  | .al j => some j != i
  | _ => true
def flNotXc (i : Option Nat) : Fl → Bool
  | .rt e => evNotXc i e
  | _ => true
/-- behind the suite of a clause that names the error -/
def clrS (i : Nat) (r : Rs Fl) : Rs Fl := match r with
  | .ok x fr => match clrI i fr with
    | some fr' => if fr'.all notXc = true ∧ flNotXc (some i) x = true then .ok x fr' else .st
    | none => .st
  | _ => .st
def plnS (r : Rs Fl) : Rs Fl := match r with
  | .ok x fr => if fr.all notXc = true ∧ flNotXc none x = true then .ok x fr else .st
  | _ => .st
def inS (i : Nat) (c : Str) (w : PyData) (f : Fr → Rs Fl) (fr : Fr) : Rs Fl := match fr[i]? with
  | some s => if free s = true then clrS i (f (fr.set i (.fn (.xc c w)))) else .st
  | none => .st
abbrev Cl := Str × Option Nat × (Fr → Rs Fl)
def handle (sub : Str → Str → Option Bool) : List Cl → Str → PyData → Fr → Rs Fl
  | [], c, w, fr => .ex c w fr
  | (k, oi, f) :: r, c, w, fr => match sub c k with
    | none => .st
    | some false => handle sub r c w fr
    | some true => match oi with
      | none => plnS (f fr)
      | some i => inS i c w f fr
def tryS (sub : Str → Str → Option Bool) (body : Fr → Rs Fl) (cl : List Cl) : Fr → Rs Fl := fun fr => match body fr with
  | .ex c w fr' => handle sub cl c w fr'
  | r => r

/-! ### try, except: the code -/
/-- the caught error, as a meaning of .xc -/
def ThP.xc (T : ThP) (K : PySem.W.Frag) (mg : Str → Option Value) (a : Addr) (cls : Value) (d : Option Addr) : ThP where
  tb := T.tb
  p := fun F H v m => T.p F H v m ∨ ∃ c w C dd vv, m = .xc c w ∧ v = .ref a ∧ mg c = some (.ref C) ∧ cls = .ref C ∧ d = some dd ∧ H dd = some (.xd [("what", vv)]) ∧ Rt K F H vv w
  mono := fun h e => h.elim (fun h => .inl (T.mono h e)) fun ⟨c, w, C, dd, vv, h1, h2, h3, h4, h5, h6, h7⟩ => .inr ⟨c, w, C, dd, vv, h1, h2, h3, h4, h5, e.xd _ _ h6, h7.ext e⟩
section
variable {K : PySem.W.Frag} {mg : Str → Option Value} {T : ThP} {F F0 F1 : FS} {H H0 H1 : Hp} {fr fr0 fr1 : Fr} {r r0 r1 : Ro} {σ : L2.St} {a : Addr} {cls : Value} {d : Option Addr}
theorem SlotOK.imp {T' : ThP} {ov ra s} (h : SlotOK K T F H ov ra s) (hp : ∀ v m, s = .fn m → T.p F H v m → T'.p F H v m) : SlotOK K T' F H ov ra s := by
  cases s with
  | no => exact h
  | sh d => exact h
  | li io lk ds => exact h
  | fn m => exact ⟨h.1, h.2.elim fun v q => ⟨v, q.1, hp v m rfl q.2⟩⟩
theorem At.toXc (A : At K T F H σ fr r) : At K (T.xc K mg a cls d) F H σ fr r :=
  ⟨A.len, fun i s e => (A.slot i s e).imp fun v m _ h => .inl h, A.out, A.inj, A.ftr, A.tabs⟩
theorem At.ofXc (A : At K (T.xc K mg a cls d) F H σ fr r) (h : fr.all notXc = true) : At K T F H σ fr r :=
  ⟨A.len, fun i s e => (A.slot i s e).imp fun v m es hp => hp.elim id fun ⟨c, w, _, _, _, em, _⟩ => by
    subst em es
    exact absurd (List.all_eq_true.mp h _ (List.mem_of_getElem? e)) (by simp [notXc]), A.out, A.inj, A.ftr, A.tabs⟩
theorem At.clear (A : At K T F H σ fr r) {i : Nat} : At K T F H σ (fr.set i .no) (delR r i) := by
  refine ⟨by rw [List.length_set]; exact A.len, fun j s' ej => ?_, fun j ej => ?_, fun j k b hj hk => A.inj j k b (delR_some hj).2 (delR_some hk).2, A.ftr, A.tabs⟩
  · by_cases hj : j = i
    · subst hj
      by_cases hl : j < fr.length
      · rw [List.getElem?_set_self hl] at ej
        cases ej
        exact delR_same
      · rw [List.getElem?_eq_none (by rw [List.length_set]; omega)] at ej
        cases ej
    · rw [List.getElem?_set_ne (Ne.symm hj)] at ej
      rw [delR_ne hj]
      exact A.slot j s' ej
  · by_cases hj : j = i
    · subst hj
      exact delR_same
    · rw [List.getElem?_set_ne (Ne.symm hj)] at ej
      exact (delR_ne hj).trans (A.out j ej)
/-- an emptied slot's variable is gone -/
theorem At.clearV (A : At K T F H σ (fr.set i .no) r) : At K T F H (σ.set i none) (fr.set i .no) r := by
  refine ⟨by rw [List.length_set (as := σ)]; exact A.len, fun j s' ej => ?_, A.out, A.inj, A.ftr, A.tabs⟩
  by_cases hj : j = i
  · subst hj
    have q := A.slot j s' ej
    by_cases hl : j < fr.length
    · rw [List.getElem?_set_self hl] at ej
      cases ej
      exact q
    · rw [List.getElem?_eq_none (by rw [List.length_set]; omega)] at ej
      cases ej
  · rw [List.getElem?_set_ne (Ne.symm hj)]
    exact A.slot j s' ej
theorem clrI_step {i : Nat} {fr' : Fr} (s0 : Step F0 H0 fr0 r0 F H fr r) (e : clrI i fr = some fr') : fr' = fr.set i .no ∧ Step F0 H0 fr0 r0 F H fr' (delR r i) := by
  unfold clrI at e
  split at e
  · rename_i s hs
    split at e
    · rename_i hf
      cases e
      refine ⟨rfl, step_put hs hf (fun j hj => delR_ne hj) (fun a ha => ?_) s0⟩
      rw [delR_same] at ha
      cases ha
    · cases e
  · cases e
theorem EvOK.ofXc' {v : V} {e : Ev} (h : EvOK K (T.xc K mg a cls d) F H σ r v e) (hn : evNotXc none e = true) : EvOK K T F H σ r v e := by
  cases e with
  | sh d => exact h
  | fn m => cases hn
  | ow ds => exact h
  | al j => exact h
theorem EvOK.ofXc {v : V} {e : Ev} (h : EvOK K (T.xc K mg a cls d) F H σ r v e) {i : Nat} (hn : evNotXc (some i) e = true) : EvOK K T F H (σ.set i none) (delR r i) v e := by
  cases e with
  | sh d => exact h
  | fn m => cases hn
  | ow ds =>
    obtain ⟨a, e, o, n⟩ := h
    exact ⟨a, e, o, fun j hj => n j (delR_some hj).2⟩
  | al j =>
    have hj : j ≠ i := fun z => by subst z; simp [evNotXc] at hn
    show (σ.set i none)[j]? = _
    rw [List.getElem?_set_ne (Ne.symm hj)]
    exact h
end
theorem PSs.weakI {X : Cx} {rest : List Stmt} {t t' : TS} (h : PSs X rest t) (i : ∀ D σ H, t' D σ H → t D σ H) : PSs X rest t' := ⟨fun pins s σ H D I q => h.run pins s σ H D I (i D σ H q)⟩
/-- a clause without a name; with one -/
def tsPln (K : PySem.W.Frag) (mg : Str → Option Value) (T : ThP) (f : Fr → Rs Fl) : Addr → Value → Option Addr → TS := fun a cls d => tS K mg (T.xc K mg a cls d) (fun _ _ _ _ => False) f
/-- the clauses of a try: code, what is wanted, and the function's -/
inductive GHs (X : Cx) (T : ThP) (sub : Str → Str → Option Bool) : List ExceptHandler → List (Value × Option Nat × (Addr → Value → Option Addr → TS)) → List Cl → Prop
  | nil : GHs X T sub [] [] []
  | cons {x : Str} {c : Value} {f : Fr → Rs Fl} {b₀ : Stmt} {suite : List Stmt} {np pos' : Pos} {hds : List ExceptHandler} {l : List (Value × Option Nat × (Addr → Value → Option Addr → TS))} {cl : List Cl} (hc : Names X x c)
      (hsu : ∀ (a : Addr) (oe : Obj) (cls : Value) (d : Option Addr) (pn : List (Addr × Obj)), L2N.Zn cls d oe → (∃ vs, oe.data = .fields vs) → GSs (X.suite a ((a, oe) :: pn)) (T.xc X.K X.mg a cls d) (fun _ _ _ _ => False) (b₀ :: suite) f)
      (hsub : ∀ c' b C, sub c' x = some b → X.mg c' = some (.ref C) → PySem.W.exmOne X.K (.ref C) c = some b) (r : GHs X T sub hds l cl) :
      GHs X T sub (.ExceptHandler (some (.Name x np)) none (b₀ :: suite) pos' :: hds) ((c, none, tsPln X.K X.mg T f) :: l) ((x, none, f) :: cl)
  | consAs {x n : Str} {i : Nat} {c : Value} {f : Fr → Rs Fl} {b₀ : Stmt} {suite : List Stmt} {np pos' : Pos} {hds : List ExceptHandler} {l : List (Value × Option Nat × (Addr → Value → Option Addr → TS))} {cl : List Cl} (hi : X.N[i]? = some n) (hln : X.env.kindOf n = some .local) (hc : Names X x c)
      (hsu : ∀ (a : Addr) (oe : Obj) (cls : Value) (d : Option Addr) (pn : List (Addr × Obj)), L2N.Zn cls d oe → (∃ vs, oe.data = .fields vs) → GSs (X.suite a ((a, oe) :: pn)) (T.xc X.K X.mg a cls d) (fun _ _ _ _ => False) (b₀ :: suite) f)
      (hsub : ∀ c' b C, sub c' x = some b → X.mg c' = some (.ref C) → PySem.W.exmOne X.K (.ref C) c = some b) (r : GHs X T sub hds l cl) :
      GHs X T sub (.ExceptHandler (some (.Name x np)) (some n) (b₀ :: suite) pos' :: hds) ((c, some i, tsPln X.K X.mg T f) :: l) ((x, some i, f) :: cl)
section
variable {X : Cx} {T : ThP} {W : WX} {pos : Pos} {sub : Str → Str → Option Bool}
theorem GHs.ok {hds l cl} (h : GHs X T sub hds l cl) : HdsOkN X hds l := by
  induction h with
  | nil => exact .nil
  | cons hc hsu _ _ ih => exact .cons hc hsu ih
  | consAs hi hln hc hsu _ _ ih => exact .consAs hi hln hc hsu ih
/-- the clauses do what the function says -/
theorem GHs.wants {hds l cl} (h : GHs X T sub hds l cl) {F F1 : FS} {H H1 : Hp} {fr fr1 : Fr} {r r1 : Ro} {σ : L2.St} {D : Ends} {c : Str} {w : PyData} {C dd : Addr} {v : V}
    (hm : X.mg c = some (.ref C)) (A : At X.K T F1 H1 σ fr1 r1) (hd : H1 dd = some (.xd [("what", v)])) (hv : Rt X.K F1 H1 v w) (s : Step F H fr r F1 H1 fr1 r1) (q : contS X.K X.mg T W F H fr r D (handle sub cl c w fr1)) :
    wManyN X.K W D l (.ref C) (some dd) σ H1 := by
  induction h with
  | nil => exact q C dd v σ F1 H1 r1 hm A hd hv s
  | @cons x c₂ f b₀ suite np pos' hds l cl hc hsu hsub _ ih =>
    unfold handle at q
    cases e : sub c x with
    | none => simp only [e] at q; exact q.elim
    | some b =>
      simp only [e] at q
      refine ⟨b, hsub c b C e hm, fun eb a _ => ?_, fun eb => ?_⟩
      · subst eb
        refine ⟨F1, fr1, r1, A.toXc, ?_⟩
        dsimp only at q
        unfold plnS at q
        cases ef : f fr1 with
        | st => rw [ef] at q; exact q.elim
        | ex c w fr' => rw [ef] at q; exact q.elim
        | ok x fr' =>
          simp only [ef] at q
          split at q
          · rename_i hn
            cases x with
            | nx => exact fun σ' F' H' r' A' s' => q σ' F' H' r' (A'.ofXc hn.1) (s.trans s')
            | bk => exact fun σ' F' H' r' A' s' => q σ' F' H' r' (A'.ofXc hn.1) (s.trans s')
            | ct => exact fun σ' F' H' r' A' s' => q σ' F' H' r' (A'.ofXc hn.1) (s.trans s')
            | rt e => exact fun σ' v F' H' r' A' o n s' => q σ' v F' H' r' (A'.ofXc hn.1) (o.ofXc' hn.2) (n.back s) (s.trans s')
          · exact q.elim
      · subst eb
        exact ih q
  | @consAs x n i c₂ f b₀ suite np pos' hds l cl hi hln hc hsu hsub _ ih =>
    unfold handle at q
    cases e : sub c x with
    | none => simp only [e] at q; exact q.elim
    | some b =>
      simp only [e] at q
      refine ⟨b, hsub c b C e hm, fun eb a _ => ?_, fun eb => ?_⟩
      · subst eb
        dsimp only at q
        unfold inS at q
        cases es : fr1[i]? with
        | none => rw [es] at q; exact q.elim
        | some sv =>
          simp only [es] at q
          split at q
          · rename_i hf
            have hi1 : i < fr1.length := (List.getElem?_eq_some_iff.mp es).1
            have A2 : At X.K (T.xc X.K X.mg a (.ref C) (some dd)) F1 H1 (σ.set i (some (.ref a))) (fr1.set i (.fn (.xc c w))) (delR r1 i) :=
              A.toXc.put hi1 fun r' e' => ⟨e', .ref a, rfl, .inr ⟨c, w, C, dd, v, rfl, rfl, hm, rfl, rfl, hd, hv⟩⟩
            have s2 : Step F H fr r F1 H1 (fr1.set i (.fn (.xc c w))) (delR r1 i) := step_put es hf (fun j hj => delR_ne hj) (fun b hb => by rw [delR_same] at hb; cases hb) s
            refine ⟨F1, _, _, A2, ?_⟩
            cases ef : f (fr1.set i (.fn (.xc c w))) with
            | st => rw [ef] at q; exact q.elim
            | ex c w fr' => rw [ef] at q; exact q.elim
            | ok x fr' =>
              rw [ef] at q
              unfold clrS at q
              dsimp only at q
              cases ec : clrI i fr' with
              | none => simp only [ec] at q; exact q.elim
              | some fr2 =>
                simp only [ec] at q
                split at q
                · rename_i hn
                  have fin : ∀ {σ' F' H' r'}, At X.K (T.xc X.K X.mg a (.ref C) (some dd)) F' H' σ' fr' r' → Step F1 H1 (fr1.set i (.fn (.xc c w))) (delR r1 i) F' H' fr' r' → At X.K T F' H' (σ'.set i none) fr2 (delR r' i) ∧ Step F H fr r F' H' fr2 (delR r' i) := fun {σ' F' H' r'} A' s' => by
                    obtain ⟨e1, e2⟩ := clrI_step (s2.trans s') ec
                    subst e1
                    exact ⟨((A'.clear (i := i)).ofXc hn.1).clearV, e2⟩
                  cases x with
                  | nx => exact fun σ' F' H' r' A' s' => q _ F' H' _ (fin A' s').1 (fin A' s').2
                  | bk => exact fun σ' F' H' r' A' s' => q _ F' H' _ (fin A' s').1 (fin A' s').2
                  | ct => exact fun σ' F' H' r' A' s' => q _ F' H' _ (fin A' s').1 (fin A' s').2
                  | rt e => exact fun σ' v F' H' r' A' o n s' => q _ v F' H' _ (fin A' s').1 (o.ofXc hn.2) (n.back s) (fin A' s').2
                · exact q.elim
          · exact q.elim
      · subst eb
        exact ih q
/-- try: .. except .. -/
theorem gs_try {body : List Stmt} {h₀ : ExceptHandler} {hds : List ExceptHandler} {l : List (Value × Option Nat × (Addr → Value → Option Addr → TS))} {cl : List Cl} {f : Fr → Rs Fl} (hs : X.stack = X.env :: X.outer) (hf : X.env.frame = some X.env.locals) (hN : X.N.Nodup) (tk : L2N.Takes X W)
    (hb : ∀ (W' : WX) (pn : List (Addr × Obj)) (xe : Value → Shared → Prop), L2N.Takes (X.tr pn xe) W' → PassesOwn (model X.prog X.w) X.A X.env xe → GSs (X.tr pn xe) T W' body f)
    (hh : GHs X T sub (h₀ :: hds) l cl) : GS X T W (.Try body (h₀ :: hds) [] [] pos) (tryS sub f cl) := by
  refine PS.weak (ps_try_manyN (Wout := W) hs hf hN tk (tb := fun W' => tS X.K X.mg T W' f) hb hh.ok) fun D σ H ⟨F, fr, r, A, q⟩ => ?_
  refine ⟨F, fr, r, A, ?_⟩
  unfold tryS at q
  cases e : f fr with
  | st => rw [e] at q; exact q.elim
  | ok x fr' => rw [e] at q; cases x <;> exact q
  | ex c w fr' =>
    rw [e] at q
    dsimp only at q
    exact fun C dd v σ' F' H' r' hm A' hd hv s' => hh.wants hm A' hd hv s' q
end
end FL


set_option Elab.async false
set_option maxRecDepth 100000
set_option maxHeartbeats 4000000
namespace FL
open PySem PySem.Spec PyProof.Rows L2

/-! ### calls of built-ins -/
section
variable (K : PySem.W.Frag) (T : ThP)
inductive EvsOK (F : FS) (H : Hp) (σ : L2.St) (r : Ro) : List V → List Ev → Prop
  | nil : EvsOK F H σ r [] []
  | cons {v : V} {a : Ev} {vs : List V} {as : List Ev} : EvOK K T F H σ r v a → EvsOK F H σ r vs as → EvsOK F H σ r (v :: vs) (a :: as)
def okEs : OkT (List Ev) (List V) := fun F H r σ _ vs as => EvsOK K T F H σ r vs as
inductive CnAll (F : FS) (H : Hp) : List V → List PyData → Prop
  | nil : CnAll F H [] []
  | cons {v : V} {d : PyData} {vs : List V} {ds : List PyData} : Cn K F H v d → CnAll F H vs ds → CnAll F H (v :: vs) (d :: ds)
end
def rds (fr : Fr) : List Ev → Option (List PyData)
  | [] => some []
  | e :: es => match rd fr e, rds fr es with
    | some d, some ds => some (d :: ds)
    | _, _ => none
def evC (f : Fr → Rs Ev) (g : Fr → Rs (List Ev)) : Fr → Rs (List Ev) := bnd f fun x => bnd g fun xs => ret (x :: xs)
def callB (o : List PyData → Option Ev) (f : Fr → Rs (List Ev)) : Fr → Rs Ev := bnd f fun xs fr => match rds fr xs with
  | some ds => match o ds with
    | some e => .ok e fr
    | none => .st
  | none => .st
def CrM (K : PySem.W.Frag) (r : List V → Hp → VK → Prop) (o : List PyData → Option Ev) : Prop := ∀ (F : FS) (H : Hp) (vs : List V) (ds : List PyData) (e : Ev) (Q : VK), CnAll K F H vs ds → o ds = some e →
  (∀ v H', Grow H H' → RvOK K F H H' v e → Q v H') → r vs H Q
theorem CrM.or {K : PySem.W.Frag} {r r' : List V → Hp → VK → Prop} {o o' : List PyData → Option Ev} (h : CrM K r o) (h' : CrM K r' o') : CrM K (fun x H Q => r x H Q ∨ r' x H Q) (fun ds => (o ds).orElse fun _ => o' ds) := by
  intro F H vs ds e Q c q k
  dsimp only at q
  cases z : o ds with
  | some e' =>
    rw [z] at q
    cases q
    exact .inl (h F H vs ds e Q c z k)
  | none =>
    rw [z] at q
    exact .inr (h' F H vs ds e Q c q k)
section
variable {X : Cx} {T : ThP} {W : WX} {e a b c : Expr} {es : List Expr} {pos p : Pos}
abbrev GX (X : Cx) (T : ThP) (W : WX) (es : List Expr) (f : Fr → Rs (List Ev)) : Prop := PA X es (tG X.K X.mg T (okEs X.K T) W f)
theorem okEs.back {K : PySem.W.Frag} {F F1 : FS} {H H1 : Hp} {fr fr1 : Fr} {r r1 : Ro} {σ : L2.St} (s : Step F H fr r F1 H1 fr1 r1) : ∀ F' H' r' b a, okEs K T F' H' r' σ H1 b a → okEs K T F' H' r' σ H b a := fun _ _ _ _ _ o => o
theorem gx_nil : GX X T W [] (ret []) := PA.weak pa_nil fun σ H Q ⟨F, fr, r, A, q⟩ => q [] F H r A .nil Step.refl
theorem gx_cons {f : Fr → Rs Ev} {g : Fr → Rs (List Ev)} (h : GE X T W e f) (h2 : GX X T W es g) (hs : starEach (e :: es) X.env = (false, eval e X.env) :: starEach es X.env := by rfl) : GX X T W (e :: es) (evC f g) := by
  refine PA.weak (pa_cons h h2 hs) fun σ H Q ⟨F, fr, r, A, q⟩ => ?_
  refine ⟨F, fr, r, A, (use_ok q).mono fun v1 H1 ⟨x, F1, fr1, r1, A1, o1, s1, h1⟩ => ?_⟩
  refine ⟨F1, fr1, r1, A1, (use_ok (h1.rebase s1 (okEs.back s1))).mono fun vs H3 ⟨xs, F3, fr3, r3, A3, o3, s3, h3⟩ => ?_⟩
  exact h3 (v1 :: vs) F3 H3 r3 A3 (.cons (o1.1.step s3 A1) o3) s3
theorem rds_cn {K : PySem.W.Frag} {F : FS} {H : Hp} {σ : L2.St} {fr : Fr} {r : Ro} (A : At K T F H σ fr r) : ∀ {xs : List Ev} {vs : List V} {ds : List PyData}, EvsOK K T F H σ r vs xs → rds fr xs = some ds → CnAll K F H vs ds
  | [], _, _, .nil, e => by cases e; exact .nil
  | x :: xs, _, _, .cons h t, e => by
    unfold rds at e
    cases e1 : rd fr x with
    | none => simp only [e1] at e; cases e
    | some d =>
      cases e2 : rds fr xs with
      | none => simp only [e1, e2] at e; cases e
      | some ds =>
        simp only [e1, e2] at e
        cases e
        exact .cons (rd_cn A h e1) (rds_cn A t e2)
theorem callB_ok {r : List V → Hp → VK → Prop} {o : List PyData → Option Ev} {f : Fr → Rs (List Ev)} (hm : CrM X.K r o) (σ : L2.St) (H : Hp) (Q : VK) (h : tE X.K X.mg T W (callB o f) σ H Q) : tCB r (tG X.K X.mg T (okEs X.K T) W f) σ H Q := by
  obtain ⟨F, fr, r0, A, h⟩ := h
  refine ⟨F, fr, r0, A, (use_ok h).mono fun vs H1 ⟨xs, F1, fr1, r1, A1, o1, s1, h1⟩ => ?_⟩
  cases e1 : rds fr1 xs with
  | none => simp only [e1] at h1; exact h1.elim
  | some ds =>
    simp only [e1] at h1
    cases e2 : o ds with
    | none => simp only [e2] at h1; exact h1.elim
    | some ev =>
      simp only [e2] at h1
      exact hm F1 H1 vs ds ev Q (rds_cn A1 o1 e1) e2 fun v H' g hv => (h1.rebase s1 (okE.back s1)).op A1 g hv
theorem ge_blt {r : List V → Hp → VK → Prop} {o : List PyData → Option Ev} {id : String} {x : Str} {f : Fr → Rs (List Ev)} (hc : CallR X (.builtin id) r) (hm : CrM X.K r o) (hg : Gl X x) (hn0 : X.mg x = none) (hv : bootBuiltins x = some (.builtin id)) (ha : GX X T W (e :: es) f) (hn : x ≠ "__name__" := by decide) (hdb : (x == ("__debug__" : Str)) = false := by decide)
    (he : starEach (e :: es) X.env = (false, eval e X.env) :: starEach es X.env := by rfl) (hpl : (backTo pos (starEach es X.env)).any (·.1) = false := by rfl) : GE X T W (.Call (.Name x p) (e :: es) [] pos) (callB o f) :=
  PE.weak (pe_callB hc hg hn0 hv ha hn hdb he hpl) (callB_ok hm)
theorem ge_bty {r : List V → Hp → VK → Prop} {o : List PyData → Option Ev} {id : String} {x : Str} {f : Fr → Rs (List Ev)} (hc : CallR X (.type id) r) (hm : CrM X.K r o) (hg : Gl X x) (hn0 : X.mg x = none) (hv : bootBuiltins x = some (.type id)) (ha : GX X T W (e :: es) f) (hn : x ≠ "__name__" := by decide) (hdb : (x == ("__debug__" : Str)) = false := by decide)
    (he : starEach (e :: es) X.env = (false, eval e X.env) :: starEach es X.env := by rfl) (hpl : (backTo pos (starEach es X.env)).any (·.1) = false := by rfl) : GE X T W (.Call (.Name x p) (e :: es) [] pos) (callB o f) :=
  PE.weak (pe_callTy hc hg hn0 hv ha hn hdb he hpl) (callB_ok hm)
theorem ge_bfun {r : List V → Hp → VK → Prop} {o : List PyData → Option Ev} {id : String} {x : Str} {f : Fr → Rs (List Ev)} (hc : CallR X (.builtin id) r) (hm : CrM X.K r o) (hg : Gl X x) (hn0 : X.mg x = some (.builtin id)) (ha : GX X T W (e :: es) f) (hdb : (x == ("__debug__" : Str)) = false := by decide)
    (he : starEach (e :: es) X.env = (false, eval e X.env) :: starEach es X.env := by rfl) (hpl : (backTo pos (starEach es X.env)).any (·.1) = false := by rfl) : GE X T W (.Call (.Name x p) (e :: es) [] pos) (callB o f) :=
  PE.weak (pe_callBfun hc hg hn0 ha hdb he hpl) (callB_ok hm)

/-! ### isinstance -/
def tyN : PyData → String
  | .none => "NoneType"
  | .bool _ => "bool"
  | .int _ => "int"
  | .str _ => "str"
  | .list _ => "list"
  | .tuple _ => "tuple"
  | .dict _ => "dict"
theorem Cn.ty {K : PySem.W.Frag} {F : FS} {H : Hp} {v : V} {d : PyData} (h : Cn K F H v d) : TyX K H v (.type (tyN d)) := by
  cases d with
  | none => rw [h.none]; exact .base .non
  | bool b => rw [h.bool]; exact .base (.bl b)
  | int b => rw [h.int]; exact .base (.int b)
  | str b => rw [h.str]; exact .base (.str b)
  | dict b => exact h.nondict.elim
  | list ds =>
    obtain ⟨a, xs, rfl, h, _⟩ := h.list
    rcases h with (h | ⟨o, h⟩) | ⟨o, its, n, h1, h2, _⟩
    · exact .base (.lst h)
    · exact .base (.frz h)
    · exact .kList h1 h2
  | tuple ds =>
    obtain ⟨a, xs, rfl, h, _⟩ := h.tuple
    rcases h with (h | ⟨o, h⟩) | ⟨o, its, n, h1, h2, _⟩
    · exact .base (.tup h)
    · exact .fTuple h
    · exact .kTuple h1 h2
/-- isinstance(x, t), t a built-in type -/
def isTy (t : String) (d : PyData) : Bool := (kitB (tyN d) t).getD false
def isiM (t : String) (x : Ev) : Fr → Rs Ev := fun fr => match rd fr x with
  | some d => .ok (.sh (.bool (isTy t d))) fr
  | none => .st
def isiE (t : String) (f : Fr → Rs Ev) : Fr → Rs Ev := bnd f (isiM t)
def tyAll (t : String) : Bool := (kitB "NoneType" t).isSome && (kitB "bool" t).isSome && (kitB "int" t).isSome && (kitB "str" t).isSome && (kitB "list" t).isSome && (kitB "tuple" t).isSome && (kitB "dict" t).isSome
theorem ge_isi {t : String} {x : Str} {f : Fr → Rs Ev} {pn : Pos} (ha : GE X T W e f) (hg : Gl X "isinstance") (hm : X.mg "isinstance" = none) (hgt : Gl X x) (hmt : X.mg x = none) (hvt : bootBuiltins x = some (.type t)) (ht : tyAll t = true := by decide +kernel) (hn : x ≠ "__name__" := by decide) (hdb : (x == ("__debug__" : Str)) = false := by decide)
    (hs : starEach [e, .Name x pn] X.env = (false, eval e X.env) :: starEach [.Name x pn] X.env := by rfl) (hs2 : starEach [.Name x pn] X.env = (false, eval (.Name x pn) X.env) :: starEach [] X.env := by rfl) (hpl : (backTo pos (starEach [.Name x pn] X.env)).any (·.1) = false := by rfl) :
    GE X T W (.Call (.Name "isinstance" p) [e, .Name x pn] [] pos) (isiE t f) := by
  refine PE.weak (pe_callB (call_isi (X := X)) hg hm rfl (pa_cons ha (pa_cons (pe_bltn (v := .ty t) hgt hmt hvt rfl hn hdb) pa_nil hs2) hs) (by decide) (by decide) hs hpl) fun σ H Q ⟨F, fr, r, A, q⟩ => ?_
  refine ⟨F, fr, r, A, (use_ok q).mono fun v1 H1 ⟨y, F1, fr1, r1, A1, o1, s1, h1⟩ => ?_⟩
  unfold isiM at h1
  cases e1 : rd fr1 y with
  | none => simp only [e1] at h1; exact h1.elim
  | some d =>
    simp only [e1] at h1
    have cn := rd_cn A1 o1.1 e1
    have hk : kitB (tyN d) t = some (isTy t d) := by
      have hsome : (kitB (tyN d) t).isSome = true := by
        unfold tyAll at ht
        simp only [Bool.and_eq_true] at ht
        obtain ⟨⟨⟨⟨⟨⟨h1, h2⟩, h3⟩, h4⟩, h5⟩, h6⟩, h7⟩ := ht
        cases d <;> assumption
      unfold isTy
      cases e : kitB (tyN d) t with
      | none => rw [e] at hsome; cases hsome
      | some b => rfl
    exact ⟨v1, .ty t, .type (tyN d), .type t, isTy t d, rfl, .ty t, cn.ty, kit_ty hk, h1 (.bl (isTy t d)) F1 H1 r1 A1 ⟨.bl _, trivial⟩ s1⟩
end

/-! ### the built-ins' functions -/
section
variable {K : PySem.W.Frag}
theorem CnAll.one {F : FS} {H : Hp} {vs : List V} {d : PyData} (h : CnAll K F H vs [d]) : ∃ v, vs = [v] ∧ Cn K F H v d := by
  cases h with
  | cons h t => cases t; exact ⟨_, rfl, h⟩
theorem CnAll.two {F : FS} {H : Hp} {vs : List V} {d e : PyData} (h : CnAll K F H vs [d, e]) : ∃ v w, vs = [v, w] ∧ Cn K F H v d ∧ Cn K F H w e := by
  cases h with
  | cons h t =>
    obtain ⟨w, rfl, h2⟩ := t.one
    exact ⟨_, w, rfl, h, h2⟩
def intsOf : List PyData → Option (List Int)
  | [] => some []
  | .int i :: r => (intsOf r).map (i :: ·)
  | _ => none
theorem intsOf_eq : ∀ {ds : List PyData} {ns : List Int}, intsOf ds = some ns → ds = ns.map PyData.int
  | [], ns, h => by cases h; rfl
  | .int i :: r, ns, h => by
    simp only [intsOf, Option.map_eq_some_iff] at h
    obtain ⟨ms, h1, rfl⟩ := h
    rw [intsOf_eq h1]
    rfl
  | .none :: _, _, h => by cases h
  | .bool _ :: _, _, h => by cases h
  | .str _ :: _, _, h => by cases h
  | .list _ :: _, _, h => by cases h
  | .tuple _ :: _, _, h => by cases h
  | .dict _ :: _, _, h => by cases h
theorem intsOf_map : ∀ (ns : List Int), intsOf (ns.map PyData.int) = some ns
  | [] => rfl
  | n :: ns => by simp [intsOf, intsOf_map ns]
def boolsOf : List PyData → Option (List Bool)
  | [] => some []
  | .bool i :: r => (boolsOf r).map (i :: ·)
  | _ => none
theorem boolsOf_eq : ∀ {ds : List PyData} {ns : List Bool}, boolsOf ds = some ns → ds = ns.map PyData.bool
  | [], ns, h => by cases h; rfl
  | .bool i :: r, ns, h => by
    simp only [boolsOf, Option.map_eq_some_iff] at h
    obtain ⟨ms, h1, rfl⟩ := h
    rw [boolsOf_eq h1]
    rfl
  | .none :: _, _, h => by cases h
  | .int _ :: _, _, h => by cases h
  | .str _ :: _, _, h => by cases h
  | .list _ :: _, _, h => by cases h
  | .tuple _ :: _, _, h => by cases h
  | .dict _ :: _, _, h => by cases h
theorem RtAll.bools {F : FS} {H : Hp} : ∀ {vs : List V} {ns : List Bool}, RtAll K F H vs (ns.map PyData.bool) → vs = ns.map V.bl
  | _, [], .nil => rfl
  | _, n :: r, .cons h t => by
    cases h
    rw [RtAll.bools t]
    rfl
def oLen : List PyData → Option Ev
  | [.list ds] => some (.sh (.int ds.length))
  | [.tuple ds] => some (.sh (.int ds.length))
  | [.str s] => if s.length ≤ sizeLine then some (.sh (.int s.length)) else none
  | _ => none
theorem crm_len : CrM K (fun xs H Q => ∃ x n, xs = [x] ∧ LenV K x H n ∧ Q (.int n) H) oLen := by
  intro F H vs ds e Q c q k
  unfold oLen at q
  split at q <;> first | (cases q; done) | skip
  · rename_i ds
    cases q
    obtain ⟨v, rfl, cn⟩ := c.one
    obtain ⟨a, xs, rfl, h, hr⟩ := cn.list
    exact ⟨_, _, rfl, .inl ⟨xs, h, rfl⟩, k _ H (Grow.refl H) (by rw [hr.length]; exact .int _)⟩
  · rename_i ds
    cases q
    obtain ⟨v, rfl, cn⟩ := c.one
    obtain ⟨a, xs, rfl, h, hr⟩ := cn.tuple
    exact ⟨_, _, rfl, .inr ⟨xs, h, rfl⟩, k _ H (Grow.refl H) (by rw [hr.length]; exact .int _)⟩
  · rename_i s
    split at q
    · rename_i hs
      cases q
      obtain ⟨v, rfl, cn⟩ := c.one
      rw [cn.str]
      exact ⟨_, _, rfl, ⟨hs, rfl⟩, k _ H (Grow.refl H) (.int _)⟩
    · cases q
def oAbs : List PyData → Option Ev
  | [.int i] => some (.sh (.int (if i < 0 then -i else i)))
  | _ => none
theorem crm_abs : CrM K (fun xs H Q => ∃ i, xs = [.int i] ∧ Q (.int (if i < 0 then -i else i)) H) oAbs := by
  intro F H vs ds e Q c q k
  unfold oAbs at q
  split at q <;> first | (cases q; done) | skip
  cases q
  obtain ⟨v, rfl, cn⟩ := c.one
  rw [cn.int]
  exact ⟨_, rfl, k _ H (Grow.refl H) (.int _)⟩
def oMax2 : List PyData → Option Ev
  | [.int i, .int j] => some (.sh (.int (if j > i then j else i)))
  | _ => none
theorem crm_max2 : CrM K (fun xs H Q => ∃ i j, xs = [.int i, .int j] ∧ Q (.int (if j > i then j else i)) H) oMax2 := by
  intro F H vs ds e Q c q k
  unfold oMax2 at q
  split at q <;> first | (cases q; done) | skip
  cases q
  obtain ⟨v, w, rfl, c1, c2⟩ := c.two
  rw [c1.int, c2.int]
  exact ⟨_, _, rfl, k _ H (Grow.refl H) (.int _)⟩
def oMin2 : List PyData → Option Ev
  | [.int i, .int j] => some (.sh (.int (if j < i then j else i)))
  | _ => none
theorem crm_min2 : CrM K (fun xs H Q => ∃ i j, xs = [.int i, .int j] ∧ Q (.int (if j < i then j else i)) H) oMin2 := by
  intro F H vs ds e Q c q k
  unfold oMin2 at q
  split at q <;> first | (cases q; done) | skip
  cases q
  obtain ⟨v, w, rfl, c1, c2⟩ := c.two
  rw [c1.int, c2.int]
  exact ⟨_, _, rfl, k _ H (Grow.refl H) (.int _)⟩
def maxI : List Int → Int
  | [] => 0
  | [x] => x
  | x :: r => max x (maxI r)
def minI : List Int → Int
  | [] => 0
  | [x] => x
  | x :: r => min x (minI r)
theorem maxI_mem : ∀ {l : List Int}, l ≠ [] → maxI l ∈ l
  | [], h => absurd rfl h
  | [x], _ => List.mem_singleton.mpr rfl
  | x :: y :: r, _ => by
    have ih := maxI_mem (l := y :: r) (by simp)
    unfold maxI
    rcases Int.le_total x (maxI (y :: r)) with h | h
    · rw [Int.max_eq_right h]; exact List.mem_cons_of_mem _ ih
    · rw [Int.max_eq_left h]; exact List.mem_cons_self
theorem maxI_le : ∀ {l : List Int} {y : Int}, y ∈ l → y ≤ maxI l
  | [], y, h => by cases h
  | [x], y, h => by rw [List.mem_singleton.mp h]; exact Int.le_refl _
  | x :: z :: r, y, h => by
    unfold maxI
    rcases List.mem_cons.mp h with h | h
    · rw [h]; exact Int.le_max_left ..
    · exact Int.le_trans (maxI_le h) (Int.le_max_right ..)
theorem minI_mem : ∀ {l : List Int}, l ≠ [] → minI l ∈ l
  | [], h => absurd rfl h
  | [x], _ => List.mem_singleton.mpr rfl
  | x :: y :: r, _ => by
    have ih := minI_mem (l := y :: r) (by simp)
    unfold minI
    rcases Int.le_total x (minI (y :: r)) with h | h
    · rw [Int.min_eq_left h]; exact List.mem_cons_self
    · rw [Int.min_eq_right h]; exact List.mem_cons_of_mem _ ih
theorem minI_le : ∀ {l : List Int} {y : Int}, y ∈ l → minI l ≤ y
  | [], y, h => by cases h
  | [x], y, h => by rw [List.mem_singleton.mp h]; exact Int.le_refl _
  | x :: z :: r, y, h => by
    unfold minI
    rcases List.mem_cons.mp h with h | h
    · rw [h]; exact Int.min_le_left ..
    · exact Int.le_trans (Int.min_le_right ..) (minI_le h)
def oMaxL : List PyData → Option Ev
  | [.list ds] => match intsOf ds with
    | some ns => if ns = [] then none else some (.sh (.int (maxI ns)))
    | none => none
  | _ => none
theorem crm_maxL : CrM K (rMax K) oMaxL := by
  intro F H vs ds e Q c q k
  unfold oMaxL at q
  split at q <;> first | (cases q; done) | skip
  split at q <;> first | (cases q; done) | skip
  rename_i ns hns
  split at q
  · cases q
  rename_i hne
  cases q
  obtain ⟨v, rfl, cn⟩ := c.one
  obtain ⟨a, xs, rfl, h, hr⟩ := cn.list
  rw [intsOf_eq hns] at hr
  rw [hr.ints] at h
  refine ⟨a, ns, rfl, h, List.length_pos_iff.mpr hne, fun m h1 h2 => ?_⟩
  have : m = maxI ns := Int.le_antisymm (maxI_le h1) (h2 _ (maxI_mem hne))
  rw [this]
  exact k _ H (Grow.refl H) (.int _)
def oMinL : List PyData → Option Ev
  | [.list ds] => match intsOf ds with
    | some ns => if ns = [] then none else some (.sh (.int (minI ns)))
    | none => none
  | _ => none
theorem crm_minL : CrM K (rMin K) oMinL := by
  intro F H vs ds e Q c q k
  unfold oMinL at q
  split at q <;> first | (cases q; done) | skip
  split at q <;> first | (cases q; done) | skip
  rename_i ns hns
  split at q
  · cases q
  rename_i hne
  cases q
  obtain ⟨v, rfl, cn⟩ := c.one
  obtain ⟨a, xs, rfl, h, hr⟩ := cn.list
  rw [intsOf_eq hns] at hr
  rw [hr.ints] at h
  refine ⟨a, ns, rfl, h, List.length_pos_iff.mpr hne, fun m h1 h2 => ?_⟩
  have : m = minI ns := Int.le_antisymm (h2 _ (minI_mem hne)) (minI_le h1)
  rw [this]
  exact k _ H (Grow.refl H) (.int _)
def oSum : List PyData → Option Ev
  | [.list ds] => match intsOf ds with
    | some ns => some (.sh (.int ns.sum))
    | none => none
  | _ => none
theorem crm_sum : CrM K (rSum K) oSum := by
  intro F H vs ds e Q c q k
  unfold oSum at q
  split at q <;> first | (cases q; done) | skip
  split at q <;> first | (cases q; done) | skip
  rename_i ns hns
  cases q
  obtain ⟨v, rfl, cn⟩ := c.one
  obtain ⟨a, xs, rfl, h, hr⟩ := cn.list
  rw [intsOf_eq hns] at hr
  rw [hr.ints] at h
  exact ⟨a, ns, rfl, h, k _ H (Grow.refl H) (.int _)⟩
def oAny : List PyData → Option Ev
  | [.list ds] => match boolsOf ds with
    | some ns => some (.sh (.bool (ns.any id)))
    | none => none
  | _ => none
theorem crm_any : CrM K (rAny K) oAny := by
  intro F H vs ds e Q c q k
  unfold oAny at q
  split at q <;> first | (cases q; done) | skip
  split at q <;> first | (cases q; done) | skip
  rename_i ns hns
  cases q
  obtain ⟨v, rfl, cn⟩ := c.one
  obtain ⟨a, xs, rfl, h, hr⟩ := cn.list
  rw [boolsOf_eq hns] at hr
  rw [hr.bools] at h
  exact ⟨a, ns, rfl, h, k _ H (Grow.refl H) (.bl _)⟩
def oAll : List PyData → Option Ev
  | [.list ds] => match boolsOf ds with
    | some ns => some (.sh (.bool (ns.all id)))
    | none => none
  | _ => none
theorem crm_all : CrM K (rAll K) oAll := by
  intro F H vs ds e Q c q k
  unfold oAll at q
  split at q <;> first | (cases q; done) | skip
  split at q <;> first | (cases q; done) | skip
  rename_i ns hns
  cases q
  obtain ⟨v, rfl, cn⟩ := c.one
  obtain ⟨a, xs, rfl, h, hr⟩ := cn.list
  rw [boolsOf_eq hns] at hr
  rw [hr.bools] at h
  exact ⟨a, ns, rfl, h, k _ H (Grow.refl H) (.bl _)⟩
def oInt : List PyData → Option Ev
  | [.int i] => some (.sh (.int i))
  | [.bool b] => some (.sh (.int (if b then 1 else 0)))
  | _ => none
theorem crm_int : CrM K (fun xs H Q => (∃ i, xs = [.int i] ∧ Q (.int i) H) ∨ ∃ k, xs = [.bl k] ∧ Q (.int (if k then 1 else 0)) H) oInt := by
  intro F H vs ds e Q c q k
  unfold oInt at q
  split at q <;> first | (cases q; done) | skip
  · cases q
    obtain ⟨v, rfl, cn⟩ := c.one
    rw [cn.int]
    exact .inl ⟨_, rfl, k _ H (Grow.refl H) (.int _)⟩
  · cases q
    obtain ⟨v, rfl, cn⟩ := c.one
    rw [cn.bool]
    exact .inr ⟨_, rfl, k _ H (Grow.refl H) (.int _)⟩
def oBool : List PyData → Option Ev
  | [.int i] => some (.sh (.bool (i != 0)))
  | [.bool b] => some (.sh (.bool b))
  | _ => none
theorem crm_bool : CrM K (fun xs H Q => (∃ i, xs = [.int i] ∧ Q (.bl (i != 0)) H) ∨ ∃ k, xs = [.bl k] ∧ Q (.bl k) H) oBool := by
  intro F H vs ds e Q c q k
  unfold oBool at q
  split at q <;> first | (cases q; done) | skip
  · cases q
    obtain ⟨v, rfl, cn⟩ := c.one
    rw [cn.int]
    exact .inl ⟨_, rfl, k _ H (Grow.refl H) (.bl _)⟩
  · cases q
    obtain ⟨v, rfl, cn⟩ := c.one
    rw [cn.bool]
    exact .inr ⟨_, rfl, k _ H (Grow.refl H) (.bl _)⟩
def oStr : List PyData → Option Ev
  | [.int i] => if i.natAbs.log2 < 1920 then some (.sh (.str (toString i))) else none
  | [.str s] => some (.sh (.str s))
  | _ => none
theorem crm_str : CrM K (fun xs H Q => (∃ i, xs = [.int i] ∧ i.natAbs.log2 < 1920 ∧ Q (.str (toString i)) H) ∨ (∃ a, xs = [.str a] ∧ Q (.str a) H)) oStr := by
  intro F H vs ds e Q c q k
  unfold oStr at q
  split at q <;> first | (cases q; done) | skip
  · split at q <;> first | (cases q; done) | skip
    rename_i hl
    cases q
    obtain ⟨v, rfl, cn⟩ := c.one
    rw [cn.int]
    exact .inl ⟨_, rfl, hl, k _ H (Grow.refl H) (.str _)⟩
  · cases q
    obtain ⟨v, rfl, cn⟩ := c.one
    rw [cn.str]
    exact .inr ⟨_, rfl, k _ H (Grow.refl H) (.str _)⟩
def oList : List PyData → Option Ev
  | [.list ds] => some (.ow ds)
  | [.tuple ds] => some (.ow ds)
  | _ => none
theorem crm_list : CrM K (fun xs H Q => ∃ p ys, xs = [.ref p] ∧ (SqL K H p ys ∨ SqT K H p ys) ∧ ∀ l, H l = none → Q (.ref l) (upd H l (.lst ys))) oList := by
  intro F H vs ds e Q c q k
  unfold oList at q
  split at q <;> first | (cases q; done) | skip
  · cases q
    obtain ⟨v, rfl, cn⟩ := c.one
    obtain ⟨a, xs, rfl, h, hr⟩ := cn.list
    exact ⟨_, _, rfl, .inl h, fun l hl => k _ _ (Grow.upd hl) (RvOK.lst hl hr)⟩
  · cases q
    obtain ⟨v, rfl, cn⟩ := c.one
    obtain ⟨a, xs, rfl, h, hr⟩ := cn.tuple
    exact ⟨_, _, rfl, .inr h, fun l hl => k _ _ (Grow.upd hl) (RvOK.lst hl hr)⟩
def oTuple : List PyData → Option Ev
  | [.list ds] => some (.sh (.tuple ds))
  | [.tuple ds] => some (.sh (.tuple ds))
  | _ => none
theorem crm_tuple : CrM K (fun xs H Q => ∃ p ys, xs = [.ref p] ∧ ((SqL K H p ys ∧ ∀ l, H l = none → Q (.ref l) (upd H l (.tup ys))) ∨ (SqT K H p ys ∧ Q (.ref p) H))) oTuple := by
  intro F H vs ds e Q c q k
  unfold oTuple at q
  split at q <;> first | (cases q; done) | skip
  · cases q
    obtain ⟨v, rfl, cn⟩ := c.one
    obtain ⟨a, xs, rfl, h, hr⟩ := cn.list
    exact ⟨_, _, rfl, .inl ⟨h, fun l hl => k _ _ (Grow.upd hl) (RvOK.tup hl hr)⟩⟩
  · cases q
    obtain ⟨v, rfl, cn⟩ := c.one
    obtain ⟨a, xs, rfl, h, hr⟩ := cn.tuple
    exact ⟨_, _, rfl, .inr ⟨h, k _ H (Grow.refl H) (Rt.tup h hr)⟩⟩
def oGcd : List PyData → Option Ev
  | [.int i, .int j] => some (.sh (.int ((Nat.gcd i.natAbs j.natAbs : Nat) : Int)))
  | _ => none
theorem crm_gcd : CrM K rGcd oGcd := by
  intro F H vs ds e Q c q k
  unfold oGcd at q
  split at q <;> first | (cases q; done) | skip
  cases q
  obtain ⟨v, w, rfl, c1, c2⟩ := c.two
  rw [c1.int, c2.int]
  exact ⟨_, _, rfl, k _ H (Grow.refl H) (.int _)⟩
/-- sorted ints -/
def insI (x : Int) : List Int → List Int
  | [] => [x]
  | y :: r => if x ≤ y then x :: y :: r else y :: insI x r
def sortI : List Int → List Int
  | [] => []
  | x :: r => insI x (sortI r)
theorem insI_perm (x : Int) : ∀ l : List Int, (insI x l).Perm (x :: l)
  | [] => .refl _
  | y :: r => by
    unfold insI
    split
    · exact .refl _
    · exact ((insI_perm x r).cons y).trans (.swap x y r)
theorem sortI_perm : ∀ l : List Int, (sortI l).Perm l
  | [] => .refl _
  | x :: r => (insI_perm x _).trans ((sortI_perm r).cons x)
theorem insI_sorted (x : Int) : ∀ {l : List Int}, l.Pairwise (· ≤ ·) → (insI x l).Pairwise (· ≤ ·)
  | [], _ => by simp [insI]
  | y :: r, h => by
    unfold insI
    have hh := List.pairwise_cons.mp h
    split
    · rename_i hxy
      refine List.pairwise_cons.mpr ⟨fun z hz => ?_, h⟩
      rcases List.mem_cons.mp hz with e | hz
      · rw [e]; exact hxy
      · exact Int.le_trans hxy (hh.1 z hz)
    · rename_i hxy
      refine List.pairwise_cons.mpr ⟨fun z hz => ?_, insI_sorted x hh.2⟩
      rcases List.mem_cons.mp ((insI_perm x r).mem_iff.mp hz) with e | hz
      · rw [e]; omega
      · exact hh.1 z hz
theorem sortI_sorted : ∀ l : List Int, (sortI l).Pairwise (· ≤ ·)
  | [] => .nil
  | x :: r => insI_sorted x (sortI_sorted r)
theorem sorted_unique : ∀ {l m : List Int}, l.Perm m → l.Pairwise (· ≤ ·) → m.Pairwise (· ≤ ·) → l = m
  | [], m, p, _, _ => (List.nil_perm.mp p).symm
  | x :: l, [], p, _, _ => by cases (List.perm_nil.mp p)
  | x :: l, y :: m, p, h1, h2 => by
    have q1 := List.pairwise_cons.mp h1
    have q2 := List.pairwise_cons.mp h2
    have hx : x ∈ y :: m := p.mem_iff.mp List.mem_cons_self
    have hy : y ∈ x :: l := p.mem_iff.mpr List.mem_cons_self
    have e : x = y := by
      rcases List.mem_cons.mp hx with e | hx
      · exact e
      · rcases List.mem_cons.mp hy with e | hy
        · exact e.symm
        · exact Int.le_antisymm (q1.1 y hy) (q2.1 x hx)
    subst e
    rw [sorted_unique (List.Perm.cons_inv p) q1.2 q2.2]
def oSortI : List PyData → Option Ev
  | [.list ds] => match intsOf ds with
    | some ns => some (.ow ((sortI ns).map PyData.int))
    | none => none
  | _ => none
theorem crm_sortI : CrM K (rSortedI K) oSortI := by
  intro F H vs ds e Q c q k
  unfold oSortI at q
  split at q <;> first | (cases q; done) | skip
  split at q <;> first | (cases q; done) | skip
  rename_i ns hns
  cases q
  obtain ⟨v, rfl, cn⟩ := c.one
  obtain ⟨a, xs, rfl, h, hr⟩ := cn.list
  rw [intsOf_eq hns] at hr
  rw [hr.ints] at h
  refine ⟨a, ns, rfl, h, fun ns' p h1 h2 hp => ?_⟩
  have e : ns' = sortI ns := sorted_unique (h1.trans (sortI_perm ns).symm) h2 (sortI_sorted ns)
  rw [e]
  exact k _ _ (Grow.upd hp) (RvOK.lst hp (.of_ints _))
end
end FL


set_option Elab.async false
set_option maxRecDepth 100000
set_option maxHeartbeats 4000000
namespace FL
open PySem PySem.Spec PyProof.Rows L2

/-! ### a list of one's own is changed -/
section
variable {K : PySem.W.Frag} {T : ThP} {F F0 F' : FS} {H H0 : Hp} {σ : L2.St} {fr fr0 fr' : Fr} {r r0 : Ro}
theorem ext_upd {a : Addr} {xs ys : List V} (nF : ¬ F a) (h : H a = some (.lst xs)) : Ext F H F (upd H a (.lst ys)) where
  sub := fun _ h => h
  fix := fun b o hb e => by
    rw [upd_ne (fun z => nF (by rw [← z]; exact hb))]
    exact e
  tup := fun b zs e => by
    rw [upd_ne (fun z => by rw [z, h] at e; cases e)]
    exact e
  frz := fun b o u e => by
    rw [upd_ne (fun z => by rw [z, h] at e; cases e)]
    exact e
  xd := fun b fs e => by
    rw [upd_ne (fun z => by rw [z, h] at e; cases e)]
    exact e
  ext := fun b fs e => by
    rw [upd_ne (fun z => by rw [z, h] at e; cases e)]
    exact e
theorem At.mut (A : At K T F H σ fr r) {i : Nat} {io lk : Bool} {ds ds' : List PyData} {a : Addr} {xs' : List V} (hi : fr[i]? = some (.li io lk ds)) (ha : r i = some a) (hr : RtAll K F (upd H a (.lst xs')) xs' ds') : At K T F (upd H a (.lst xs')) σ (fr.set i (.li io lk ds')) r := by
  obtain ⟨xs, hx⟩ := A.rootL ha
  have nF := A.rootF ha
  have e := ext_upd (ys := xs') nF hx
  have hl : i < fr.length := (List.getElem?_eq_some_iff.mp hi).1
  refine ⟨by rw [List.length_set]; exact A.len, fun j s ej => ?_, fun j ej => ?_, A.inj, fun b hb => ?_, fun p hp => ?_⟩
  · by_cases hj : j = i
    · subst hj
      rw [List.getElem?_set_self hl] at ej
      cases ej
      obtain ⟨b, q1, q2, q3⟩ := A.slot j _ hi
      rw [ha] at q1
      cases q1
      exact ⟨a, ha, q2, nF, xs', upd_same, hr⟩
    · rw [List.getElem?_set_ne (Ne.symm hj)] at ej
      have q := A.slot j s ej
      cases s with
      | no => exact q
      | sh d =>
        obtain ⟨q1, v, q2, q3⟩ := q
        exact ⟨q1, v, q2, q3.ext e⟩
      | fn m =>
        obtain ⟨q1, v, q2, q3⟩ := q
        exact ⟨q1, v, q2, T.mono q3 e⟩
      | li io' lk' ds2 =>
        obtain ⟨b, q1, q2, n2, ys, q3, q4⟩ := q
        have hb : b ≠ a := fun z => hj (A.inj j i a (by rw [q1, z]) ha)
        exact ⟨b, q1, q2, n2, ys, by rw [upd_ne hb]; exact q3, q4.ext e⟩
  · by_cases hj : j = i
    · subst hj
      rw [List.getElem?_eq_none_iff, List.length_set] at ej
      omega
    · rw [List.getElem?_set_ne (Ne.symm hj)] at ej
      exact A.out j ej
  · obtain ⟨o, q1, q2⟩ := A.ftr b hb
    exact ⟨o, e.fix b o hb q1, q2⟩
  · have q := A.tabs p hp
    have hne : ∀ ps, H p.1 = some (.tbl ps) → p.1 ≠ a := fun ps z w => by
      rw [w, hx] at z
      cases z
    obtain ⟨ps, q1, q2, q3⟩ := q
    refine ⟨ps, by rw [upd_ne (hne ps q1)]; exact q1, q2, fun pos cv hc => ?_⟩
    obtain ⟨c, e1, e2⟩ := q3 pos cv hc
    exact ⟨c, e1, by rw [upd_ne (fun z => by rw [z, hx] at e2; cases e2)]; exact e2⟩
theorem Step.mut {i : Nat} {io : Bool} {ds ds' : List PyData} {a : Addr} {xs' : List V} (s0 : Step F0 H0 fr0 r0 F H fr r) (A : At K T F H σ fr r) (hi : fr[i]? = some (.li io false ds)) (ha : r i = some a) : Step F0 H0 fr0 r0 F (upd H a (.lst xs')) (fr.set i (.li io false ds')) r := by
  refine s0.trans ⟨fun _ h => h, fun _ h => .inl h, fun b o e nt n => ?_, fun b o e => ?_, fun j b h => .inl ⟨j, h⟩, fun j lk ds2 hj => ?_, fun j io2 ds2 hj => ?_⟩
  · rw [upd_ne (fun z => n i (by rw [z]; exact ha))]
    exact e
  · by_cases z : b = a
    · rw [z, upd_same]; exact ⟨_, rfl⟩
    · rw [upd_ne z]; exact ⟨o, e⟩
  · by_cases z : j = i
    · subst z
      rw [hi] at hj
      cases hj
      exact ⟨⟨ds', List.getElem?_set_self (List.getElem?_eq_some_iff.mp hi).1⟩, rfl⟩
    · exact ⟨⟨ds2, by rw [List.getElem?_set_ne (Ne.symm z)]; exact hj⟩, rfl⟩
  · have z : j ≠ i := fun z => by
      rw [z, hi] at hj
      cases hj
    exact ⟨by rw [List.getElem?_set_ne (Ne.symm z)]; exact hj, rfl⟩
end
/-- slot i's list turns by f, which also gives a value -/
def mutM (i : Nat) (f : List PyData → Option (List PyData × PyData)) : Fr → Rs Ev := fun fr => match fr[i]? with
  | some (.li io false ds) => match f ds with
    | some (ds', d) => .ok (.sh d) (fr.set i (.li io false ds'))
    | none => .st
  | _ => .st
/-- a list method by values, over data -/
def LmM (K : PySem.W.Frag) (r : V → List V → Hp → VK → Prop) (f : List PyData → List PyData → Option (List PyData × PyData)) : Prop := ∀ (F : FS) (H : Hp) (a : Addr) (xs vs : List V) (ds args ds' : List PyData) (d : PyData) (Q : VK),
  H a = some (.lst xs) → ¬ F a → RtAll K F H xs ds → RtAll K F H vs args → f args ds = some (ds', d) → (∀ xs' v, RtAll K F H xs' ds' → Rt K F H v d → Q v (upd H a (.lst xs'))) → r (.ref a) vs H Q
def lmE (f : List PyData → List PyData → Option (List PyData × PyData)) (g : Fr → Rs Ev) (h : Fr → Rs (List PyData)) : Fr → Rs Ev := bnd g fun x => match x with
  | .al i => bnd h fun args => mutM i (f args)
  | _ => fun _ => .st
section
variable {X : Cx} {T : ThP} {W : WX} {o e a b c : Expr} {es : List Expr} {pos p apos cpos : Pos} {name : Str} {id : String}
theorem lm_ok {r : V → List V → Hp → VK → Prop} {f : List PyData → List PyData → Option (List PyData × PyData)} (hm : LmM X.K r f) {i : Nat} {args : List PyData} {F F1 : FS} {H H1 : Hp} {fr fr1 : Fr} {r0 r1 : Ro} {σ : L2.St} {Q : VK} {v : V} {vs : List V}
    (hv : σ[i]? = some (some v)) (A : At X.K T F1 H1 σ fr1 r1) (s : Step F H fr r0 F1 H1 fr1 r1) (ha : RtAll X.K F1 H1 vs args) (q : cont X.K X.mg T (okE X.K T) W F H fr r0 σ Q (mutM i (f args) fr1)) : r v vs H1 Q := by
  unfold mutM at q
  split at q
  · rename_i io ds hs
    cases e : f args ds with
    | none => simp only [e] at q; exact q.elim
    | some pr =>
      obtain ⟨ds', d⟩ := pr
      simp only [e] at q
      obtain ⟨b, q1, q2, q3, xs, q4, q5⟩ := A.slot i _ hs
      rw [hv] at q2
      cases q2
      refine hm F1 H1 b xs vs ds args ds' d Q q4 q3 q5 ha e fun xs' v' h1 h2 => ?_
      have ex := ext_upd (ys := xs') q3 q4
      exact q v' F1 _ r1 (A.mut hs q1 (h1.ext ex)) ⟨h2.ext ex, trivial⟩ (s.mut A hs q1)
  · exact q.elim
theorem own_ty {F : FS} {H : Hp} {fr : Fr} {r : Ro} {σ : L2.St} (A : At X.K T F H σ fr r) {i : Nat} {v : V} (hv : σ[i]? = some (some v)) (hl : ∃ io lk ds, fr[i]? = some (.li io lk ds)) : tyV X.K "list" v H := by
  obtain ⟨io, lk, ds, hl⟩ := hl
  obtain ⟨b, q1, q2, q3, xs, q4, q5⟩ := A.slot i _ hl
  rw [hv] at q2
  cases q2
  exact .inl ⟨rfl, xs, .of q4⟩
/-- the receiver is a list of one's own -/
def asLi (x : Ev) : Fr → Rs Nat := fun fr => match x with
  | .al i => match fr[i]? with
    | some (.li _ _ _) => .ok i fr
    | _ => .st
  | _ => .st
def lmC (f : List PyData → List PyData → Option (List PyData × PyData)) (g : Fr → Rs Ev) (h : Fr → Rs (List PyData)) : Fr → Rs Ev := bnd g fun x fr => match x with
  | .al i => match fr[i]? with
    | some (.li _ _ _) => bnd h (fun args => mutM i (f args)) fr
    | _ => .st
  | _ => .st
/-- xs.m(e, ..) -/
theorem ge_lm {r : V → List V → Hp → VK → Prop} {f : List PyData → List PyData → Option (List PyData × PyData)} {g : Fr → Rs Ev} {h : Fr → Rs (List PyData)} (slot : Slot "list" name id) (hty : typeOf (.builtin id) = pure (.type "method_descriptor")) (hm : MtR X id r) (hM : LmM X.K r f) (ho : GE X T W o g) (ha : GA X T W (e :: es) h)
    (hbase : attributeBase o name X.env (eval o X.env) = eval o X.env := by rfl)
    (hfew : ((backTo cpos (starEach (e :: es) X.env)).all (fun x => !x.1) && (backToKw cpos (keywordEach [] X.env)).all (fun x => x.1.isSome)
      && decide ((e :: es).length + ([] : List Keyword).length + (if ([] : List Keyword).isEmpty then 0 else 1) < 30)) = true := by rfl)
    (hline : (apos.endLine == cpos.line) = true := by rfl) (hs : starEach (e :: es) X.env = (false, eval e X.env) :: starEach es X.env := by rfl) (hplain : (backTo cpos (starEach es X.env)).any (·.1) = false := by rfl) :
    GE X T W (.Call (.Attribute o name apos) (e :: es) [] cpos) (lmC f g h) := by
  refine PE.weak (pe_bm PySem.F.plainAttrs_list slot hty hm ho ha hbase hfew hline hs hplain) fun σ H Q ⟨F, fr, r0, A, q⟩ => ?_
  refine ⟨F, fr, r0, A, (use_ok q).mono fun v1 H1 ⟨x, F1, fr1, r1, A1, o1, s1, h1⟩ => ?_⟩
  cases x with
  | sh _ => exact h1.elim
  | ow _ => exact h1.elim
  | fn _ => exact h1.elim
  | al i =>
    dsimp only at h1
    split at h1
    · rename_i io lk ds hs1
      refine ⟨own_ty A1 o1.1 ⟨_, _, _, hs1⟩, F1, fr1, r1, A1, (use_ok (h1.rebase s1 (okE.back s1))).mono fun vs H2 ⟨args, F2, fr2, r2, A2, o2, s2, h2⟩ => ?_⟩
      exact lm_ok hM o1.1 A2 s2 o2 h2
    · exact h1.elim
theorem ge_lm0 {r : V → List V → Hp → VK → Prop} {f : List PyData → List PyData → Option (List PyData × PyData)} {g : Fr → Rs Ev} (slot : Slot "list" name id) (hty : typeOf (.builtin id) = pure (.type "method_descriptor")) (hm : MtR X id r) (hM : LmM X.K r f) (ho : GE X T W o g)
    (hbase : attributeBase o name X.env (eval o X.env) = eval o X.env := by rfl) (hline : (apos.endLine == cpos.line) = true := by rfl) : GE X T W (.Call (.Attribute o name apos) [] [] cpos) (lmC f g (ret [])) := by
  refine PE.weak (pe_bm0 PySem.F.plainAttrs_list slot hty hm ho hbase hline) fun σ H Q ⟨F, fr, r0, A, q⟩ => ?_
  refine ⟨F, fr, r0, A, (use_ok q).mono fun v1 H1 ⟨x, F1, fr1, r1, A1, o1, s1, h1⟩ => ?_⟩
  cases x with
  | sh _ => exact h1.elim
  | ow _ => exact h1.elim
  | fn _ => exact h1.elim
  | al i =>
    dsimp only at h1
    split at h1
    · rename_i io lk ds hs1
      exact ⟨own_ty A1 o1.1 ⟨_, _, _, hs1⟩, lm_ok hM o1.1 A1 s1 .nil (by exact h1)⟩
    · exact h1.elim

/-! ### the methods -/
def fAppend : List PyData → List PyData → Option (List PyData × PyData)
  | [d], ds => if ds.length < sizeLine then some (ds ++ [d], .none) else none
  | _, _ => none
theorem lm_append {K : PySem.W.Frag} : LmM K rAppend fAppend := by
  intro F H a xs vs ds args ds' d Q hx nF hr ha e k
  unfold fAppend at e
  split at e <;> first | (cases e; done) | skip
  split at e <;> first | (cases e; done) | skip
  rename_i hl
  cases e
  cases ha with
  | cons h1 t =>
    cases t
    exact ⟨a, xs, _, rfl, rfl, hx, by rw [hr.length]; exact hl, k _ _ (hr.append (.cons h1 .nil)) .non⟩
def fPop : List PyData → List PyData → Option (List PyData × PyData)
  | [], ds => match ds[ds.length - 1]? with
    | some d => some (ds.dropLast, d)
    | none => none
  | [.int i], ds => if smallB i 4611686018427387904 = true then (match seqIndex? i ds.length with
    | some k => match ds[k]? with
      | some d => some (ds.eraseIdx k, d)
      | none => none
    | none => none) else none
  | _, _ => none
theorem lm_pop {K : PySem.W.Frag} : LmM K (fun x vs H Q => rPop x vs H Q ∨ rPopAt x vs H Q) fPop := by
  intro F H a xs vs ds args ds' d Q hx nF hr ha e k
  unfold fPop at e
  split at e <;> first | (cases e; done) | skip
  · split at e <;> first | (cases e; done) | skip
    rename_i d0 hd
    cases e
    cases ha
    obtain ⟨v, h1, h2⟩ := hr.get hd
    exact .inl ⟨a, xs, v, rfl, rfl, hx, by rw [hr.length]; exact h1, k _ _ hr.dropLast h2⟩
  · split at e <;> first | (cases e; done) | skip
    rename_i hb
    split at e <;> first | (cases e; done) | skip
    rename_i j hj
    split at e <;> first | (cases e; done) | skip
    rename_i d0 hd
    cases e
    cases ha with
    | cons h1 t =>
      cases t
      cases h1
      obtain ⟨v, h1, h2⟩ := hr.get hd
      exact .inr ⟨a, xs, _, j, v, rfl, rfl, hx, (by have := smallB_iff.mp hb; omega), (by have := smallB_iff.mp hb; omega), by rw [hr.length]; exact hj, h1, k _ _ (hr.eraseIdx j) h2⟩
def fReverse : List PyData → List PyData → Option (List PyData × PyData)
  | [], ds => some (ds.reverse, .none)
  | _, _ => none
theorem lm_reverse {K : PySem.W.Frag} : LmM K rReverse fReverse := by
  intro F H a xs vs ds args ds' d Q hx nF hr ha e k
  unfold fReverse at e
  split at e <;> first | (cases e; done) | skip
  cases e
  cases ha
  exact ⟨a, xs, rfl, rfl, hx, k _ _ hr.reverse .non⟩
def fClear : List PyData → List PyData → Option (List PyData × PyData)
  | [], ds => some ([], .none)
  | _, _ => none
theorem lm_clear {K : PySem.W.Frag} : LmM K rClear fClear := by
  intro F H a xs vs ds args ds' d Q hx nF hr ha e k
  unfold fClear at e
  split at e <;> first | (cases e; done) | skip
  cases e
  cases ha
  exact ⟨a, xs, rfl, rfl, hx, k _ _ .nil .non⟩
theorem mt_popA : MtR X "list.pop" (fun x vs H Q => rPop x vs H Q ∨ rPopAt x vs H Q) := MtR.or mt_pop mt_popAt
theorem ge_append {g : Fr → Rs Ev} {h : Fr → Rs (List PyData)} (ho : GE X T W o g) (ha : GA X T W (e :: es) h)
    (hbase : attributeBase o "append" X.env (eval o X.env) = eval o X.env := by rfl)
    (hfew : ((backTo cpos (starEach (e :: es) X.env)).all (fun x => !x.1) && (backToKw cpos (keywordEach [] X.env)).all (fun x => x.1.isSome)
      && decide ((e :: es).length + ([] : List Keyword).length + (if ([] : List Keyword).isEmpty then 0 else 1) < 30)) = true := by rfl)
    (hline : (apos.endLine == cpos.line) = true := by rfl) (hs : starEach (e :: es) X.env = (false, eval e X.env) :: starEach es X.env := by rfl) (hplain : (backTo cpos (starEach es X.env)).any (·.1) = false := by rfl) :
    GE X T W (.Call (.Attribute o "append" apos) (e :: es) [] cpos) (lmC fAppend g h) := ge_lm PySem.F.slot_list_append PySem.F.type_list_append mt_append lm_append ho ha hbase hfew hline hs hplain
theorem ge_popAt {g : Fr → Rs Ev} {h : Fr → Rs (List PyData)} (ho : GE X T W o g) (ha : GA X T W (e :: es) h)
    (hbase : attributeBase o "pop" X.env (eval o X.env) = eval o X.env := by rfl)
    (hfew : ((backTo cpos (starEach (e :: es) X.env)).all (fun x => !x.1) && (backToKw cpos (keywordEach [] X.env)).all (fun x => x.1.isSome)
      && decide ((e :: es).length + ([] : List Keyword).length + (if ([] : List Keyword).isEmpty then 0 else 1) < 30)) = true := by rfl)
    (hline : (apos.endLine == cpos.line) = true := by rfl) (hs : starEach (e :: es) X.env = (false, eval e X.env) :: starEach es X.env := by rfl) (hplain : (backTo cpos (starEach es X.env)).any (·.1) = false := by rfl) :
    GE X T W (.Call (.Attribute o "pop" apos) (e :: es) [] cpos) (lmC fPop g h) := ge_lm PySem.F.slot_list_pop PySem.F.type_list_pop mt_popA lm_pop ho ha hbase hfew hline hs hplain
theorem ge_pop {g : Fr → Rs Ev} (ho : GE X T W o g) (hbase : attributeBase o "pop" X.env (eval o X.env) = eval o X.env := by rfl) (hline : (apos.endLine == cpos.line) = true := by rfl) :
    GE X T W (.Call (.Attribute o "pop" apos) [] [] cpos) (lmC fPop g (ret [])) := ge_lm0 PySem.F.slot_list_pop PySem.F.type_list_pop mt_popA lm_pop ho hbase hline
theorem ge_reverse {g : Fr → Rs Ev} (ho : GE X T W o g) (hbase : attributeBase o "reverse" X.env (eval o X.env) = eval o X.env := by rfl) (hline : (apos.endLine == cpos.line) = true := by rfl) :
    GE X T W (.Call (.Attribute o "reverse" apos) [] [] cpos) (lmC fReverse g (ret [])) := ge_lm0 PySem.F.slot_list_reverse PySem.F.type_list_reverse mt_reverse lm_reverse ho hbase hline

/-! ### xs.extend(ys) -/
/-- the content of a list that is nobody else's -/
def ownD (i : Nat) (fr : Fr) : Ev → Option (List PyData)
  | .ow ds => some ds
  | .al j => if j = i then none else match fr[j]? with
    | some (.li _ _ ds) => some ds
    | _ => none
  | _ => none
def extC (g h : Fr → Rs Ev) : Fr → Rs Ev := bnd g fun x fr => match x with
  | .al i => match fr[i]? with
    | some (.li _ _ _) => bnd h (fun y fr2 => match ownD i fr2 y with
      | some zs => mutM i (fun ds => if ds.length + zs.length ≤ sizeLine then some (ds ++ zs, .none) else none) fr2
      | none => .st) fr
    | _ => .st
  | _ => .st
theorem ge_extend {g h : Fr → Rs Ev} (ho : GE X T W o g) (ha : GE X T W e h)
    (hbase : attributeBase o "extend" X.env (eval o X.env) = eval o X.env := by rfl)
    (hfew : ((backTo cpos (starEach [e] X.env)).all (fun x => !x.1) && (backToKw cpos (keywordEach [] X.env)).all (fun x => x.1.isSome)
      && decide ([e].length + ([] : List Keyword).length + (if ([] : List Keyword).isEmpty then 0 else 1) < 30)) = true := by rfl)
    (hline : (apos.endLine == cpos.line) = true := by rfl) (hs : starEach [e] X.env = (false, eval e X.env) :: starEach [] X.env := by rfl) (hplain : (backTo cpos (starEach [] X.env)).any (·.1) = false := by rfl) :
    GE X T W (.Call (.Attribute o "extend" apos) [e] [] cpos) (extC g h) := by
  refine PE.weak (pe_bm PySem.F.plainAttrs_list PySem.F.slot_list_extend PySem.F.type_list_extend mt_extend ho (pa_cons ha pa_nil hs) hbase hfew hline hs hplain) fun σ H Q ⟨F, fr, r0, A, q⟩ => ?_
  refine ⟨F, fr, r0, A, (use_ok q).mono fun v1 H1 ⟨x, F1, fr1, r1, A1, o1, s1, h1⟩ => ?_⟩
  cases x with
  | sh _ => exact h1.elim
  | ow _ => exact h1.elim
  | fn _ => exact h1.elim
  | al i =>
    dsimp only at h1
    split at h1
    · rename_i io lk ds hs1
      refine ⟨own_ty A1 o1.1 ⟨_, _, _, hs1⟩, F1, fr1, r1, A1, (use_ok (h1.rebase s1 (okE.back s1))).mono fun v2 H2 ⟨y, F2, fr2, r2, A2, o2, s2, h2⟩ => ?_⟩
      cases ez : ownD i fr2 y with
      | none => simp only [ez] at h2; exact h2.elim
      | some zs =>
        simp only [ez] at h2
        unfold mutM at h2
        split at h2
        · rename_i io ds2 hs2
          dsimp only at h2
          split at h2
          · rename_i p ds' d he
            split at he
            · rename_i hlen
              cases he
              obtain ⟨b, q1, q2, q3, xs, q4, q5⟩ := A2.slot i _ hs2
              have q2' : σ[i]? = some (some v1) := o1.1
              rw [q2'] at q2
              cases q2
              have hb : ∃ bb ys, v2 = .ref bb ∧ H2 bb = some (.lst ys) ∧ RtAll X.K F2 H2 ys zs := by
                cases y with
                | sh _ => cases ez
                | fn _ => cases ez
                | ow zs' =>
                  cases ez
                  obtain ⟨bb, e1, ⟨_, ys, e2, e3⟩, _⟩ := o2.1
                  exact ⟨bb, ys, e1, e2, e3⟩
                | al j =>
                  simp only [ownD] at ez
                  split at ez
                  · cases ez
                  · split at ez
                    · rename_i hsj
                      cases ez
                      obtain ⟨bb, _, e2, _, ys, e3, e4⟩ := A2.slot j _ hsj
                      have := o2.1
                      rw [show σ[j]? = some (some v2) from o2.1] at e2
                      cases e2
                      exact ⟨bb, ys, rfl, e3, e4⟩
                    · cases ez
              obtain ⟨bb, ys, rfl, hb1, hb2⟩ := hb
              have ex := ext_upd (ys := xs ++ ys) q3 q4
              refine ⟨b, bb, xs, ys, rfl, rfl, q4, hb1, by rw [q5.length, hb2.length]; exact hlen, ?_⟩
              exact h2 .non F2 _ r2 (A2.mut hs2 q1 ((q5.append hb2).ext ex)) ⟨.non, trivial⟩ (s2.mut A2 hs2 q1)
            · cases he
          · exact h2.elim
        · exact h2.elim
    · exact h1.elim

/-! ### o[i] = e -/
def noEx {α : Type} : Rs α → Rs α
  | .ex _ _ _ => .st
  | x => x
def bndN {α β : Type} (f : Fr → Rs α) (g : α → Fr → Rs β) : Fr → Rs β := fun fr => match f fr with
  | .ok a fr' => g a fr'
  | _ => .st
def setIx (i : Nat) (k : Int) (d : PyData) : Fr → Rs Unit := fun fr => match fr[i]? with
  | some (.li io false ds) => match L2.ixN ds.length k with
    | some j => .ok () (fr.set i (.li io false (ds.set j d)))
    | none => .st
  | _ => .st
def tgSub (g h : Fr → Rs Ev) : Ev → Fr → Rs Unit := fun x => bndN g fun o => match o with
  | .al i => bndN h fun k fr => match rd fr k with
    | some (.int n) => match fz fr x with
      | some (d, fr') => setIx i n d fr'
      | none => .st
    | _ => .st
  | _ => fun _ => .st
theorem nox_sub {g h : Fr → Rs Ev} : NoX (tgSub g h) := fun x fr c w fr' q => by
  unfold tgSub bndN setIx at q
  repeat' (first | (cases q; done) | (split at q) | (dsimp only at q; split at q))
theorem gg_sub {i : Expr} {g h : Fr → Rs Ev} (ho : GE X T W o g) (hi : GE X T W i h)
    (ha : ∀ v, assign (.Subscript o i pos) X.env v = (do
      let ov ← holding [v] (eval o X.env)
      let iv ← holding [v, ov] (eval i X.env)
      standAt pos
      holding [v, ov, iv] (setItem ov iv v)
      release [v, ov, iv] []) := by intro _; rfl) : GG X T (.Subscript o i pos) (tgSub g h) := by
  refine PG.weak (pg_sub ho hi set_list ha) fun v σ H Q ⟨F0, H0, fr0, r0, F, fr, r, x, s, A, o, n, q⟩ => ?_
  refine ⟨F, fr, r, A, ?_⟩
  unfold tgSub bndN at q
  cases e1 : g fr with
  | st => rw [e1] at q; exact q.elim
  | ex c w fr' => rw [e1] at q; exact q.elim
  | ok ox fr1 =>
    rw [e1] at q
    intro ov F1 H1 r1 A1 o1 s1
    cases ox with
    | sh _ => exact q.elim
    | ow _ => exact q.elim
    | fn _ => exact q.elim
    | al sl =>
      refine ⟨F1, fr1, r1, A1, ?_⟩
      dsimp only at q
      cases e2 : h fr1 with
      | st => simp only [e2] at q; exact q.elim
      | ex c w fr' => simp only [e2] at q; exact q.elim
      | ok kx fr2 =>
        simp only [e2] at q
        intro iv F2 H2 r2 A2 o2 s2
        cases e3 : rd fr2 kx with
        | none => simp only [e3] at q; exact q.elim
        | some dk =>
          simp only [e3] at q
          cases dk <;> first | (exact q.elim) | skip
          rename_i k
          dsimp only at q
          cases e4 : fz fr2 x with
          | none => simp only [e4] at q; exact q.elim
          | some pr =>
            obtain ⟨d, fr3⟩ := pr
            simp only [e4] at q
            have hk := (rd_cn A2 o2.1 e3).int
            subst hk
            have ox2 := (o.step s1 A).step s2 A1
            obtain ⟨F3, r3, A3, R3, s3⟩ := fz_step ((s.trans s1).trans s2) A2 ox2 n e4
            unfold setIx at q
            split at q
            · rename_i io ds hs
              split at q
              · rename_i j hj
                obtain ⟨b, q1, q2, q3, xs, q4, q5⟩ := A3.slot sl _ hs
                rw [show σ[sl]? = some (some ov) from o1.1] at q2
                cases q2
                have ex := ext_upd (ys := xs.set j v) q3 q4
                refine ⟨b, xs, k, j, rfl, rfl, q4, by rw [q5.length]; exact hj, ?_⟩
                exact q σ F3 _ r3 (A3.mut hs q1 ((q5.set j R3).ext ex)) (s3.mut A3 hs q1)
              · exact q.elim
            · exact q.elim
end
end FL


set_option Elab.async false
set_option maxRecDepth 100000
set_option maxHeartbeats 4000000
namespace FL
open PySem PySem.Spec PyProof.Rows L2

/-! ### a, b = x, y: own lists stay own -/
section
variable (K : PySem.W.Frag) (T : ThP)
inductive PvOK (F : FS) (H : Hp) (σ : L2.St) (r : Ro) (H0 : Hp) : List V → List Ev → Prop
  | nil : PvOK F H σ r H0 [] []
  | cons {v : V} {e : Ev} {vs : List V} {es : List Ev} : EvOK K T F H σ r v e → New H0 v e → (∀ ds w ds', e = .ow ds → (w, Ev.ow ds') ∈ vs.zip es → v ≠ w) → PvOK F H σ r H0 vs es → PvOK F H σ r H0 (v :: vs) (e :: es)
def okP : OkT (List Ev) (List V) := fun F H r σ H0 vs es => PvOK K T F H σ r H0 vs es
end
section
variable {K : PySem.W.Frag} {T : ThP} {F F0 F' F1 : FS} {H H0 H' H1 : Hp} {σ : L2.St} {fr fr0 fr' fr1 : Fr} {r r0 r' r1 : Ro}
theorem PvOK.back {vs : List V} {es : List Ev} (s : Step F H fr r F1 H1 fr1 r1) (h : PvOK K T F' H' σ r' H1 vs es) : PvOK K T F' H' σ r' H vs es := by
  induction h with
  | nil => exact .nil
  | cons h n d _ ih => exact .cons h (n.back s) d ih
theorem okP.back (s : Step F H fr r F1 H1 fr1 r1) : ∀ F' H' r' b a, okP K T F' H' r' σ H1 b a → okP K T F' H' r' σ H b a := fun _ _ _ _ _ o => PvOK.back s o
theorem PvOK.step {vs : List V} {es : List Ev} (h : PvOK K T F H σ r H0 vs es) (s : Step F H fr r F' H' fr' r') (A : At K T F H σ fr r) : PvOK K T F' H' σ r' H0 vs es := by
  induction h with
  | nil => exact .nil
  | cons h n d _ ih => exact .cons (h.step s A) n d ih
theorem PvOK.new {vs : List V} {es : List Ev} (h : PvOK K T F H σ r H0 vs es) : ∀ {w : V} {ds' : List PyData}, (w, Ev.ow ds') ∈ vs.zip es → ∃ a, w = .ref a ∧ H0 a = none := by
  induction h with
  | nil => intro w ds' hm; simp at hm
  | @cons v e vs es h n d _ ih =>
    intro w ds' hm
    rw [List.zip_cons_cons] at hm
    rcases List.mem_cons.mp hm with hm | hm
    · cases hm
      obtain ⟨a, e1, _⟩ := h
      exact ⟨a, e1, n a e1⟩
    · exact ih hm
/-- what a name holds is read off -/
def nrm (e : Ev) : Fr → Rs Ev := fun fr => match e with
  | .al _ => match fz fr e with
    | some (d, fr') => .ok (.sh d) fr'
    | none => .st
  | e => .ok e fr
def nrmAll : List Ev → Fr → Rs (List Ev)
  | [], fr => .ok [] fr
  | e :: es, fr => match nrm e fr with
    | .ok e' fr1 => match nrmAll es fr1 with
      | .ok es' fr2 => .ok (e' :: es') fr2
      | _ => .st
    | _ => .st
def noAl : Ev → Bool
  | .al _ => false
  | _ => true
theorem nrmAll_ok : ∀ {es es' : List Ev} {vs : List V} {F : FS} {fr fr' : Fr} {r : Ro}, Step F0 H0 fr0 r0 F H fr r → At K T F H σ fr r → PvOK K T F H σ r H0 vs es → nrmAll es fr = .ok es' fr' →
    ∃ F' r', At K T F' H σ fr' r' ∧ Step F0 H0 fr0 r0 F' H fr' r' ∧ PvOK K T F' H σ r' H0 vs es' ∧ es'.all noAl = true ∧ Step F H fr r F' H fr' r' ∧ ∀ w ds, (w, Ev.ow ds) ∈ vs.zip es' → (w, Ev.ow ds) ∈ vs.zip es
  | [], _, _, F, fr, _, r, s, A, .nil, e => by
    cases e
    exact ⟨F, r, A, s, .nil, rfl, Step.refl, fun _ _ h => h⟩
  | e :: es, _, _, F, fr, _, r, s, A, .cons (v := v) (vs := vs) h n d t, q => by
    unfold nrmAll at q
    cases e1 : nrm e fr with
    | st => simp only [e1] at q; cases q
    | ex _ _ _ => simp only [e1] at q; cases q
    | ok ev fr1 =>
      simp only [e1] at q
      have first : ∃ F1 r1, At K T F1 H σ fr1 r1 ∧ Step F0 H0 fr0 r0 F1 H fr1 r1 ∧ EvOK K T F1 H σ r1 v ev ∧ New H0 v ev ∧ noAl ev = true ∧ Step F H fr r F1 H fr1 r1 ∧ ∀ ds, ev = .ow ds → e = .ow ds := by
        cases e with
        | sh dd => cases e1; exact ⟨F, r, A, s, h, n, rfl, Step.refl, fun _ z => z⟩
        | ow dd => cases e1; exact ⟨F, r, A, s, h, n, rfl, Step.refl, fun _ z => z⟩
        | fn dd => cases e1; exact ⟨F, r, A, s, h, n, rfl, Step.refl, fun _ z => z⟩
        | al i =>
          unfold nrm at e1
          dsimp only at e1
          cases e2 : fz fr (.al i) with
          | none => rw [e2] at e1; cases e1
          | some p =>
            obtain ⟨dd, fr2⟩ := p
            rw [e2] at e1
            cases e1
            obtain ⟨F1, r1, A1, R1, s1⟩ := fz_step Step.refl A h trivial e2
            exact ⟨F1, r1, A1, s.trans s1, R1, trivial, rfl, s1, fun _ z => by cases z⟩
      obtain ⟨F1, r1, A1, s1, o1, n1, na1, st1, eo1⟩ := first
      cases e2 : nrmAll es fr1 with
      | st => simp only [e2] at q; cases q
      | ex _ _ _ => simp only [e2] at q; cases q
      | ok es2 fr2 =>
        simp only [e2] at q
        cases q
        obtain ⟨F2, r2, A2, s2, p2, na2, st2, z2⟩ := nrmAll_ok s1 A1 (t.step st1 A) e2
        refine ⟨F2, r2, A2, s2, .cons (o1.step st2 A1) n1 (fun ds w ds' he hm => ?_) p2, by rw [List.all_cons, na1, na2]; rfl, st1.trans st2, fun w ds hm => ?_⟩
        · exact d ds w ds' (eo1 ds he) (z2 w ds' hm)
        · rw [List.zip_cons_cons] at hm ⊢
          rcases List.mem_cons.mp hm with hm | hm
          · cases hm
            rw [eo1 ds rfl]
            exact List.mem_cons_self
          · exact List.mem_cons_of_mem _ (z2 w ds hm)
/-- stores from the right -/
def stAll : List Nat → List Ev → Fr → Rs Unit
  | i :: is, e :: es, fr => match stAll is es fr with
    | .ok _ fr' => stM i e fr'
    | _ => .st
  | [], [], fr => .ok () fr
  | _, _, _ => .st
def setAll : List Nat → List V → L2.St → L2.St
  | i :: is, v :: vs, σ => (setAll is vs σ).set i (some v)
  | _, _, σ => σ
theorem stM_na (s0 : Step F0 H0 fr0 r0 F H fr r) (A : At K T F H σ fr r) {v : V} {x : Ev} {i : Nat} (h : EvOK K T F H σ r v x) (n : New H0 v x) (na : noAl x = true) (q : stM i x fr = .ok () fr') :
    ∃ r', At K T F H (σ.set i (some v)) fr' r' ∧ Step F0 H0 fr0 r0 F H fr' r' ∧ ∀ j b, r' j = some b → r j = some b ∨ (v = .ref b ∧ ∃ ds, x = .ow ds) := by
  unfold stM at q
  cases hs : fr[i]? with
  | none => rw [hs] at q; cases q
  | some s =>
    rw [hs] at q
    dsimp only at q
    have hi : i < fr.length := (List.getElem?_eq_some_iff.mp hs).1
    split at q
    · rename_i hf
      cases x with
      | al j => cases na
      | ow ds =>
        cases q
        obtain ⟨a, e, o, hn⟩ := h
        have hna := n a e
        subst e
        refine ⟨setR r i a, A.putO hi o hn, step_put hs hf (fun j hj => if_neg hj) (fun b hb => by
          rw [show setR r i a i = some a from if_pos rfl] at hb
          cases hb
          exact hna) s0, fun j b hb => ?_⟩
        by_cases hj : j = i
        · subst hj
          rw [show setR r j a j = some a from if_pos rfl] at hb
          cases hb
          exact .inr ⟨rfl, ds, rfl⟩
        · rw [show setR r i a j = r j from if_neg hj] at hb
          exact .inl hb
      | fn m =>
        cases q
        refine ⟨delR r i, A.put hi fun r' e' => ⟨e', v, rfl, h⟩, step_put hs hf (fun j hj => delR_ne hj) (fun a ha => ?_) s0, fun j b hb => .inl (delR_some hb).2⟩
        rw [delR_same] at ha
        cases ha
      | sh d =>
        cases q
        refine ⟨delR r i, A.put hi fun r' e' => ⟨e', v, rfl, h⟩, step_put hs hf (fun j hj => delR_ne hj) (fun a ha => ?_) s0, fun j b hb => .inl (delR_some hb).2⟩
        rw [delR_same] at ha
        cases ha
    · cases q
theorem stAll_ok : ∀ {is : List Nat} {es : List Ev} {vs : List V} {fr' : Fr}, Step F0 H0 fr0 r0 F H fr r → At K T F H σ fr r → PvOK K T F H σ r H0 vs es → es.all noAl = true → stAll is es fr = .ok () fr' →
    ∃ r', At K T F H (setAll is vs σ) fr' r' ∧ Step F0 H0 fr0 r0 F H fr' r' ∧ (∀ j b, r' j = some b → r j = some b ∨ ∃ ds, (V.ref b, Ev.ow ds) ∈ vs.zip es) ∧ is.length = vs.length
  | [], [], _, _, s, A, .nil, _, q => by
    cases q
    exact ⟨r, A, s, fun j b h => .inl h, rfl⟩
  | i :: is, e :: es, _, fr', s, A, .cons (v := v) (vs := vs) h n d t, na, q => by
    rw [List.all_cons, Bool.and_eq_true] at na
    unfold stAll at q
    cases e1 : stAll is es fr with
    | st => simp only [e1] at q; cases q
    | ex _ _ _ => simp only [e1] at q; cases q
    | ok u fr1 =>
      simp only [e1] at q
      obtain ⟨r1, A1, s1, z1, l1⟩ := stAll_ok s A t na.2 e1
      have o1 : EvOK K T F H (setAll is vs σ) r1 v e := by
        cases e with
        | sh dd => exact h
        | fn m => exact h
        | al j => cases na.1
        | ow ds =>
          obtain ⟨a, ea, o, hn⟩ := h
          refine ⟨a, ea, o, fun j hj => ?_⟩
          rcases z1 j a hj with z | ⟨ds', z⟩
          · exact hn j z
          · exact d ds (.ref a) ds' rfl z ea
      obtain ⟨r2, A2, s2, z2⟩ := stM_na s1 A1 o1 n na.1 q
      refine ⟨r2, A2, s2, fun j b hb => ?_, by rw [List.length_cons, List.length_cons, l1]⟩
      rw [List.zip_cons_cons]
      rcases z2 j b hb with z | ⟨ev, ds, ex⟩
      · rcases z1 j b z with z | ⟨ds, z⟩
        · exact .inl z
        · exact .inr ⟨ds, List.mem_cons_of_mem _ z⟩
      · subst ev ex
        exact .inr ⟨ds, List.mem_cons_self⟩
  | [], _ :: _, _, _, _, _, _, _, q => by cases q
  | _ :: _, [], _, _, _, _, _, _, q => by cases q
end
section
variable {X : Cx} {T : ThP} {W : WX} {o e a b c : Expr} {es : List Expr} {pos p apos cpos : Pos}
abbrev GP (X : Cx) (T : ThP) (W : WX) (es : List Expr) (f : Fr → Rs (List Ev)) : Prop := PA X es (tG X.K X.mg T (okP X.K T) W f)
theorem gp_nil : GP X T W [] (ret []) := PA.weak pa_nil fun σ H Q ⟨F, fr, r, A, q⟩ => q [] F H r A .nil Step.refl
def okFix {α β : Type} (ok : OkT α β) (H0 : Hp) : OkT α β := fun F H r σ _ b a => ok F H r σ H0 b a
theorem cont.fix {K : PySem.W.Frag} {mg : Str → Option Value} {α β : Type} {ok : OkT α β} {F : FS} {H : Hp} {fr : Fr} {r : Ro} {σ : L2.St} {Q : β → Hp → Prop} {x : Rs α} (h : cont K mg T ok W F H fr r σ Q x) : cont K mg T (okFix ok H) W F H fr r σ Q x := by
  cases x <;> exact h
theorem gp_cons {f : Fr → Rs Ev} {g : Fr → Rs (List Ev)} (h : GE X T W e f) (h2 : GP X T W es g) (hs : starEach (e :: es) X.env = (false, eval e X.env) :: starEach es X.env := by rfl) : GP X T W (e :: es) (evC f g) := by
  refine PA.weak (pa_cons h h2 hs) fun σ H Q ⟨F, fr, r, A, q⟩ => ?_
  refine ⟨F, fr, r, A, (use_ok q).mono fun v1 H1 ⟨x, F1, fr1, r1, A1, o1, s1, h1⟩ => ?_⟩
  refine ⟨F1, fr1, r1, A1, (use_ok (ok := okP X.K T) (ok2 := okFix (okP X.K T) H) (h1.fix.rebase s1 fun _ _ _ _ _ o => o)).mono fun vs H3 ⟨xs, F3, fr3, r3, A3, o3, s3, h3⟩ => ?_⟩
  refine h3 (v1 :: vs) F3 H3 r3 A3 (.cons (o1.1.step s3 A1) o1.2 (fun ds w ds' he hm => ?_) (PvOK.back s1 o3)) s3
  subst he
  obtain ⟨a, ea, ⟨_, xs', hx, _⟩, _⟩ := o1.1
  obtain ⟨b, eb, hb⟩ := PvOK.new o3 hm
  rw [ea, eb]
  intro z
  cases z
  rw [hx] at hb
  cases hb
/-- x, y = e1, e2 -/
def parS (is : List Nat) (f : Fr → Rs (List Ev)) : Fr → Rs Fl := bnd f fun es => bnd (nrmAll es) fun es' => unS (stAll is es')
theorem stAll_ne : ∀ {is : List Nat} {es : List Ev} {fr : Fr} {c w fr1}, stAll is es fr ≠ .ex c w fr1
  | [], [], fr, c, w, fr1, h => by cases h
  | [], _ :: _, fr, c, w, fr1, h => by cases h
  | _ :: _, [], fr, c, w, fr1, h => by cases h
  | i :: is, e :: es, fr, c, w, fr1, h => by
    unfold stAll at h
    split at h
    · exact stM_ne h
    · cases h
theorem nrmAll_ne : ∀ {es : List Ev} {fr : Fr} {c w fr1}, nrmAll es fr ≠ .ex c w fr1
  | [], fr, c, w, fr1, h => by cases h
  | e :: es, fr, c, w, fr1, h => by
    unfold nrmAll at h
    split at h
    · split at h <;> cases h
    · cases h
theorem par_ok {is : List Nat} {f : Fr → Rs (List Ev)} (D : Ends) (σ : L2.St) (H : Hp) (h : tS X.K X.mg T W (parS is f) D σ H) : tG X.K X.mg T (okP X.K T) W f σ H fun vs H1 => is.length = vs.length ∧ D.nx (setAll is vs σ) H1 := by
  obtain ⟨F, fr, r, A, q⟩ := h
  refine ⟨F, fr, r, A, (use_okS q).mono fun vs H1 ⟨es, F1, fr1, r1, A1, o1, s1, h1⟩ => ?_⟩
  unfold bnd at h1
  cases e1 : nrmAll es fr1 with
  | st => rw [e1] at h1; exact h1.elim
  | ex c w fr2 => exact (nrmAll_ne e1).elim
  | ok es' fr2 =>
    rw [e1] at h1
    obtain ⟨F2, r2, A2, s2, p2, na, _, _⟩ := nrmAll_ok s1 A1 o1 e1
    have h2 := contS.toU h1 fun _ _ _ => stAll_ne
    cases e2 : stAll is es' fr2 with
    | st => rw [e2] at h2; exact h2.elim
    | ex c w fr3 => exact (stAll_ne e2).elim
    | ok u fr3 =>
      rw [e2] at h2
      obtain ⟨r3, A3, s3, _, l3⟩ := stAll_ok s2 A2 p2 na e2
      exact ⟨l3, h2 _ F2 H1 r3 A3 s3⟩
theorem gs_par {i j : Nat} {x y : Str} {px py pt : Pos} {kt k2 pt2} {f : Fr → Rs (List Ev)} (hc : X.calm = true) (hN : X.N.Nodup) (hi : X.N[i]? = some x) (hj : X.N[j]? = some y) (hij : i ≠ j)
    (hx : X.env.scope.names.lookup x = some .local) (hy : X.env.scope.names.lookup y = some .local) (ha : GP X T W [a, b] f)
    (hw : swappedStores [.Tuple [.Name x px, .Name y py] kt pt] (.Tuple [a, b] k2 pt2) X.env = pure (some [x, y]) := by rfl)
    (hs : swapsWithSole [.Tuple [.Name x px, .Name y py] kt pt] (.Tuple [a, b] k2 pt2) pos.line X.env = pure false := by rfl) :
    GS X T W (.Assign [.Tuple [.Name x px, .Name y py] kt pt] (.Tuple [a, b] k2 pt2) pos) (parS [i, j] f) := by
  refine PS.weak (ps_par hc hN hi hj hij hx hy ha hw hs) fun D σ H q => ?_
  obtain ⟨F, fr, r, A, q⟩ := par_ok D σ H q
  refine ⟨F, fr, r, A, q.mono fun vs H1 ⟨hl, hn⟩ => ?_⟩
  match vs, hl with
  | [v, w], _ =>
    refine ⟨v, w, rfl, ?_⟩
    rw [List.set_comm _ _ hij]
    exact hn
theorem gs_par3 {i j l : Nat} {x y z : Str} {px py pz pt : Pos} {kt k2 pt2} {f : Fr → Rs (List Ev)} (hc : X.calm = true) (hN : X.N.Nodup) (hi : X.N[i]? = some x) (hj : X.N[j]? = some y) (hl : X.N[l]? = some z) (hij : i ≠ j) (hil : i ≠ l) (hjl : j ≠ l)
    (hx : X.env.scope.names.lookup x = some .local) (hy : X.env.scope.names.lookup y = some .local) (hz : X.env.scope.names.lookup z = some .local) (ha : GP X T W [a, b, c] f)
    (hw : swappedStores [.Tuple [.Name x px, .Name y py, .Name z pz] kt pt] (.Tuple [a, b, c] k2 pt2) X.env = pure (some [x, y, z]) := by rfl)
    (hs : swapsWithSole [.Tuple [.Name x px, .Name y py, .Name z pz] kt pt] (.Tuple [a, b, c] k2 pt2) pos.line X.env = pure false := by rfl) :
    GS X T W (.Assign [.Tuple [.Name x px, .Name y py, .Name z pz] kt pt] (.Tuple [a, b, c] k2 pt2) pos) (parS [i, j, l] f) := by
  refine PS.weak (ps_par3 hc hN hi hj hl hij hil hjl hx hy hz ha hw hs) fun D σ H q => ?_
  obtain ⟨F, fr, r, A, q⟩ := par_ok D σ H q
  refine ⟨F, fr, r, A, q.mono fun vs H1 ⟨hl, hn⟩ => ?_⟩
  match vs, hl with
  | [u, v, w], _ =>
    refine ⟨u, v, w, rfl, ?_⟩
    rw [List.set_comm _ _ hjl, List.set_comm _ _ hil, List.set_comm _ _ hij]
    exact hn

/-! ### name op= e -/
def augS (i : Nat) (g : Int → Int → Int) (f : Fr → Rs Ev) : Fr → Rs Fl := fun fr => match fr[i]? with
  | some (.sh (.int n)) => bnd f (fun y fr1 => match rd fr1 y with
    | some (.int k) => unS (stM i (.sh (.int (g n k)))) fr1
    | _ => .st) fr
  | _ => .st
theorem gs_aug {i : Nat} {x : Str} {op : Operator} {g : Int → Int → Int} {f : Fr → Rs Ev} {pos' : Pos} (hN : X.N.Nodup) (hi : X.N[i]? = some x) (hx : Loc X.env.scope x) (he : GE X T W e f) (ho : PIp X op (ipI g)) (hf : X.fn x = true ∨ X.env.scope.names.lookup x = some .local := by first | exact .inl rfl | exact .inr rfl | assumption) :
    GS X T W (.AugAssign (.Name x pos') op e pos) (augS i g f) := by
  refine PS.weak (ps_aug hN hi hx he ho hf) fun D σ H ⟨F, fr, r, A, q⟩ => ?_
  unfold augS at q
  split at q
  · rename_i n hs
    obtain ⟨_, v, e1, e2⟩ := A.slot i _ hs
    cases e2
    refine ⟨.int n, e1, F, fr, r, A, (use_okS q).mono fun v1 H1 ⟨y, F1, fr1, r1, A1, o1, s1, h1⟩ => ?_⟩
    cases e3 : rd fr1 y with
    | none => simp only [e3] at h1; exact h1.elim
    | some d =>
      simp only [e3] at h1
      cases d <;> first | (exact h1.elim) | skip
      rename_i k
      dsimp only at h1
      have hv := (rd_cn A1 o1.1 e3).int
      subst hv
      refine ⟨n, k, rfl, rfl, ?_⟩
      have q := h1.toU fun _ _ _ => stM_ne
      cases e : stM i (.sh (.int (g n k))) fr1 with
      | ok u fr' =>
        rw [e] at q
        obtain ⟨F', r', A', s'⟩ := stM_ok s1 A1 (show EvOK X.K T F1 H1 σ r1 (.int (g n k)) (.sh (.int (g n k))) from .int _) trivial e
        exact q _ F' H1 r' A' s'
      | ex => rw [e] at q; exact q.elim
      | st => rw [e] at q; exact q.elim
  · exact q.elim

/-! ### xs[i] op= e -/
theorem pget_list : PGet X (rIxL X.K) := by
  intro pins s σ H o i ov iv Q I ro ri h
  obtain ⟨p, xs, i, z, rfl, rfl, hq, he, q⟩ := h
  cases ro
  obtain ⟨t, rfl⟩ := ri
  obtain ⟨its, r, pl, hz⟩ := I.list hq
  obtain ⟨j, h1, h2, h3, h4, h5⟩ := atI_get he
  obtain ⟨w, ew, rw'⟩ := r.get h2
  have hl := r.length
  have hn := line63
  have fin : EP X pins σ Q w s := ⟨z, H, I, rw', q⟩
  by_cases h0 : 0 ≤ i
  · have hj : i.toNat = j := by
      rw [seqIndex_of h0 h5] at h1
      exact Option.some.inj h1
    exact wpAny_getItem_list pl.isList h0 (by omega) (by rw [hj]; simpa using ew) fin
  · have hj : (i + (its.toArray.size : Int)).toNat = j := by
      rw [seqIndex_neg (by omega) h4] at h1
      rw [List.size_toArray, ← hl]
      exact Option.some.inj h1
    exact wpAny_getItem_list_neg pl.isList (by omega) (by rw [List.size_toArray] <;> omega) (by omega) (by rw [hj]; simpa using ew) fin
def augSS (g : Int → Int → Int) (fo fi fe : Fr → Rs Ev) : Fr → Rs Fl := bnd fo fun x => match x with
  | .al i => bnd fi fun k fr => match rd fr k, fr[i]? with
    | some (.int n), some (.li io false ds) => match L2.atI ds n with
      | some (.int old) => bnd fe (fun y fr1 => match rd fr1 y, fr1[i]? with
        | some (.int v), some (.li io1 false ds1) => match L2.ixN ds1.length n with
          | some j => .ok .nx (fr1.set i (.li io1 false (ds1.set j (.int (g old v)))))
          | none => .st
        | _, _ => .st) fr
      | _ => .st
    | _, _ => .st
  | _ => fun _ => .st
theorem gs_augS {oi : Expr} {op : Operator} {g : Int → Int → Int} {fo fi fe : Fr → Rs Ev} {tpos : Pos} (h1 : GE X T W o fo) (h2 : GE X T W oi fi) (h3 : GE X T W e fe) (ho : PIp X op (ipI g))
    (ha : ∀ ov iv new, augStore oi ov iv new = (do holding [new, ov, iv] (setItem ov iv new); release [new, ov, iv] []; pure .next) := by intros; rfl) : GS X T W (.AugAssign (.Subscript o oi tpos) op e pos) (augSS g fo fi fe) := by
  refine PS.weak (ps_augS h1 h2 pget_list h3 ho set_list ha) fun D σ H ⟨F, fr, r, A, q⟩ => ?_
  refine ⟨F, fr, r, A, (use_okS q).mono fun v1 H1 ⟨x, F1, fr1, r1, A1, o1, s1, h1⟩ => ?_⟩
  cases x with
  | sh _ => exact h1.elim
  | ow _ => exact h1.elim
  | fn _ => exact h1.elim
  | al i =>
    refine ⟨F1, fr1, r1, A1, (use_okS (h1.rebase s1)).mono fun v2 H2 ⟨k, F2, fr2, r2, A2, o2, s2, h2⟩ => ?_⟩
    cases e1 : rd fr2 k with
    | none => simp only [e1] at h2; exact h2.elim
    | some d =>
      cases d <;> first | (simp only [e1] at h2; exact h2.elim) | skip
      rename_i n
      have hn := (rd_cn A2 o2.1 e1).int
      subst hn
      simp only [e1] at h2
      split at h2
      · rename_i n' io ds en hs
        cases en
        split at h2
        · rename_i old hold
          obtain ⟨b, q1, q2, q3, xs, q4, q5⟩ := A2.slot i _ hs
          rw [show σ[i]? = some (some v1) from o1.1] at q2
          cases q2
          obtain ⟨w, hw, rw'⟩ := q5.atI hold
          cases rw'
          refine ⟨b, xs, n, .int old, rfl, rfl, .of q4, hw, ?_⟩
          refine ⟨F2, fr2, r2, A2, (use_okS (h2.rebase s2)).mono fun v3 H3 ⟨y, F3, fr3, r3, A3, o3, s3, h3⟩ => ?_⟩
          split at h3
          · rename_i v io1 ds1 ey hs1
            have hv := (rd_cn A3 o3.1 ey).int
            subst hv
            split at h3
            · rename_i j hj
              obtain ⟨b', p1, p2, p3, ys, p4, p5⟩ := A3.slot i _ hs1
              rw [show σ[i]? = some (some (V.ref b)) from o1.1] at p2
              cases p2
              refine ⟨old, v, rfl, rfl, b, ys, n, j, rfl, rfl, p4, by rw [p5.length]; exact hj, ?_⟩
              have ex := ext_upd (ys := ys.set j (V.int (g old v))) p3 p4
              exact h3 σ F3 _ r3 (A3.mut hs1 p1 ((p5.set j (.int _)).ext ex)) (s3.mut A3 hs1 p1)
            · exact h3.elim
          · exact h3.elim
        · exact h2.elim
      · exact h2.elim
end
end FL


set_option Elab.async false
set_option maxRecDepth 100000
set_option maxHeartbeats 4000000
namespace FL
open PySem PySem.Spec PyProof.Rows L2

/-! ### locks: a list of one's own that is walked -/
def mapI (f : Nat → Sv → Sv) : Nat → Fr → Fr
  | _, [] => []
  | k, s :: r => f k s :: mapI f (k + 1) r
theorem mapI_get (f : Nat → Sv → Sv) : ∀ (k : Nat) (fr : Fr) (i : Nat), (mapI f k fr)[i]? = fr[i]?.map (f (k + i))
  | k, [], i => by simp [mapI]
  | k, s :: r, 0 => by simp [mapI]
  | k, s :: r, i + 1 => by
    unfold mapI
    rw [List.getElem?_cons_succ, List.getElem?_cons_succ, mapI_get f (k + 1) r i]
    congr 2
    omega
theorem mapI_len (f : Nat → Sv → Sv) : ∀ (k : Nat) (fr : Fr), (mapI f k fr).length = fr.length
  | k, [] => rfl
  | k, s :: r => by unfold mapI; rw [List.length_cons, List.length_cons, mapI_len]
def lkS (lks : List Nat) (i : Nat) (s : Sv) : Sv := match s with
  | .li io lk ds => .li io (lk || lks.contains i) ds
  | s => s
def lkAll (lks : List Nat) (fr : Fr) : Fr := mapI (lkS lks) 0 fr
def rlS (fr0 : Fr) (i : Nat) (s : Sv) : Sv := match fr0[i]?, s with
  | some (.li _ lk0 _), .li io _ ds => .li io lk0 ds
  | _, s => s
def relock (fr0 fr : Fr) : Fr := mapI (rlS fr0) 0 fr
theorem lkAll_get {lks : List Nat} {fr : Fr} {i : Nat} : (lkAll lks fr)[i]? = fr[i]?.map (lkS lks i) := by
  unfold lkAll
  rw [mapI_get, Nat.zero_add]
theorem relock_get {fr0 fr : Fr} {i : Nat} : (relock fr0 fr)[i]? = fr[i]?.map (rlS fr0 i) := by
  unfold relock
  rw [mapI_get, Nat.zero_add]
/-- the same but for locks -/
def eqLk : Sv → Sv → Prop
  | .li io _ ds, .li io' _ ds' => io = io' ∧ ds = ds'
  | s, s' => s = s'
section
variable {K : PySem.W.Frag} {mg : Str → Option Value} {T : ThP} {W : WX} {F F0 F' : FS} {H H0 H' : Hp} {σ : L2.St} {fr fr0 fr' : Fr} {r r0 r' : Ro} {lks : List Nat}
theorem SlotOK.lkS {ov ra} {s : Sv} {i : Nat} (h : SlotOK K T F H ov ra s) : SlotOK K T F H ov ra (FL.lkS lks i s) := by
  cases s <;> exact h
theorem SlotOK.ofLkS {ov ra} {s : Sv} {i : Nat} (h : SlotOK K T F H ov ra (FL.lkS lks i s)) : SlotOK K T F H ov ra s := by
  cases s <;> exact h
theorem SlotOK.rlS {ov ra} {s : Sv} {i : Nat} (h : SlotOK K T F H ov ra s) : SlotOK K T F H ov ra (FL.rlS fr0 i s) := by
  unfold FL.rlS
  split
  · exact h
  · exact h
theorem At.lock (A : At K T F H σ fr r) : At K T F H σ (lkAll lks fr) r := by
  refine ⟨by unfold lkAll; rw [mapI_len]; exact A.len, fun i s e => ?_, fun i e => ?_, A.inj, A.ftr, A.tabs⟩
  · rw [lkAll_get, Option.map_eq_some_iff] at e
    obtain ⟨s0, e1, rfl⟩ := e
    exact (A.slot i s0 e1).lkS
  · rw [lkAll_get, Option.map_eq_none_iff] at e
    exact A.out i e
theorem At.relock (A : At K T F H σ fr r) : At K T F H σ (relock fr0 fr) r := by
  refine ⟨by unfold FL.relock; rw [mapI_len]; exact A.len, fun i s e => ?_, fun i e => ?_, A.inj, A.ftr, A.tabs⟩
  · rw [relock_get, Option.map_eq_some_iff] at e
    obtain ⟨s0, e1, rfl⟩ := e
    exact (A.slot i s0 e1).rlS
  · rw [relock_get, Option.map_eq_none_iff] at e
    exact A.out i e
theorem Step.relock (s : Step F H (lkAll lks fr) r F' H' fr' r') : Step F H fr r F' H' (relock fr fr') r' := by
  refine ⟨s.sub, s.new, s.keep, s.trk, s.root, fun i lk ds e => ?_, fun i io ds e => ?_⟩
  · obtain ⟨⟨ds', e2⟩, e3⟩ := s.io i (lk || lks.contains i) ds (by rw [lkAll_get, e]; rfl)
    exact ⟨⟨ds', by rw [relock_get, e2]; show some (rlS fr i _) = _; unfold rlS; rw [e]⟩, e3⟩
  · obtain ⟨e2, e3⟩ := s.lk i io ds (by rw [lkAll_get, e]; rfl)
    exact ⟨by rw [relock_get, e2]; show some (rlS fr i _) = _; unfold rlS; rw [e], e3⟩
end

/-! ### what is walked -/
structure SrcD where
  items : List PyData
  lks : List Nat
/-- the slots of a block's own names hidden -/
def hidS (vs : List Nat) (i : Nat) (s : Sv) : Sv := if vs.contains i = true then .no else s
def hid (vs : List Nat) (fr : Fr) : Fr := mapI (hidS vs) 0 fr
def hidR (vs : List Nat) (r : Ro) : Ro := fun i => if vs.contains i = true then none else r i
theorem hid_get {vs : List Nat} {fr : Fr} {i : Nat} : (hid vs fr)[i]? = fr[i]?.map (hidS vs i) := by
  unfold hid
  rw [mapI_get, Nat.zero_add]
section
variable (K : PySem.W.Frag) (T : ThP)
/-- J gives the items, while S stands -/
structure Src (J : It) (items : List PyData) (lks : List Nat) (S : FS → Hp → Fr → Ro → Prop) : Prop where
  goes : ∀ {F H σ fr r i}, At K T F H σ fr r → S F H fr r → i < items.length → J.go i H
  stops : ∀ {F H σ fr r}, At K T F H σ fr r → S F H fr r → J.stop items.length H
  yields : ∀ {F H σ fr r i x H'}, At K T F H σ fr r → S F H fr r → i < items.length → J.yld i H x H' → Grow H H' ∧ ∃ d, items[i]? = some d ∧ Rt K F H' x d
  keep : ∀ {F H σ fr r F' H' fr' r'}, At K T F H σ fr r → S F H fr r → Step F H fr r F' H' fr' r' → S F' H' fr' r'
  hide : ∀ {F H fr r vs}, S F H fr r → (∀ i ∈ lks, vs.contains i = false) → S F H (hid vs fr) (hidR vs r)
  ext : ∀ {F H fr r F' H'}, S F H fr r → Ext F H F' H' → S F' H' fr r
def contI (mg : Str → Option Value) (W : WX) (F : FS) (H : Hp) (fr : Fr) (r : Ro) (σ : L2.St) (R : It → Hp → Prop) : Rs SrcD → Prop
  | .ok s fr' => ∀ J F' H' r' S, At K T F' H' σ fr' r' → Src K T J s.items s.lks S → S F' H' (lkAll s.lks fr') r' → Step F H fr r F' H' fr' r' → R J H'
  | .ex c w fr' => ∀ C dd v F' H' r', mg c = some (.ref C) → At K T F' H' σ fr' r' → H' dd = some (.xd [("what", v)]) → Rt K F' H' v w → Step F H fr r F' H' fr' r' → W (.ref C) (some dd) σ H'
  | .st => False
def tI (mg : Str → Option Value) (W : WX) (f : Fr → Rs SrcD) : TI := fun σ H R => ∃ F fr r, At K T F H σ fr r ∧ contI K T mg W F H fr r σ R (f fr)
end
theorem PI.weak {X : Cx} {tg e : Expr} {t t' : TI} (h : PI X tg e t) (i : ∀ σ H Q, t' σ H Q → t σ H Q) : PI X tg e t' := ⟨fun pins s σ H Q I q => h.run pins s σ H Q I (i σ H Q q)⟩
abbrev GI (X : Cx) (T : ThP) (W : WX) (tg e : Expr) (f : Fr → Rs SrcD) : Prop := PI X tg e (tI X.K T X.mg W f)
section
variable {K : PySem.W.Frag} {mg : Str → Option Value} {T : ThP} {W : WX} {F F0 F' : FS} {H H0 H' : Hp} {σ : L2.St} {fr fr0 fr' : Fr} {r r0 r' : Ro} {α β : Type} {ok : OkT α β}
theorem use_okI {f : Fr → Rs α} {g : α → Fr → Rs SrcD} {R : It → Hp → Prop} (h : contI K T mg W F H fr r σ R (bnd f g fr)) :
    cont K mg T ok W F H fr r σ (fun b H1 => ∃ a F1 fr1 r1, At K T F1 H1 σ fr1 r1 ∧ ok F1 H1 r1 σ H b a ∧ Step F H fr r F1 H1 fr1 r1 ∧ contI K T mg W F H fr r σ R (g a fr1)) (f fr) := by
  unfold bnd at h
  cases e : f fr with
  | ok a fr' =>
    rw [e] at h
    exact fun b F' H' r' A o s => ⟨a, F', fr', r', A, o, s, h⟩
  | ex c w fr' =>
    rw [e] at h
    exact h
  | st =>
    rw [e] at h
    exact h
/-! a list that stays: frozen, or locked in its slot -/
def Hold (K : PySem.W.Frag) (lk : Option Nat) (a : Addr) (ds : List PyData) (F : FS) (H : Hp) (fr : Fr) (r : Ro) : Prop := match lk with
  | none => Rt K F H (.ref a) (.list ds)
  | some i => ∃ io, fr[i]? = some (.li io true ds) ∧ r i = some a
theorem Hold.sq {lk : Option Nat} {a : Addr} {ds : List PyData} (h : Hold K lk a ds F H fr r) (A : At K T F H σ fr r) : ∃ xs, SqL K H a xs ∧ RtAll K F H xs ds := by
  cases lk with
  | none =>
    have h : Rt K F H (.ref a) (.list ds) := h
    cases h with
    | lst h r =>
      rcases h with h | h
      · exact ⟨_, .inl h.2, r⟩
      · exact ⟨_, .inr h, r⟩
  | some i =>
    obtain ⟨io, e, er⟩ := h
    obtain ⟨b, q1, q2, q3, xs, q4, q5⟩ := A.slot i _ e
    rw [er] at q1
    cases q1
    exact ⟨xs, .of q4, q5⟩
theorem Hold.keep {lk : Option Nat} {a : Addr} {ds : List PyData} (h : Hold K lk a ds F H fr r) (A : At K T F H σ fr r) (s : Step F H fr r F' H' fr' r') : Hold K lk a ds F' H' fr' r' := by
  cases lk with
  | none => exact Rt.ext (s.ext A) h
  | some i =>
    obtain ⟨io, e, er⟩ := h
    obtain ⟨e1, e2⟩ := s.lk i io ds e
    exact ⟨io, e1, e2.trans er⟩
theorem Hold.hide {lk : Option Nat} {a : Addr} {ds : List PyData} {vs : List Nat} (h : Hold K lk a ds F H fr r) (hv : ∀ i ∈ lk.toList, vs.contains i = false) : Hold K lk a ds F H (hid vs fr) (hidR vs r) := by
  cases lk with
  | none => exact h
  | some i =>
    obtain ⟨io, e, er⟩ := h
    have hi := hv i (by simp)
    refine ⟨io, by rw [hid_get, e]; show some (hidS vs i _) = _; unfold hidS; rw [if_neg (by rw [hi]; exact Bool.false_ne_true)], ?_⟩
    unfold hidR
    rw [if_neg (by rw [hi]; exact Bool.false_ne_true)]
    exact er
theorem Hold.ext {lk : Option Nat} {a : Addr} {ds : List PyData} (h : Hold K lk a ds F H fr r) (e : Ext F H F' H') : Hold K lk a ds F' H' fr r := by
  cases lk with
  | none => exact Rt.ext e h
  | some i => exact h
theorem rtAll_at {xs : List V} {ds : List PyData} {i : Nat} (h : RtAll K F H xs ds) (hi : i < ds.length) : ∃ v d, xs[i]? = some v ∧ ds[i]? = some d ∧ Rt K F H v d := by
  obtain ⟨v, h1, h2⟩ := h.get (List.getElem?_eq_getElem hi)
  exact ⟨v, _, h1, List.getElem?_eq_getElem hi, h2⟩
theorem src_list {lk : Option Nat} {a : Addr} {ds : List PyData} : Src K T (Itl K a) ds lk.toList (Hold K lk a ds) where
  goes := fun {F H σ fr r i} A h hi => by
    obtain ⟨xs, h1, h2⟩ := h.sq A
    obtain ⟨v, d, e1, e2, e3⟩ := rtAll_at h2 hi
    exact ⟨xs, v, h1, e1⟩
  stops := fun A h => by
    obtain ⟨xs, h1, h2⟩ := h.sq A
    exact ⟨xs, h1, by rw [h2.length]; exact Nat.le_refl _⟩
  yields := fun {F H σ fr r i x H'} A h hi y => by
    obtain ⟨xs, h1, h2⟩ := h.sq A
    obtain ⟨v, d, e1, e2, e3⟩ := rtAll_at h2 hi
    obtain ⟨rfl, y⟩ := y
    have := y xs h1
    rw [e1] at this
    cases this
    exact ⟨Grow.refl _, d, e2, e3⟩
  keep := fun A h s => h.keep A s
  hide := fun h hv => h.hide hv
  ext := fun h e => h.ext e
theorem src_tup {a : Addr} {ds : List PyData} : Src K T (Itt K a) ds [] (fun F H _ _ => Rt K F H (.ref a) (.tuple ds)) where
  goes := fun {F H σ fr r i} A h hi => by
    cases h with
    | tup h1 h2 =>
      obtain ⟨v, d, e1, e2, e3⟩ := rtAll_at h2 hi
      exact ⟨_, v, h1, e1⟩
  stops := fun A h => by
    cases h with
    | tup h1 h2 => exact ⟨_, h1, by rw [h2.length]; exact Nat.le_refl _⟩
  yields := fun {F H σ fr r i x H'} A h hi y => by
    cases h with
    | tup h1 h2 =>
      obtain ⟨v, d, e1, e2, e3⟩ := rtAll_at h2 hi
      obtain ⟨rfl, y⟩ := y
      have := y _ h1
      rw [e1] at this
      cases this
      exact ⟨Grow.refl _, d, e2, e3⟩
  keep := fun A h s => Rt.ext (s.ext A) h
  hide := fun h _ => h
  ext := fun h e => Rt.ext e h
/-- one sign each -/
def signs (s : Str) : List PyData := s.cps.toList.map fun c => .str ⟨#[c]⟩
theorem src_str {s : Str} : Src K T (Its s) (signs s) [] (fun _ _ _ _ => True) where
  goes := fun {F H σ fr r i} A h hi => by
    simp only [signs, List.length_map] at hi
    exact hi
  stops := fun A h => by
    show s.cps.size ≤ _
    simp only [signs, List.length_map]
    exact Nat.le_refl _
  yields := fun {F H σ fr r i x H'} A h hi y => by
    obtain ⟨rfl, c, h1, rfl⟩ := y
    refine ⟨Grow.refl _, .str ⟨#[c]⟩, ?_, .str _⟩
    unfold signs
    rw [List.getElem?_map]
    have : s.cps.toList[i]? = some c := by rw [Array.getElem?_toList]; exact h1
    rw [this]
    rfl
  keep := fun _ _ _ => trivial
  hide := fun _ _ => trivial
  ext := fun _ _ => trivial
def rngD (lo : Int) (n : Nat) : List PyData := (List.range n).map fun (i : Nat) => .int (lo + i)
theorem src_rng {lo : Int} {n : Nat} : Src K T (Itr lo n) (rngD lo n) [] (fun _ _ _ _ => True) where
  goes := fun {F H σ fr r i} A h hi => by
    simp only [rngD, List.length_map, List.length_range] at hi
    exact hi
  stops := fun A h => by
    show n ≤ _
    simp only [rngD, List.length_map, List.length_range]
    exact Nat.le_refl _
  yields := fun {F H σ fr r i x H'} A h hi y => by
    obtain ⟨rfl, rfl⟩ := y
    refine ⟨Grow.refl _, .int (lo + i), ?_, .int _⟩
    simp only [rngD, List.length_map, List.length_range] at hi
    unfold rngD
    rw [List.getElem?_map, List.getElem?_range hi]
    rfl
  keep := fun _ _ _ => trivial
  hide := fun _ _ => trivial
  ext := fun _ _ => trivial
def rngC (lo c : Int) (n : Nat) : List PyData := (List.range n).map fun (i : Nat) => .int (lo + (i : Nat) * c)
theorem src_rngC {lo c : Int} {n : Nat} : Src K T (Itc lo c n) (rngC lo c n) [] (fun _ _ _ _ => True) where
  goes := fun {F H σ fr r i} A h hi => by
    simp only [rngC, List.length_map, List.length_range] at hi
    exact hi
  stops := fun A h => by
    show n ≤ _
    simp only [rngC, List.length_map, List.length_range]
    exact Nat.le_refl _
  yields := fun {F H σ fr r i x H'} A h hi y => by
    obtain ⟨rfl, rfl⟩ := y
    refine ⟨Grow.refl _, .int (lo + (i : Nat) * c), ?_, .int _⟩
    simp only [rngC, List.length_map, List.length_range] at hi
    unfold rngC
    rw [List.getElem?_map, List.getElem?_range hi]
    rfl
  keep := fun _ _ _ => trivial
  hide := fun _ _ => trivial
  ext := fun _ _ => trivial
def enumD : Nat → List PyData → List PyData
  | _, [] => []
  | k, d :: ds => .tuple [.int k, d] :: enumD (k + 1) ds
theorem enumD_len : ∀ (k : Nat) (ds : List PyData), (enumD k ds).length = ds.length
  | _, [] => rfl
  | k, d :: ds => by unfold enumD; rw [List.length_cons, List.length_cons, enumD_len]
theorem enumD_get : ∀ (k : Nat) (ds : List PyData) (i : Nat), (enumD k ds)[i]? = ds[i]?.map fun d => .tuple [.int ((k + i : Nat) : Int), d]
  | _, [], i => by simp [enumD]
  | k, d :: ds, 0 => by simp [enumD]
  | k, d :: ds, i + 1 => by
    unfold enumD
    rw [List.getElem?_cons_succ, List.getElem?_cons_succ, enumD_get (k + 1) ds i]
    have : k + 1 + i = k + (i + 1) := by omega
    rw [this]
theorem src_enum {lk : Option Nat} {a : Addr} {ds : List PyData} : Src K T (Ite K a) (enumD 0 ds) lk.toList (Hold K lk a ds) where
  goes := fun {F H σ fr r i} A h hi => by
    rw [enumD_len] at hi
    obtain ⟨xs, h1, h2⟩ := h.sq A
    obtain ⟨v, d, e1, e2, e3⟩ := rtAll_at h2 hi
    exact ⟨xs, v, h1, e1⟩
  stops := fun A h => by
    obtain ⟨xs, h1, h2⟩ := h.sq A
    exact ⟨xs, h1, by rw [enumD_len, h2.length]; exact Nat.le_refl _⟩
  yields := fun {F H σ fr r i x H'} A h hi y => by
    rw [enumD_len] at hi
    obtain ⟨xs, h1, h2⟩ := h.sq A
    obtain ⟨v, d, e1, e2, e3⟩ := rtAll_at h2 hi
    obtain ⟨t, x, rfl, ht, rfl, y⟩ := y
    have := y xs h1
    rw [e1] at this
    cases this
    have g : Grow H (upd H t (.tup [.int (i : Nat), v])) := Grow.upd ht
    refine ⟨g, .tuple [.int ((0 + i : Nat) : Int), d], by rw [enumD_get, e2]; rfl, ?_⟩
    rw [Nat.zero_add]
    exact .tup (.inl (.inl upd_same)) (.cons (.int _) (.cons (e3.ext g.ext) .nil))
  keep := fun A h s => h.keep A s
  hide := fun h hv => h.hide hv
  ext := fun h e => h.ext e
def zipD : List PyData → List PyData → List PyData
  | a :: r, b :: s => .tuple [a, b] :: zipD r s
  | _, _ => []
theorem zipD_len : ∀ (a b : List PyData), (zipD a b).length = min a.length b.length
  | [], b => by simp [zipD]
  | a :: r, [] => by simp [zipD]
  | a :: r, b :: s => by unfold zipD; rw [List.length_cons, List.length_cons, List.length_cons, zipD_len]; omega
theorem zipD_get : ∀ (a b : List PyData) (i : Nat) {x y : PyData}, a[i]? = some x → b[i]? = some y → (zipD a b)[i]? = some (.tuple [x, y])
  | [], b, i, x, y, h, _ => by simp at h
  | a :: r, [], i, x, y, _, h => by simp at h
  | a :: r, b :: s, 0, x, y, h, h' => by
    simp at h h'
    subst h h'
    rfl
  | a :: r, b :: s, i + 1, x, y, h, h' => by
    unfold zipD
    rw [List.getElem?_cons_succ]
    exact zipD_get r s i (by simpa using h) (by simpa using h')
theorem src_zip {lk lk' : Option Nat} {a b : Addr} {ds es : List PyData} : Src K T (Itz K a b) (zipD ds es) (lk.toList ++ lk'.toList) (fun F H fr r => Hold K lk a ds F H fr r ∧ Hold K lk' b es F H fr r) where
  goes := fun {F H σ fr r i} A h hi => by
    rw [zipD_len] at hi
    obtain ⟨xs, h1, h2⟩ := h.1.sq A
    obtain ⟨ys, k1, k2⟩ := h.2.sq A
    obtain ⟨v, d, e1, e2, e3⟩ := rtAll_at h2 (by omega : i < ds.length)
    obtain ⟨v', d', f1, f2, f3⟩ := rtAll_at k2 (by omega : i < es.length)
    exact ⟨xs, ys, v, v', h1, k1, e1, f1⟩
  stops := fun A h => by
    obtain ⟨xs, h1, h2⟩ := h.1.sq A
    obtain ⟨ys, k1, k2⟩ := h.2.sq A
    refine ⟨xs, ys, h1, k1, ?_⟩
    rw [zipD_len, h2.length, k2.length]
    omega
  yields := fun {F H σ fr r i x H'} A h hi y => by
    rw [zipD_len] at hi
    obtain ⟨xs, h1, h2⟩ := h.1.sq A
    obtain ⟨ys, k1, k2⟩ := h.2.sq A
    obtain ⟨v, d, e1, e2, e3⟩ := rtAll_at h2 (by omega : i < ds.length)
    obtain ⟨v', d', f1, f2, f3⟩ := rtAll_at k2 (by omega : i < es.length)
    obtain ⟨t, x, z, rfl, ht, rfl, y1, y2⟩ := y
    have q1 := y1 xs h1
    have q2 := y2 ys k1
    rw [e1] at q1
    rw [f1] at q2
    cases q1
    cases q2
    have g : Grow H (upd H t (.tup [v, v'])) := Grow.upd ht
    exact ⟨g, _, zipD_get ds es i e2 f2, .tup (.inl (.inl upd_same)) (.cons (e3.ext g.ext) (.cons (f3.ext g.ext) .nil))⟩
  keep := fun A h s => ⟨h.1.keep A s, h.2.keep A s⟩
  hide := fun h hv => ⟨h.1.hide fun i hi => hv i (List.mem_append_left _ hi), h.2.hide fun i hi => hv i (List.mem_append_right _ hi)⟩
  ext := fun h e => ⟨h.1.ext e, h.2.ext e⟩
end

/-! ### the sources in code -/
def itemsOf : PyData → Option (List PyData)
  | .list ds => some ds
  | .tuple ds => some ds
  | .str s => some (signs s)
  | _ => none
def seqM (x : Ev) : Fr → Rs SrcD := fun fr => match x with
  | .al i => match fr[i]? with
    | some (.li _ _ ds) => .ok ⟨ds, [i]⟩ fr
    | some (.sh d) => match itemsOf d with
      | some ds => .ok ⟨ds, []⟩ fr
      | none => .st
    | _ => .st
  | .sh d => match itemsOf d with
    | some ds => .ok ⟨ds, []⟩ fr
    | none => .st
  | .ow ds => .ok ⟨ds, []⟩ fr
  | _ => .st
def seqI (f : Fr → Rs Ev) : Fr → Rs SrcD := bnd f seqM
section
variable {X : Cx} {T : ThP} {W : WX} {o e a b c tg : Expr} {es : List Expr} {pos p apos cpos : Pos}
def iSeq (K : PySem.W.Frag) (tl : TE) : TI := fun σ H R => tl σ H fun x H1 => (∃ a, x = .ref a ∧ (∃ xs, SqL K H1 a xs) ∧ R (Itl K a) H1) ∨ (∃ a, x = .ref a ∧ (∃ xs, SqT K H1 a xs) ∧ R (Itt K a) H1) ∨ (∃ z, x = .str z ∧ R (Its z) H1)
theorem pi_seq {l : Expr} {tl : TE} (hl : PE X l tl) : PI X tg l (iSeq X.K tl) := by
  refine ⟨fun pins s σ H R I h => ?_⟩
  refine thn (hl.run pins s σ H _ I h) fun v s1 ⟨x, H1, I1, r1, q1⟩ => ?_
  have one : ∀ {x : V} {v : Value}, RelV x v → PE X l (tC x) → True := fun _ _ => trivial
  rcases q1 with ⟨a, e, ⟨xs, hq⟩, q⟩ | ⟨a, e, ⟨xs, hq⟩, q⟩ | ⟨z, e, q⟩
  · subst e
    cases r1
    obtain ⟨its, rv, p, hz⟩ := I1.list hq
    refine wpAny_pyIter_list p.isList ?_
    refine ⟨s1.heap.objs.size, [s1.heap.objs.size], _, _, H1, rfl, I1.kept (t' := s1.toks) fun b o e => Heap.get?_push_of_some _ e, turn_list a _, ⟨_, Heap.get?_push_size _ rfl, rfl, rfl⟩, fun b hb => ?_, q⟩
    have e : b = s1.heap.objs.size := by simpa using hb
    subst e
    exact I1.fpOk (Nat.le_refl _) (I1.hok.fresh (Nat.le_refl _))
  · subst e
    cases r1
    obtain ⟨its, rv, p, hz⟩ := I1.tuple hq
    refine wpAny_pyIter_tuple (show s1.heap.IsTuple a its.toArray from p) ?_
    refine ⟨s1.heap.objs.size, [s1.heap.objs.size], _, _, H1, rfl, I1.kept (t' := s1.toks) fun b o e => Heap.get?_push_of_some _ e, turn_tuple a _, ⟨_, Heap.get?_push_size _ rfl, rfl, rfl⟩, fun b hb => ?_, q⟩
    have e : b = s1.heap.objs.size := by simpa using hb
    subst e
    exact I1.fpOk (Nat.le_refl _) (I1.hok.fresh (Nat.le_refl _))
  · subst e
    obtain ⟨t, rfl⟩ := r1
    cases ha : z.cps.all (· < 128)
    · exact wpAny_pyIter_wide ha (pi_one (tk := s1.toks) I1 _ (turn_str _ z t "str_iterator" (.inr rfl)) ⟨_, Heap.get?_push_size _ rfl, rfl, rfl⟩ q)
    · exact wpAny_pyIter_ascii ha (pi_one (tk := s1.toks) I1 _ (turn_str _ z t "str_ascii_iterator" (.inl rfl)) ⟨_, Heap.get?_push_size _ rfl, rfl, rfl⟩ q)
theorem lkAll_nil {fr : Fr} : lkAll [] fr = fr := by
  apply List.ext_getElem?
  intro i
  rw [lkAll_get]
  cases fr[i]? with
  | none => rfl
  | some s => cases s <;> simp [lkS]
/-- data walked -/
theorem seq_data {F F1 : FS} {H H1 : Hp} {fr fr1 : Fr} {r r1 : Ro} {σ : L2.St} {R : It → Hp → Prop} {K : PySem.W.Frag} {mg : Str → Option Value} {d : PyData} {v : V} {ds : List PyData} (A : At K T F1 H1 σ fr1 r1) (h : Rt K F1 H1 v d) (e : itemsOf d = some ds) (s : Step F H fr r F1 H1 fr1 r1)
    (q : contI K T mg W F H fr r σ R (.ok ⟨ds, []⟩ fr1)) : (∃ a, v = .ref a ∧ (∃ xs, SqL K H1 a xs) ∧ R (Itl K a) H1) ∨ (∃ a, v = .ref a ∧ (∃ xs, SqT K H1 a xs) ∧ R (Itt K a) H1) ∨ (∃ z, v = .str z ∧ R (Its z) H1) := by
  cases d <;> first | (cases e; done) | skip
  · cases e
    cases h
    exact .inr (.inr ⟨_, rfl, q _ F1 H1 r1 _ A src_str trivial s⟩)
  · cases e
    have h0 := h
    cases h with
    | @lst a xs ds hq hr =>
      refine .inl ⟨a, rfl, ⟨xs, hq.elim (fun z => .inl z.2) fun z => .inr z⟩, q _ F1 H1 r1 _ A (src_list (lk := none)) h0 s⟩
  · cases e
    have h0 := h
    cases h with
    | @tup a xs ds hq hr => exact .inr (.inl ⟨a, rfl, ⟨xs, hq⟩, q _ F1 H1 r1 _ A src_tup h0 s⟩)
theorem seq_ev {F F1 : FS} {H H1 : Hp} {fr fr1 : Fr} {r r1 : Ro} {σ : L2.St} {R : It → Hp → Prop} {K : PySem.W.Frag} {mg : Str → Option Value} {x : Ev} {v : V} (A : At K T F1 H1 σ fr1 r1) (h : EvOK K T F1 H1 σ r1 v x) (n : New H v x) (s : Step F H fr r F1 H1 fr1 r1)
    (q : contI K T mg W F H fr r σ R (seqM x fr1)) : (∃ a, v = .ref a ∧ (∃ xs, SqL K H1 a xs) ∧ R (Itl K a) H1) ∨ (∃ a, v = .ref a ∧ (∃ xs, SqT K H1 a xs) ∧ R (Itt K a) H1) ∨ (∃ z, v = .str z ∧ R (Its z) H1) := by
  cases x with
  | fn m => exact q.elim
  | sh d =>
    unfold seqM at q
    dsimp only at q
    cases e : itemsOf d with
    | none => simp only [e] at q; exact q.elim
    | some ds => simp only [e] at q; exact seq_data A h e s q
  | ow ds =>
    obtain ⟨F2, r2, A2, R2, s2⟩ := fz_step s A h n (show fz fr1 (.ow ds) = some (.list ds, fr1) from rfl)
    exact seq_data (ds := ds) A2 R2 rfl s2 q
  | al i =>
    unfold seqM at q
    dsimp only at q
    have h : σ[i]? = some (some v) := h
    cases es : fr1[i]? with
    | none => simp only [es] at q; exact q.elim
    | some sv =>
      simp only [es] at q
      have z := A.slot i sv es
      cases sv with
      | no => exact q.elim
      | fn m => exact q.elim
      | sh d =>
        dsimp only at q
        obtain ⟨_, w, e1, e2⟩ := z
        rw [h] at e1
        cases e1
        cases e : itemsOf d with
        | none => simp only [e] at q; exact q.elim
        | some ds => simp only [e] at q; exact seq_data A e2 e s q
      | li io lk ds =>
        obtain ⟨b, q1, q2, q3, xs, q4, q5⟩ := z
        rw [h] at q2
        cases q2
        refine .inl ⟨b, rfl, ⟨xs, .of q4⟩, q _ F1 H1 r1 _ A (src_list (lk := some i)) ⟨io, ?_, q1⟩ s⟩
        rw [lkAll_get, es]
        show some (lkS [i] i _) = _
        simp [lkS]
theorem gi_seq {f : Fr → Rs Ev} (h : GE X T W e f) : GI X T W tg e (seqI f) :=
  PI.weak (pi_seq h) fun σ H R ⟨F, fr, r, A, q⟩ => ⟨F, fr, r, A, (use_okI q).mono fun v H1 ⟨x, F1, fr1, r1, A1, o1, s1, h1⟩ => seq_ev A1 o1.1 o1.2 s1 h1⟩
def rgOk (i : Int) : Bool := smallB i 4611686018427387904
theorem rgOk_iff {i : Int} : rgOk i = true ↔ i.natAbs < 4611686018427387904 := smallB_iff
theorem rgOk.lt {i : Int} (h : rgOk i = true) : -(2 ^ 62) ≤ i ∧ i < 2 ^ 62 := by
  have := rgOk_iff.mp h
  exact ⟨by omega, by omega⟩
def rng1M (xs : List PyData) : Option (List PyData) := match xs with
  | [.int j] => if rgOk j = true then some (rngD 0 j.toNat) else none
  | _ => none
def rng2M (xs : List PyData) : Option (List PyData) := match xs with
  | [.int i, .int j] => if rgOk i = true ∧ rgOk j = true then some (rngD i (j - i).toNat) else none
  | _ => none
def srcB (o : List PyData → Option (List PyData)) (f : Fr → Rs (List Ev)) : Fr → Rs SrcD := bnd f fun xs fr => match rds fr xs with
  | some ds => match o ds with
    | some items => .ok ⟨items, []⟩ fr
    | none => .st
  | none => .st
theorem gi_rng1 {f : Fr → Rs (List Ev)} (hg : Gl X "range") (hm : X.mg "range" = none) (h : GX X T W [a] f) (hs : starEach [a] X.env = [(false, eval a X.env)] := by rfl) : GI X T W tg (.Call (.Name "range" p) [a] [] pos) (srcB rng1M f) := by
  refine PI.weak (pi_range1 hg hm h hs) fun σ H R ⟨F, fr, r, A, q⟩ => ⟨F, fr, r, A, (use_okI q).mono fun vs H1 ⟨xs, F1, fr1, r1, A1, o1, s1, h1⟩ => ?_⟩
  cases e1 : rds fr1 xs with
  | none => simp only [e1] at h1; exact h1.elim
  | some ds =>
    simp only [e1] at h1
    cases e2 : rng1M ds with
    | none => simp only [e2] at h1; exact h1.elim
    | some items =>
      simp only [e2] at h1
      unfold rng1M at e2
      split at e2 <;> first | (cases e2; done) | skip
      split at e2 <;> first | (cases e2; done) | skip
      rename_i j hj
      cases e2
      obtain ⟨v, rfl, cn⟩ := (rds_cn A1 o1 e1).one
      rw [cn.int]
      have hj := rgOk.lt hj
      exact ⟨j, rfl, hj.1, hj.2, h1 _ F1 H1 r1 _ A1 src_rng trivial s1⟩
theorem gi_rng2 {f : Fr → Rs (List Ev)} (hg : Gl X "range") (hm : X.mg "range" = none) (h : GX X T W [a, b] f) (hs : starEach [a, b] X.env = [(false, eval a X.env), (false, eval b X.env)] := by rfl) (hs2 : starEach [b] X.env = [(false, eval b X.env)] := by rfl) : GI X T W tg (.Call (.Name "range" p) [a, b] [] pos) (srcB rng2M f) := by
  refine PI.weak (pi_range2 hg hm h hs hs2) fun σ H R ⟨F, fr, r, A, q⟩ => ⟨F, fr, r, A, (use_okI q).mono fun vs H1 ⟨xs, F1, fr1, r1, A1, o1, s1, h1⟩ => ?_⟩
  cases e1 : rds fr1 xs with
  | none => simp only [e1] at h1; exact h1.elim
  | some ds =>
    simp only [e1] at h1
    cases e2 : rng2M ds with
    | none => simp only [e2] at h1; exact h1.elim
    | some items =>
      simp only [e2] at h1
      unfold rng2M at e2
      split at e2 <;> first | (cases e2; done) | skip
      split at e2 <;> first | (cases e2; done) | skip
      rename_i i j hj
      cases e2
      obtain ⟨v, w, rfl, c1, c2⟩ := (rds_cn A1 o1 e1).two
      rw [c1.int, c2.int]
      have hj := And.intro (rgOk.lt hj.1) (rgOk.lt hj.2)
      exact ⟨i, j, rfl, ⟨hj.1.1, hj.1.2, hj.2.1, hj.2.2⟩, h1 _ F1 H1 r1 _ A1 src_rng trivial s1⟩
end
end FL


set_option Elab.async false
set_option maxRecDepth 100000
set_option maxHeartbeats 4000000
namespace FL
open PySem PySem.Spec PyProof.Rows L2

/-! ### for -/
def forL (tgt : Ev → Fr → Rs Unit) (body : Fr → Rs Fl) : List PyData → Fr → Rs Fl
  | [], fr => .ok .nx fr
  | d :: ds, fr => match tgt (.sh d) fr with
    | .ok _ fr1 => match body fr1 with
      | .ok .nx fr2 => forL tgt body ds fr2
      | .ok .ct fr2 => forL tgt body ds fr2
      | .ok .bk fr2 => .ok .nx fr2
      | r => r
    | _ => .st
def rlR (fr0 : Fr) : Rs Fl → Rs Fl
  | .ok x fr => .ok x (relock fr0 fr)
  | .ex c w fr => .ex c w (relock fr0 fr)
  | .st => .st
def forS (src : Fr → Rs SrcD) (tgt : Ev → Fr → Rs Unit) (body : Fr → Rs Fl) : Fr → Rs Fl := bnd src fun s fr => rlR fr (forL tgt body s.items (lkAll s.lks fr))
section
variable {K : PySem.W.Frag} {mg : Str → Option Value} {T : ThP} {W : WX} {F F0 F' : FS} {H H0 H' : Hp} {σ : L2.St} {fr fr0 fr' : Fr} {r r0 r' : Ro} {lks : List Nat}
theorem contS.relock {D : Ends} {x : Rs Fl} (h : contS K mg T W F H fr r D (rlR fr x)) : contS K mg T W F H (lkAll lks fr) r D x := by
  have ev : ∀ {F' H' σ' r' v e}, EvOK K T F' H' σ' r' v e → EvOK K T F' H' σ' r' v e := fun h => h
  cases x with
  | st => exact h
  | ex c w fr1 => exact fun C dd v σ' F' H' r' hm A hd hv s => h C dd v σ' F' H' r' hm A.relock hd hv s.relock
  | ok fl fr1 =>
    cases fl with
    | nx => exact fun σ' F' H' r' A s => h σ' F' H' r' A.relock s.relock
    | bk => exact fun σ' F' H' r' A s => h σ' F' H' r' A.relock s.relock
    | ct => exact fun σ' F' H' r' A s => h σ' F' H' r' A.relock s.relock
    | rt e => exact fun σ' v F' H' r' A o n s => h σ' v F' H' r' A.relock o n s.relock
theorem use_okIS {f : Fr → Rs SrcD} {g : SrcD → Fr → Rs Fl} {D : Ends} (h : contS K mg T W F H fr r D (bnd f g fr)) :
    contI K T mg W F H fr r σ (fun J H1 => ∃ s S F1 fr1 r1, At K T F1 H1 σ fr1 r1 ∧ Src K T J s.items s.lks S ∧ S F1 H1 (lkAll s.lks fr1) r1 ∧ Step F H fr r F1 H1 fr1 r1 ∧ contS K mg T W F H fr r D (g s fr1)) (f fr) := by
  unfold bnd at h
  cases e : f fr with
  | ok a fr' =>
    rw [e] at h
    exact fun J F' H' r' S A o hS s => ⟨a, S, F', fr', r', A, o, hS, s, h⟩
  | ex c w fr' =>
    rw [e] at h
    exact fun C dd v F' H' r' hm A hd hv s => h C dd v σ F' H' r' hm A hd hv s
  | st =>
    rw [e] at h
    exact h
end
theorem getElem?_drop0 {l : List PyData} {i : Nat} {d : PyData} (h : l[i]? = some d) : l.drop i = d :: l.drop (i + 1) := by
  have hi : i < l.length := (List.getElem?_eq_some_iff.mp h).1
  rw [List.drop_eq_getElem_cons hi]
  have := (List.getElem?_eq_some_iff.mp h).2
  rw [this]
section
variable {X : Cx} {T : ThP} {W : WX} {tg iter : Expr} {body : List Stmt} {pos : Pos}
theorem gs_for {src : Fr → Rs SrcD} {m : Ev → Fr → Rs Unit} {f : Fr → Rs Fl} (hp : PassesOwn (model X.prog X.w) X.A X.env X.xe) (hc : X.calm = true) (hi : GI X T W tg iter src) (hg : GG X T tg m) (hx : NoX m) (hb : GSs X T W body f)
    (hs : ∀ x, foldedSetIterable iter X.env x = pure x := by intro _; rfl) : GS X T W (.For tg iter body [] pos) (forS src m f) := by
  refine PS.weak (ps_for hp hc hi hg hb hs) fun D σ H ⟨F, fr, r, A, q⟩ => ?_
  refine ⟨F, fr, r, A, ?_⟩
  have q2 := use_okIS (σ := σ) q
  -- the walk's own wish
  refine (show contI X.K T X.mg W F H fr r σ _ (src fr) from ?_)
  revert q2
  cases src fr with
  | st => exact id
  | ex c w fr' => exact id
  | ok sd fr' =>
    intro q2 J F1 H1 r1 S A1 hJ hS s1
    obtain ⟨sd, S, F1, fr1, r1, A1, hJ, hS, s1, h1⟩ := q2 J F1 H1 r1 S A1 hJ hS s1
    have h1 := (h1.rebase s1).relock (lks := sd.lks)
    refine ⟨fun i m σ H => m = sd.items.length - i ∧ i ≤ sd.items.length ∧ ∃ F2 fr2 r2, At X.K T F2 H σ fr2 r2 ∧ Step F1 H1 (lkAll sd.lks fr1) r1 F2 H fr2 r2 ∧ S F2 H fr2 r2 ∧ contS X.K X.mg T W F1 H1 (lkAll sd.lks fr1) r1 D (forL _ f (sd.items.drop i) fr2),
      ⟨sd.items.length, by simp, Nat.zero_le _, F1, _, r1, A1.lock, Step.refl, hS, h1⟩, ?_⟩
    rintro i mm σ H ⟨rfl, hle, F2, fr2, r2, A2, s2, hS2, h2⟩
    by_cases hlt : i < sd.items.length
    · refine .inr ⟨hJ.goes A2 hS2 hlt, _, fun σ' H' n => ⟨sd.items.length - (i + 1), by omega, rfl, hlt, n⟩, fun x H' y => ?_⟩
      obtain ⟨g, d, ed, hd⟩ := hJ.yields A2 hS2 hlt y
      rw [getElem?_drop0 ed] at h2
      unfold forL at h2
      have A3 := A2.grow g
      refine ⟨F2, H, fr2, r2, F2, fr2, r2, .sh d, Step.grow g, A3, hd, trivial, ?_⟩
      cases e1 : m (.sh d) fr2 with
      | st => simp only [e1] at h2; exact h2.elim
      | ex c w fr3 => exact (hx _ _ _ _ _ e1).elim
      | ok u fr3 =>
        simp only [e1] at h2
        intro σ3 F3 H3 r3 A4 s5
        have s4 := s2.trans s5
        refine ⟨F3, fr3, r3, A4, ?_⟩
        have hS4 : S F3 H3 fr3 r3 := hJ.keep A2 hS2 s5
        cases e2 : f fr3 with
        | st => simp only [e2] at h2; exact h2.elim
        | ex c w fr4 =>
          simp only [e2] at h2
          exact contS.rebase (D := D) (show contS X.K X.mg T W F1 H1 (lkAll sd.lks fr1) r1 D (.ex c w fr4) from h2) s4
        | ok fl fr4 =>
          simp only [e2] at h2
          cases fl with
          | nx => exact fun σ' F' H' r' A' s' => ⟨F', fr4, r', A', s4.trans s', hJ.keep A4 hS4 s', h2⟩
          | ct => exact fun σ' F' H' r' A' s' => ⟨F', fr4, r', A', s4.trans s', hJ.keep A4 hS4 s', h2⟩
          | bk => exact fun σ' F' H' r' A' s' => h2 σ' F' H' r' A' (s4.trans s')
          | rt e => exact contS.rebase (D := D) (show contS X.K X.mg T W F1 H1 (lkAll sd.lks fr1) r1 D (.ok (.rt e) fr4) from h2) s4
    · have e : i = sd.items.length := by omega
      subst e
      rw [List.drop_length] at h2
      exact .inl ⟨hJ.stops A2 hS2, h2 σ F2 H r2 A2 s2⟩
end
end FL


set_option Elab.async false
set_option maxRecDepth 100000
set_option maxHeartbeats 4000000
namespace FL
open PySem PySem.Spec PyProof.Rows L2

/-! ### while -/
def whileF (c : Fr → Rs Bool) (body : Fr → Rs Fl) : Nat → Fr → Rs Fl
  | 0, _ => .st
  | n + 1, fr => match c fr with
    | .ok true fr1 => match body fr1 with
      | .ok .nx fr2 => whileF c body n fr2
      | .ok .ct fr2 => whileF c body n fr2
      | .ok .bk fr2 => .ok .nx fr2
      | r => r
    | .ok false fr1 => .ok .nx fr1
    | .ex k w fr1 => .ex k w fr1
    | .st => .st
open Classical in
noncomputable def whileS (c : Fr → Rs Bool) (body : Fr → Rs Fl) : Fr → Rs Fl := fun fr => if h : ∃ n, whileF c body n fr ≠ .st then whileF c body (Classical.choose h) fr else .st
section
variable {c : Fr → Rs Bool} {body : Fr → Rs Fl}
theorem whileF_succ : ∀ {n : Nat} {fr : Fr}, whileF c body n fr ≠ .st → whileF c body (n + 1) fr = whileF c body n fr
  | 0, fr, h => absurd rfl h
  | n + 1, fr, h => by
    rw [whileF.eq_2] at h ⊢
    rw [whileF.eq_2]
    cases e : c fr with
    | st => rfl
    | ex k w fr1 => rfl
    | ok b fr1 =>
      simp only [e] at h ⊢
      cases b with
      | false => rfl
      | true =>
        dsimp only at h ⊢
        cases e2 : body fr1 with
        | st => rfl
        | ex k w fr2 => rfl
        | ok x fr2 =>
          rw [e2] at h
          cases x with
          | nx => exact whileF_succ h
          | ct => exact whileF_succ h
          | bk => rfl
          | rt e => rfl
theorem whileF_le {n m : Nat} {fr : Fr} (h : whileF c body n fr ≠ .st) (hm : n ≤ m) : whileF c body m fr = whileF c body n fr := by
  induction hm with
  | refl => rfl
  | step _ ih => rw [whileF_succ (by rw [ih]; exact h), ih]
theorem whileS_of {n : Nat} {fr : Fr} (h : whileF c body n fr ≠ .st) : whileS c body fr = whileF c body n fr := by
  unfold whileS
  have hx : ∃ n, whileF c body n fr ≠ .st := ⟨n, h⟩
  rw [dif_pos hx]
  have h2 := Classical.choose_spec hx
  rcases Nat.le_total n (Classical.choose hx) with q | q
  · exact whileF_le h q
  · exact (whileF_le h2 q).symm
theorem whileS_ex {fr : Fr} (h : whileS c body fr ≠ .st) : ∃ n, whileF c body n fr ≠ .st := by
  unfold whileS at h
  split at h
  · rename_i hx
    exact hx
  · exact absurd rfl h
/-- a turn -/
theorem whileS_eq (fr : Fr) : whileS c body fr = (match c fr with
    | .ok true fr1 => match body fr1 with
      | .ok .nx fr2 => whileS c body fr2
      | .ok .ct fr2 => whileS c body fr2
      | .ok .bk fr2 => .ok .nx fr2
      | r => r
    | .ok false fr1 => .ok .nx fr1
    | .ex k w fr1 => .ex k w fr1
    | .st => .st) := by
  -- what goes on: one more turn
  have more : ∀ {fr2 : Fr}, (∀ n, whileF c body (n + 1) fr = whileF c body n fr2) → whileS c body fr = whileS c body fr2 := fun {fr2} q => by
    by_cases h : whileS c body fr2 = .st
    · rw [h]
      apply Classical.byContradiction
      intro z
      obtain ⟨n, hn⟩ := whileS_ex z
      cases n with
      | zero => exact hn rfl
      | succ n =>
        rw [q n] at hn
        exact hn (by rw [← whileS_of hn, h])
    · obtain ⟨n, hn⟩ := whileS_ex h
      rw [whileS_of hn, ← q n]
      exact whileS_of (by rw [q n]; exact hn)
  have stop : ∀ {x : Rs Fl}, (∀ n, whileF c body (n + 1) fr = x) → whileS c body fr = x := fun {x} q => by
    by_cases h : x = .st
    · rw [h]
      apply Classical.byContradiction
      intro z
      obtain ⟨n, hn⟩ := whileS_ex z
      cases n with
      | zero => exact hn rfl
      | succ n => exact hn (by rw [q n, h])
    · rw [whileS_of (n := 1) (by rw [q 0]; exact h), q 0]
  cases e : c fr with
  | st => exact stop fun n => by rw [whileF.eq_2, e]
  | ex k w fr1 => exact stop fun n => by rw [whileF.eq_2, e]
  | ok b fr1 =>
    cases b with
    | false => exact stop fun n => by rw [whileF.eq_2, e]
    | true =>
      dsimp only
      cases e2 : body fr1 with
      | st => exact stop fun n => by rw [whileF.eq_2, e]; dsimp only; rw [e2]
      | ex k w fr2 => exact stop fun n => by rw [whileF.eq_2, e]; dsimp only; rw [e2]
      | ok x fr2 =>
        cases x with
        | nx => exact more fun n => by rw [whileF.eq_2, e]; dsimp only; rw [e2]
        | ct => exact more fun n => by rw [whileF.eq_2, e]; dsimp only; rw [e2]
        | bk => exact stop fun n => by rw [whileF.eq_2, e]; dsimp only; rw [e2]
        | rt ev => exact stop fun n => by rw [whileF.eq_2, e]; dsimp only; rw [e2]
end
section
variable {X : Cx} {T : ThP} {W : WX} {tg iter e : Expr} {body : List Stmt} {pos : Pos}
theorem gs_while {ce : Expr} {c : Fr → Rs Bool} {f : Fr → Rs Fl} (hp : PassesOwn (model X.prog X.w) X.A X.env X.xe) (hc : GT X T W ce c) (hb : GSs X T W body f) : GS X T W (.While ce body [] pos) (whileS c f) := by
  refine PS.weak (ps_while hp hc hb) fun D σ H ⟨F, fr, r, A, q⟩ => ?_
  have hne : whileS c f fr ≠ .st := fun z => by rw [z] at q; exact q
  obtain ⟨n, hn⟩ := whileS_ex hne
  rw [whileS_of hn] at q
  refine ⟨fun m σ H' => ∃ F2 fr2 r2, At X.K T F2 H' σ fr2 r2 ∧ Step F H fr r F2 H' fr2 r2 ∧ contS X.K X.mg T W F H fr r D (whileF c f m fr2), ⟨n, F, fr, r, A, Step.refl, q⟩, ?_⟩
  rintro m σ2 H2 ⟨F2, fr2, r2, A2, s2, h2⟩
  cases m with
  | zero => exact h2.elim
  | succ m =>
    refine ⟨F2, fr2, r2, A2, ?_⟩
    rw [whileF.eq_2] at h2
    cases e1 : c fr2 with
    | st => rw [e1] at h2; exact h2.elim
    | ex k w fr3 =>
      rw [e1] at h2
      exact fun C dd v F' H' r' hm A hd hv s => h2 C dd v σ2 F' H' r' hm A hd hv (s2.trans s)
    | ok b fr3 =>
      rw [e1] at h2
      intro b' F3 H3 r3 A3 o3 s3
      obtain rfl : b' = b := o3
      cases b' with
      | false => exact h2 σ2 F3 H3 r3 A3 (s2.trans s3)
      | true =>
        refine ⟨fun σ' H' => ∃ F2 fr2 r2, At X.K T F2 H' σ' fr2 r2 ∧ Step F H fr r F2 H' fr2 r2 ∧ contS X.K X.mg T W F H fr r D (whileF c f m fr2), fun σ' H' h => ⟨m, Nat.lt_succ_self m, h⟩, F3, fr3, r3, A3, ?_⟩
        dsimp only at h2
        cases e2 : f fr3 with
        | st => simp only [e2] at h2; exact h2.elim
        | ex k w fr4 =>
          simp only [e2] at h2
          exact contS.rebase (D := D) (show contS X.K X.mg T W F H fr r D (.ex k w fr4) from h2) (s2.trans s3)
        | ok fl fr4 =>
          simp only [e2] at h2
          cases fl with
          | nx => exact fun σ' F' H' r' A' s' => ⟨F', fr4, r', A', (s2.trans s3).trans s', h2⟩
          | ct => exact fun σ' F' H' r' A' s' => ⟨F', fr4, r', A', (s2.trans s3).trans s', h2⟩
          | bk => exact fun σ' F' H' r' A' s' => h2 σ' F' H' r' A' ((s2.trans s3).trans s')
          | rt ev => exact contS.rebase (D := D) (show contS X.K X.mg T W F H fr r D (.ok (.rt ev) fr4) from h2) (s2.trans s3)
end

/-! ### targets of a block: its own names alone -/
section
variable (K : PySem.W.Frag) (T : ThP) (vs : List Nat)
def contV (F : FS) (H : Hp) (fr : Fr) (r : Ro) (σ : L2.St) (Q : L2.St → Hp → Prop) : Rs Unit → Prop
  | .ok _ fr' => ∀ σ' F' H' r', At K T F' H' σ' fr' r' → Step F H fr r F' H' fr' r' → wipe σ' vs = wipe σ vs → Q σ' H'
  | _ => False
def tV (m : Ev → Fr → Rs Unit) : TG := fun v σ H Q => ∃ (F0 : FS) (H0 : Hp) (fr0 : Fr) (r0 : Ro) (F : FS) (fr : Fr) (r : Ro) (x : Ev), Step F0 H0 fr0 r0 F H fr r ∧ At K T F H σ fr r ∧ EvOK K T F H σ r v x ∧ New H0 v x ∧ contV K T vs F0 H0 fr0 r0 σ Q (m x fr)
def tVs (m : List PyData → Fr → Rs Unit) : TGs := fun us σ H Q => ∃ (F0 : FS) (H0 : Hp) (fr0 : Fr) (r0 : Ro) (F : FS) (fr : Fr) (r : Ro) (ds : List PyData), Step F0 H0 fr0 r0 F H fr r ∧ At K T F H σ fr r ∧ RtAll K F H us ds ∧ contV K T vs F0 H0 fr0 r0 σ Q (m ds fr)
end
theorem wipe_set {σ : L2.St} {i : Nat} {x : Option V} : ∀ {vs : List Nat}, i ∈ vs → wipe (σ.set i x) vs = wipe σ vs := by
  intro vs hi
  apply List.ext_getElem?
  intro j
  by_cases hj : j ∈ vs
  · have nn : ∀ (σ : L2.St) (vs : List Nat), j ∈ vs → (wipe σ vs)[j]? = if j < σ.length then some none else none := by
      intro σ vs
      induction vs with
      | nil => intro h; cases h
      | cons v vs ih =>
        intro h
        unfold wipe
        by_cases e : v = j
        · subst e
          by_cases hl : v < σ.length
          · rw [if_pos hl, List.getElem?_set_self (by rw [wipe_length]; exact hl)]
          · rw [if_neg hl, List.getElem?_eq_none (by rw [List.length_set, wipe_length]; omega)]
        · rw [List.getElem?_set_ne e]
          rcases List.mem_cons.mp h with h | h
          · exact absurd h.symm e
          · exact ih h
    rw [nn _ _ hj, nn _ _ hj, List.length_set]
  · rw [wipe_out hj, wipe_out hj, List.getElem?_set_ne (fun e => hj (by rw [← e]; exact hi))]
section
variable {X : Cx} {T : ThP} {W : WX} {tg iter e : Expr} {es : List Expr} {body : List Stmt} {pos : Pos} {vs : List Nat}
abbrev GGv (X : Cx) (T : ThP) (vs : List Nat) (e : Expr) (m : Ev → Fr → Rs Unit) : Prop := PG X e (tV X.K T vs m)
abbrev GGvs (X : Cx) (T : ThP) (vs : List Nat) (es : List Expr) (m : List PyData → Fr → Rs Unit) : Prop := PGs X es (tVs X.K T vs m)
theorem ggv_name {i : Nat} {x : Str} (h : PG X (.Name x pos) (gName i)) (hv : vs.contains i = true := by rfl) : GGv X T vs (.Name x pos) (stM i) := by
  refine PG.weak h fun v σ H Q ⟨F0, H0, fr0, r0, F, fr, r, x, s, A, o, n, q⟩ => ?_
  cases e : stM i x fr with
  | ok u fr' =>
    rw [e] at q
    obtain ⟨F', r', A', s'⟩ := stM_ok s A o n e
    exact q _ F' H r' A' s' (wipe_set (by simpa using hv))
  | ex => rw [e] at q; exact q.elim
  | st => rw [e] at q; exact q.elim
theorem ggvs_nil : GGvs X T vs [] tgN := by
  refine PGs.weak pgs_nil fun vs σ H Q ⟨F0, H0, fr0, r0, F, fr, r, ds, s, A, o, q⟩ => ?_
  cases o with
  | nil => exact ⟨rfl, q σ F H r A s rfl⟩
  | cons _ _ => exact q.elim
theorem ggvs_cons {m : Ev → Fr → Rs Unit} {ms : List PyData → Fr → Rs Unit} (h1 : GGv X T vs e m) (h2 : GGvs X T vs es ms) (hs : (assignEach (e :: es) X.env).map (·.2) = assign e X.env :: (assignEach es X.env).map (·.2) := by rfl) :
    GGvs X T vs (e :: es) (tgC m ms) := by
  refine PGs.weak (pgs_cons h1 h2 hs) fun us σ H Q ⟨F0, H0, fr0, r0, F, fr, r, ds, s, A, o, q⟩ => ?_
  cases o with
  | nil => exact q.elim
  | @cons v us d ds h t =>
    refine ⟨v, us, rfl, F, H, fr, r, F, fr, r, .sh d, Step.refl, A, h, trivial, ?_⟩
    unfold tgC bU at q
    cases e1 : m (.sh d) fr with
    | ok u fr1 =>
      simp only [e1] at q
      intro σ' F' H' r' A' s' hw
      refine ⟨F0, H0, fr0, r0, F', fr1, r', ds, s.trans s', A', t.ext (s'.ext A), ?_⟩
      revert q
      cases ms ds fr1 with
      | ok u fr2 => exact fun q σ2 F2 H2 r2 A2 s2 w2 => q σ2 F2 H2 r2 A2 s2 (w2.trans hw)
      | ex => exact id
      | st => exact id
    | ex => simp only [e1] at q; exact q.elim
    | st => simp only [e1] at q; exact q.elim
theorem ggv_tup {k n : Nat} {ms : List PyData → Fr → Rs Unit} (hc : X.calm = true) (h : GGvs X T vs es ms) (hn : (assignEach es X.env).length = n := by rfl) (hst : (assignEach es X.env).findIdx? (·.1) = none := by rfl) :
    GGv X T vs (.Tuple es k pos) (tgT n ms) := by
  refine PG.weak (pg_tup hc h hn hst) fun v σ H Q ⟨F0, H0, fr0, r0, F, fr, r, x, s, A, o, nw, q⟩ => ?_
  unfold tgT at q
  cases e : rd fr x with
  | none => rw [e] at q; exact q.elim
  | some d =>
    rw [e] at q
    have cn := rd_cn A o e
    cases d <;> first | (exact q.elim) | skip
    rename_i ds
    obtain ⟨a, xs, rfl, hx, hr⟩ := cn.tuple
    dsimp only at q
    split at q
    · rename_i hl
      exact ⟨a, xs, rfl, hx, by rw [hr.length]; exact hl, F0, H0, fr0, r0, F, fr, r, ds, s, A, hr, q⟩
    · exact q.elim
end
end FL


set_option Elab.async false
set_option maxRecDepth 100000
set_option maxHeartbeats 4000000
namespace FL
open PySem PySem.Spec PyProof.Rows L2

/-! ### [e for t in s if c] -/
def lcL (vs : List Nat) (tgt : Ev → Fr → Rs Unit) (tst : Fr → Rs Bool) (elt : Fr → Rs Ev) : List PyData → Fr → Rs (List PyData)
  | [], fr => .ok [] fr
  | d :: ds, fr => match tgt (.sh d) fr with
    | .ok _ fr1 => match tst fr1 with
      | .ok true fr2 => match elt fr2 with
        | .ok x fr3 => match fz fr3 x with
          | some (dx, fr4) => match lcL vs tgt tst elt ds (hid vs fr4) with
            | .ok rs fr' => .ok (dx :: rs) fr'
            | _ => .st
          | none => .st
        | _ => .st
      | .ok false fr2 => lcL vs tgt tst elt ds (hid vs fr2)
      | _ => .st
    | _ => .st
def rstS (vs : List Nat) (fr0 : Fr) (i : Nat) (s : Sv) : Sv := if vs.contains i = true then (fr0[i]?).getD .no else s
def rst (vs : List Nat) (fr0 fr : Fr) : Fr := mapI (rstS vs fr0) 0 fr
theorem rst_get {vs : List Nat} {fr0 fr : Fr} {i : Nat} : (rst vs fr0 fr)[i]? = fr[i]?.map (rstS vs fr0 i) := by
  unfold rst
  rw [mapI_get, Nat.zero_add]
def lcE (vs : List Nat) (src : Fr → Rs SrcD) (tgt : Ev → Fr → Rs Unit) (tst : Fr → Rs Bool) (elt : Fr → Rs Ev) : Fr → Rs Ev := bnd src fun s fr => if (s.lks.all fun i => !vs.contains i) = true then (match lcL vs tgt tst elt s.items (hid vs (lkAll s.lks fr)) with
  | .ok acc fr' => if acc.length ≤ sizeLine then .ok (.ow acc) (relock fr (rst vs (lkAll s.lks fr) fr')) else .st
  | _ => .st) else .st
section
variable {K : PySem.W.Frag} {mg : Str → Option Value} {T : ThP} {W : WX} {F F0 F' F1 : FS} {H H0 H' H1 : Hp} {σ : L2.St} {fr fr0 fr' fr1 : Fr} {r r0 r' r1 : Ro} {lks vs : List Nat}
theorem wipe_in {σ : L2.St} {j : Nat} : ∀ {vs : List Nat}, j ∈ vs → (wipe σ vs)[j]? = if j < σ.length then some none else none
  | [], h => by cases h
  | v :: vs, h => by
    unfold wipe
    by_cases e : v = j
    · subst e
      by_cases hl : v < σ.length
      · rw [if_pos hl, List.getElem?_set_self (by rw [wipe_length]; exact hl)]
      · rw [if_neg hl, List.getElem?_eq_none (by rw [List.length_set, wipe_length]; omega)]
    · rw [List.getElem?_set_ne e]
      rcases List.mem_cons.mp h with h | h
      · exact absurd h.symm e
      · exact wipe_in h
theorem wipe_wipe : wipe (wipe σ vs) vs = wipe σ vs := by
  apply List.ext_getElem?
  intro j
  by_cases hj : j ∈ vs
  · rw [wipe_in hj, wipe_in hj, wipe_length]
  · rw [wipe_out hj]
theorem hidR_some {i : Nat} {a : Addr} (h : hidR vs r i = some a) : vs.contains i = false ∧ r i = some a := by
  unfold hidR at h
  by_cases e : vs.contains i = true
  · rw [if_pos e] at h; cases h
  · rw [if_neg e] at h
    exact ⟨by simpa using e, h⟩
theorem hidR_out {i : Nat} (h : vs.contains i = false) : hidR vs r i = r i := by
  unfold hidR
  rw [if_neg (by rw [h]; exact Bool.false_ne_true)]
theorem hidS_out {i : Nat} {s : Sv} (h : vs.contains i = false) : hidS vs i s = s := by
  unfold hidS
  rw [if_neg (by rw [h]; exact Bool.false_ne_true)]
theorem hidS_in {i : Nat} {s : Sv} (h : vs.contains i = true) : hidS vs i s = .no := by
  unfold hidS
  rw [if_pos h]
theorem At.hide (A : At K T F H σ fr r) : At K T F H (wipe σ vs) (hid vs fr) (hidR vs r) := by
  refine ⟨by unfold hid; rw [mapI_len, wipe_length]; exact A.len, fun i s e => ?_, fun i e => ?_, fun i j a h1 h2 => A.inj i j a (hidR_some h1).2 (hidR_some h2).2, A.ftr, A.tabs⟩
  · rw [hid_get, Option.map_eq_some_iff] at e
    obtain ⟨s0, e1, rfl⟩ := e
    cases hv : vs.contains i with
    | true =>
      rw [hidS_in hv]
      show hidR vs r i = none
      unfold hidR
      rw [if_pos hv]
    | false =>
      rw [hidS_out hv, hidR_out hv, wipe_out (by simpa using hv)]
      exact A.slot i s0 e1
  · rw [hid_get, Option.map_eq_none_iff] at e
    unfold hidR
    split
    · rfl
    · exact A.out i e
theorem Step.hide (s : Step F0 H0 fr0 r0 F H fr r) (hv : ∀ i io lk ds, fr0[i]? = some (.li io lk ds) → vs.contains i = false) : Step F0 H0 fr0 r0 F H (hid vs fr) (hidR vs r) := by
  refine ⟨s.sub, s.new, s.keep, s.trk, fun i a h => s.root i a (hidR_some h).2, fun i lk ds e => ?_, fun i io ds e => ?_⟩
  · have h := hv i _ _ _ e
    obtain ⟨⟨ds', e1⟩, e2⟩ := s.io i lk ds e
    exact ⟨⟨ds', by rw [hid_get, e1]; show some (hidS vs i _) = _; rw [hidS_out h]⟩, (hidR_out h).trans e2⟩
  · have h := hv i _ _ _ e
    obtain ⟨e1, e2⟩ := s.lk i io ds e
    exact ⟨by rw [hid_get, e1]; show some (hidS vs i _) = _; rw [hidS_out h], (hidR_out h).trans e2⟩
theorem hid_free {i : Nat} {io lk ds} (h : (hid vs fr)[i]? = some (.li io lk ds)) : vs.contains i = false := by
  rw [hid_get, Option.map_eq_some_iff] at h
  obtain ⟨s, _, e⟩ := h
  cases hv : vs.contains i with
  | false => rfl
  | true => rw [hidS_in hv] at e; cases e
theorem At.updN (A : At K T F H σ fr r) {D : Addr} {xs ys : List V} (hD : H D = some (.lst xs)) (nF : ¬ F D) (hr : ∀ i, r i ≠ some D) : At K T F (upd H D (.lst ys)) σ fr r := by
  have e := ext_upd (ys := ys) nF hD
  refine ⟨A.len, fun j s ej => ?_, A.out, A.inj, fun b hb => ?_, fun p hp => ?_⟩
  · have q := A.slot j s ej
    cases s with
    | no => exact q
    | sh d =>
      obtain ⟨q1, v, q2, q3⟩ := q
      exact ⟨q1, v, q2, q3.ext e⟩
    | fn m =>
      obtain ⟨q1, v, q2, q3⟩ := q
      exact ⟨q1, v, q2, T.mono q3 e⟩
    | li io' lk' ds2 =>
      obtain ⟨b, q1, q2, n2, zs, q3, q4⟩ := q
      have hb : b ≠ D := fun z => hr j (by rw [q1, z])
      exact ⟨b, q1, q2, n2, zs, by rw [upd_ne hb]; exact q3, q4.ext e⟩
  · obtain ⟨o, q1, q2⟩ := A.ftr b hb
    exact ⟨o, e.fix b o hb q1, q2⟩
  · have q := A.tabs p hp
    have hne : ∀ ps, H p.1 = some (.tbl ps) → p.1 ≠ D := fun ps z w => by
      rw [w, hD] at z
      cases z
    obtain ⟨ps, q1, q2, q3⟩ := q
    refine ⟨ps, by rw [upd_ne (hne ps q1)]; exact q1, q2, fun pos cv hc => ?_⟩
    obtain ⟨c, e1, e2⟩ := q3 pos cv hc
    exact ⟨c, e1, by rw [upd_ne (fun z => by rw [z, hD] at e2; cases e2)]; exact e2⟩
theorem Step.updN (s : Step F0 H0 fr0 r0 F H fr r) {D : Addr} {o : HO} (hD : H0 D = none) : Step F0 H0 fr0 r0 F (upd H D o) fr r := by
  refine ⟨s.sub, s.new, fun a ob e nt n => ?_, fun a ob e => ?_, s.root, s.io, s.lk⟩
  · have : a ≠ D := fun z => by rw [z, hD] at e; cases e
    rw [upd_ne this]
    exact s.keep a ob e nt n
  · have : a ≠ D := fun z => by rw [z, hD] at e; cases e
    rw [upd_ne this]
    exact s.trk a ob e
/-- what a block made is no root and not frozen, if it was so -/
theorem Step.apart (s : Step F H fr r F' H' fr' r') {D : Addr} {xs : List V} (hD : H D = some (.lst xs)) (nF : ¬ F D) (hr : ∀ i, r i ≠ some D) : H' D = some (.lst xs) ∧ ¬ F' D ∧ ∀ i, r' i ≠ some D := by
  refine ⟨s.keep D _ hD .lst hr, fun h => ?_, fun i h => ?_⟩
  · rcases s.new D h with z | z | ⟨i, z⟩
    · exact nF z
    · rw [hD] at z; cases z
    · exact hr i z
  · rcases s.root i D h with ⟨j, z⟩ | z
    · exact hr j z
    · rw [hD] at z; cases z
def rstR (vs : List Nat) (r1 r : Ro) : Ro := fun i => if vs.contains i = true then r1 i else r i
theorem restore (A1 : At K T F1 H1 σ fr1 r1) (s : Step F1 H1 (hid vs fr1) (hidR vs r1) F' H' fr' r') (A : At K T F' H' (wipe σ vs) fr' r') : At K T F' H' σ (rst vs fr1 fr') (rstR vs r1 r') ∧ Step F1 H1 fr1 r1 F' H' (rst vs fr1 fr') (rstR vs r1 r') := by
  have ex := s.ext A1.hide
  have rin : ∀ {i}, vs.contains i = true → rstR vs r1 r' i = r1 i := fun h => if_pos h
  have rout : ∀ {i}, vs.contains i = false → rstR vs r1 r' i = r' i := fun {i} h => if_neg (by rw [h]; exact Bool.false_ne_true)
  have sin : ∀ {i sv}, vs.contains i = true → rstS vs fr1 i sv = (fr1[i]?).getD .no := fun h => if_pos h
  have sout : ∀ {i sv}, vs.contains i = false → rstS vs fr1 i sv = sv := fun {i sv} h => if_neg (by rw [h]; exact Bool.false_ne_true)
  have lenE : fr'.length = fr1.length := by rw [A.len, wipe_length, A1.len]
  have own1 : ∀ {i a}, vs.contains i = true → r1 i = some a → ∃ xs, H1 a = some (.lst xs) ∧ ¬ F1 a ∧ ∀ j, hidR vs r1 j ≠ some a := fun {i a} hv h => by
    obtain ⟨xs, hx⟩ := A1.rootL h
    refine ⟨xs, hx, A1.rootF h, fun j hj => ?_⟩
    obtain ⟨h1, h2⟩ := hidR_some hj
    have := A1.inj i j a h h2
    subst this
    rw [hv] at h1
    cases h1
  refine ⟨⟨by unfold rst; rw [mapI_len, lenE]; exact A1.len, fun i sv e => ?_, fun i e => ?_, fun i j a h1 h2 => ?_, A.ftr, A.tabs⟩, s.sub, fun a h => ?_, fun a o e nt n => ?_, s.trk, fun i a h => ?_, fun i lk ds e => ?_, fun i io ds e => ?_⟩
  · rw [rst_get, Option.map_eq_some_iff] at e
    obtain ⟨s0, e1, rfl⟩ := e
    cases hv : vs.contains i with
    | false =>
      rw [sout hv, rout hv]
      have q := A.slot i s0 e1
      rw [wipe_out (by simpa using hv)] at q
      exact q
    | true =>
      rw [sin hv, rin hv]
      have hi : i < fr1.length := by rw [← lenE]; exact (List.getElem?_eq_some_iff.mp e1).1
      have e2 : fr1[i]? = some fr1[i] := List.getElem?_eq_getElem hi
      rw [e2]
      have q := A1.slot i _ e2
      show SlotOK K T F' H' σ[i]? (r1 i) fr1[i]
      cases hs : fr1[i] with
      | no => rw [hs] at q; exact q
      | sh d =>
        rw [hs] at q
        obtain ⟨q1, v, q2, q3⟩ := q
        exact ⟨q1, v, q2, q3.ext ex⟩
      | fn m =>
        rw [hs] at q
        obtain ⟨q1, v, q2, q3⟩ := q
        exact ⟨q1, v, q2, T.mono q3 ex⟩
      | li io lk ds =>
        rw [hs] at q
        obtain ⟨a, q1, q2, nF, xs, q3, q4⟩ := q
        obtain ⟨xs', h1, h2, h3⟩ := own1 hv q1
        obtain ⟨k1, k2, k3⟩ := s.apart h1 h2 h3
        rw [q3] at h1
        cases h1
        exact ⟨a, q1, q2, k2, xs, k1, q4.ext ex⟩
  · rw [rst_get, Option.map_eq_none_iff] at e
    cases hv : vs.contains i with
    | false => rw [rout hv]; exact A.out i e
    | true =>
      rw [rin hv]
      apply A1.out
      rw [List.getElem?_eq_none_iff] at e ⊢
      omega
  · cases hv : vs.contains i with
    | true =>
      rw [rin hv] at h1
      cases hw : vs.contains j with
      | true =>
        rw [rin hw] at h2
        exact A1.inj i j a h1 h2
      | false =>
        rw [rout hw] at h2
        obtain ⟨xs', k1, k2, k3⟩ := own1 hv h1
        exact ((s.apart k1 k2 k3).2.2 j h2).elim
    | false =>
      rw [rout hv] at h1
      cases hw : vs.contains j with
      | true =>
        rw [rin hw] at h2
        obtain ⟨xs', k1, k2, k3⟩ := own1 hw h2
        exact ((s.apart k1 k2 k3).2.2 i h1).elim
      | false =>
        rw [rout hw] at h2
        exact A.inj i j a h1 h2
  · rcases s.new a h with z | z | ⟨i, z⟩
    · exact .inl z
    · exact .inr (.inl z)
    · exact .inr (.inr ⟨i, (hidR_some z).2⟩)
  · exact s.keep a o e nt fun i h => n i (hidR_some h).2
  · cases hv : vs.contains i with
    | true => rw [rin hv] at h; exact .inl ⟨i, h⟩
    | false =>
      rw [rout hv] at h
      rcases s.root i a h with ⟨j, z⟩ | z
      · exact .inl ⟨j, (hidR_some z).2⟩
      · exact .inr z
  · have hi : i < fr'.length := by rw [lenE]; exact (List.getElem?_eq_some_iff.mp e).1
    cases hv : vs.contains i with
    | true =>
      refine ⟨⟨ds, ?_⟩, rin hv⟩
      rw [rst_get, List.getElem?_eq_getElem hi]
      show some (rstS vs fr1 i _) = _
      rw [sin hv, e]
      rfl
    | false =>
      obtain ⟨⟨ds', e1⟩, e2⟩ := s.io i lk ds (by rw [hid_get, e]; show some (hidS vs i _) = _; rw [hidS_out hv])
      refine ⟨⟨ds', ?_⟩, by rw [rout hv, e2, hidR_out hv]⟩
      rw [rst_get, e1]
      show some (rstS vs fr1 i _) = _
      rw [sout hv]
  · have hi : i < fr'.length := by rw [lenE]; exact (List.getElem?_eq_some_iff.mp e).1
    cases hv : vs.contains i with
    | true =>
      refine ⟨?_, rin hv⟩
      rw [rst_get, List.getElem?_eq_getElem hi]
      show some (rstS vs fr1 i _) = _
      rw [sin hv, e]
      rfl
    | false =>
      obtain ⟨e1, e2⟩ := s.lk i io ds (by rw [hid_get, e]; show some (hidS vs i _) = _; rw [hidS_out hv])
      refine ⟨?_, by rw [rout hv, e2, hidR_out hv]⟩
      rw [rst_get, e1]
      show some (rstS vs fr1 i _) = _
      rw [sout hv]
end
section
variable {X : Cx} {T : ThP} {W : WX} {tg iter e elt : Expr} {es ifs : List Expr} {body : List Stmt} {pos : Pos} {vs : List Nat}
abbrev GTs (X : Cx) (T : ThP) (W : WX) (ifs : List Expr) (f : Fr → Rs Bool) : Prop := PTs X ifs (tB X.K X.mg T W f)
theorem PTs.weak {t t' : TT} (h : PTs X ifs t) (i : ∀ σ H Q, t' σ H Q → t σ H Q) : PTs X ifs t' := ⟨fun pins s σ H Q I q => h.run pins s σ H Q I (i σ H Q q)⟩
theorem gts_nil : GTs X T W [] (ret true) := PTs.weak pts_nil fun σ H Q ⟨F, fr, r, A, q⟩ => q true F H r A rfl Step.refl
theorem gts_one {f : Fr → Rs Bool} (h : GT X T W e f) : GTs X T W [e] f := pts_one h
/-- what the code's comprehension wants, from the function's -/
theorem lc_reads {src : Fr → Rs SrcD} {m : Ev → Fr → Rs Unit} {tst : Fr → Rs Bool} {el : Fr → Rs Ev} {K : PySem.W.Frag} {mg : Str → Option Value} (σ : L2.St) (H : Hp) (Q : VK) (q : tE K mg T W (lcE vs src m tst el) σ H Q) :
    tLc (tI K T mg W src) (tV K T vs m) (tB K mg T (fun _ _ _ _ => False) tst) (tE K mg T (fun _ _ _ _ => False) el) vs σ H Q := by
  obtain ⟨F, fr, r, A, q⟩ := q
  refine ⟨F, fr, r, A, ?_⟩
  have q2 : contI K T mg W F H fr r σ (fun J H1 => ∃ (s : SrcD) (S : FS → Hp → Fr → Ro → Prop) (F1 : FS) (fr1 : Fr) (r1 : Ro), At K T F1 H1 σ fr1 r1 ∧ Src K T J s.items s.lks S ∧ S F1 H1 (lkAll s.lks fr1) r1 ∧ Step F H fr r F1 H1 fr1 r1 ∧ cont K mg T (okE K T) W F H fr r σ Q ((if (s.lks.all fun i => !vs.contains i) = true then (match lcL vs m tst el s.items (hid vs (lkAll s.lks fr1)) with
      | .ok acc fr' => if acc.length ≤ sizeLine then (.ok (.ow acc) (relock fr1 (rst vs (lkAll s.lks fr1) fr')) : Rs Ev) else .st
      | _ => .st) else .st))) (src fr) := by
    unfold lcE bnd at q
    cases e : src fr with
    | ok a fr' =>
      rw [e] at q
      exact fun J F' H' r' S A o hS s => ⟨a, S, F', fr', r', A, o, hS, s, q⟩
    | ex c w fr' => rw [e] at q; exact q
    | st => rw [e] at q; exact q
  revert q2
  cases src fr with
  | st => exact id
  | ex c w fr' => exact id
  | ok sd fr' =>
    intro q2 J F1 H1 r1 S A1 hJ hS s1 D hD
    obtain ⟨sd, S, F1, fr1, r1, A1, hJ, hS, s1, h1⟩ := q2 J F1 H1 r1 S A1 hJ hS s1
    split at h1
    case isFalse => exact h1.elim
    rename_i hlk
    have hlk : ∀ i ∈ sd.lks, vs.contains i = false := fun i hi => by simpa using List.all_eq_true.mp hlk i hi
    cases el0 : lcL vs m tst el sd.items (hid vs (lkAll sd.lks fr1)) with
    | st => simp only [el0] at h1; exact h1.elim
    | ex c w fr' => simp only [el0] at h1; exact h1.elim
    | ok total frE =>
      simp only [el0] at h1
      split at h1
      case isFalse => exact h1.elim
      rename_i hlen
      have A1L : At K T F1 H1 σ (lkAll sd.lks fr1) r1 := A1.lock
      have nF1 : ¬ F1 D := fun h => by
        obtain ⟨o, z, _⟩ := A1.ftr D h
        rw [hD] at z; cases z
      have nr1 : ∀ j, r1 j ≠ some D := fun j h => by
        obtain ⟨xs, z⟩ := A1.rootL h
        rw [hD] at z; cases z
      have g0 : Grow H1 (upd H1 D (.lst [])) := Grow.upd hD
      refine ⟨fun i mm H' => mm = sd.items.length - i ∧ i ≤ sd.items.length ∧ ∃ F2 fr2 r2 acc rest, At K T F2 H' (wipe σ vs) fr2 r2 ∧ Step F1 H1 (hid vs (lkAll sd.lks fr1)) (hidR vs r1) F2 H' fr2 r2 ∧ S F2 H' fr2 r2 ∧
          (∃ xs, H' D = some (.lst xs) ∧ RtAll K F2 H' xs acc) ∧ ¬ F2 D ∧ (∀ j, r2 j ≠ some D) ∧ lcL vs m tst el (sd.items.drop i) fr2 = .ok rest frE ∧ acc ++ rest = total,
        ⟨sd.items.length, by simp, Nat.zero_le _, F1, _, hidR vs r1, [], total, A1L.hide.grow g0, Step.grow g0, hJ.ext (hJ.hide hS hlk) g0.ext, ⟨[], upd_same, .nil⟩, nF1, fun j h => nr1 j (hidR_some h).2, el0, rfl⟩, ?_⟩
      rintro i mm H2 ⟨rfl, hle, F2, fr2, r2, acc, rest, A2, s2, hS2, ⟨xs, hx, hr⟩, nF2, nr2, h2, htot⟩
      by_cases hlt : i < sd.items.length
      · refine .inr ⟨hJ.goes A2 hS2 hlt, _, fun H' n => ⟨sd.items.length - (i + 1), by omega, rfl, hlt, n⟩, fun x H' y => ?_⟩
        obtain ⟨g, d, ed, hd⟩ := hJ.yields A2 hS2 hlt y
        rw [getElem?_drop0 ed] at h2
        unfold lcL at h2
        refine ⟨F2, H2, fr2, r2, F2, fr2, r2, .sh d, Step.grow g, A2.grow g, hd, trivial, ?_⟩
        cases e1 : m (.sh d) fr2 with
        | st => simp only [e1] at h2; cases h2
        | ex c w fr3 => simp only [e1] at h2; cases h2
        | ok u fr3 =>
          simp only [e1] at h2
          intro σ3 F3 H3 r3 A3 s3 hw
          have hw : wipe σ3 vs = wipe σ vs := by rw [hw, wipe_wipe]
          refine ⟨hw, F3, fr3, r3, A3, ?_⟩
          cases e2 : tst fr3 with
          | st => simp only [e2] at h2; cases h2
          | ex c w fr4 => simp only [e2] at h2; cases h2
          | ok b fr4 =>
            simp only [e2] at h2
            intro b' F4 H4 r4 A4 o4 s4
            obtain rfl : b' = b := o4
            have sT := s3.trans s4
            have hv2 : ∀ i io lk ds, (hid vs (lkAll sd.lks fr1))[i]? = some (.li io lk ds) → vs.contains i = false := fun i io lk ds h => hid_free h
            cases b' with
            | false =>
              rw [if_neg Bool.false_ne_true]
              obtain ⟨k1, k2, k3⟩ := sT.apart hx nF2 nr2
              have AH := A4.hide (vs := vs)
              rw [hw] at AH
              refine ⟨F4, hid vs fr4, hidR vs r4, acc, rest, AH, (s2.trans sT).hide hv2, hJ.hide (hJ.keep A2 hS2 sT) hlk, ⟨xs, k1, hr.ext (sT.ext A2)⟩, k2, fun j h => k3 j (hidR_some h).2, h2, htot⟩
            | true =>
              rw [if_pos rfl]
              dsimp only at h2
              refine ⟨F4, fr4, r4, A4, ?_⟩
              cases e3 : el fr4 with
              | st => simp only [e3] at h2; cases h2
              | ex c w fr5 => simp only [e3] at h2; cases h2
              | ok ev fr5 =>
                simp only [e3] at h2
                intro v F5 H5 r5 A5 o5 s5
                cases e4 : fz fr5 ev with
                | none => simp only [e4] at h2; cases h2
                | some pr =>
                  obtain ⟨dx, fr6⟩ := pr
                  simp only [e4] at h2
                  obtain ⟨F6, r6, A6, R6, s6⟩ := fz_step s5 A5 o5.1 o5.2 e4
                  have sU := sT.trans s6
                  obtain ⟨k1, k2, k3⟩ := sU.apart hx nF2 nr2
                  cases e5 : lcL vs m tst el (List.drop (i + 1) sd.items) (hid vs fr6) with
                  | st => simp only [e5] at h2; cases h2
                  | ex c w fr7 => simp only [e5] at h2; cases h2
                  | ok rest2 fr7 =>
                    simp only [e5] at h2
                    cases h2
                    have hl : acc.length < sizeLine := by
                      rw [← htot, List.length_append, List.length_cons] at hlen
                      omega
                    refine ⟨xs, k1, by rw [hr.length]; exact hl, ?_⟩
                    have ex := ext_upd (ys := xs ++ [v]) k2 k1
                    have AH := A6.hide (vs := vs)
                    rw [hw] at AH
                    refine ⟨F6, hid vs fr6, hidR vs r6, acc ++ [dx], rest2, AH.updN k1 k2 (fun j h => k3 j (hidR_some h).2), ((s2.trans sU).hide hv2).updN hD, hJ.ext (hJ.hide (hJ.keep A2 hS2 sU) hlk) ex, ⟨xs ++ [v], upd_same, ((hr.ext (sU.ext A2)).append (.cons R6 .nil)).ext ex⟩, k2, fun j h => k3 j (hidR_some h).2, e5, by rw [List.append_assoc]; exact htot⟩
      · have e : i = sd.items.length := by omega
        subst e
        rw [List.drop_length] at h2
        unfold lcL at h2
        cases h2
        rw [List.append_nil] at htot
        subst htot
        obtain ⟨AR, sR⟩ := restore A1L s2 A2
        refine .inl ⟨hJ.stops A2 hS2, h1 (.ref D) F2 H2 _ AR.relock ⟨⟨D, rfl, ⟨nF2, xs, hx, hr⟩, fun j h => ?_⟩, fun a ea => ?_⟩ (s1.trans sR.relock)⟩
        · unfold rstR at h
          split at h
          · exact nr1 j h
          · exact nr2 j h
        · cases ea
          cases z : H D with
          | none => rfl
          | some o =>
            obtain ⟨o', z'⟩ := s1.trk D o z
            rw [hD] at z'
            cases z'
theorem ge_lc {src : Fr → Rs SrcD} {m : Ev → Fr → Rs Unit} {tst : Fr → Rs Bool} {el : Fr → Rs Ev} {scope : Scope} {own : List (Str × Nat)} (hv : own.map (·.2) = vs) (hc : X.calm = true) (hN : X.N.Nodup) (hi : GI X T W tg iter src) (ok : BlkOk X.N X.env.scope scope own)
    (hg : ∀ (s : Shared) (H : Hp) (C : Addr) (cl : List (Str × Addr)) (fp : List Addr), GGv (X.blk s H scope (compEnvC scope cl C X.env) fp) T vs tg m) (ht : ∀ (s : Shared) (H : Hp) (C : Addr) (cl : List (Str × Addr)) (fp : List Addr), GTs (X.blk s H scope (compEnvC scope cl C X.env) fp) T (fun _ _ _ _ => False) ifs tst)
    (he : ∀ (s : Shared) (H : Hp) (C : Addr) (cl : List (Str × Addr)) (fp : List Addr), GE (X.blk s H scope (compEnvC scope cl C X.env) fp) T (fun _ _ _ _ => False) elt el) (hs : ∀ x, foldedSetIterable iter X.env x = pure x := by intro _; rfl) :
    GE X T W (.ListComp elt [⟨tg, iter, ifs, 0⟩] scope pos) (lcE vs src m tst el) := by
  subst hv
  exact PE.weak (pe_lc hc hN hi ok hg ht he hs) fun σ H Q q => lc_reads σ H Q q
/-- name = [..] on one line -/
theorem gs_setLc {i : Nat} {y : Str} {py spos : Pos} {src : Fr → Rs SrcD} {m : Ev → Fr → Rs Unit} {tst : Fr → Rs Bool} {el : Fr → Rs Ev} {scope : Scope} {own : List (Str × Nat)} (hv : own.map (·.2) = vs) (hc : X.calm = true) (hN : X.N.Nodup) (hy : X.N[i]? = some y) (hyl : X.env.scope.names.lookup y = some .local)
    (hsw : swapsWith (.ListComp elt [⟨tg, iter, ifs, 0⟩] scope pos) (some (.Name y py)) spos.line X.env = pure true) (hi : GI X T W tg iter src) (ok : BlkOk X.N X.env.scope scope own)
    (hg : ∀ (s : Shared) (H : Hp) (C : Addr) (cl : List (Str × Addr)) (fp : List Addr), GGv (X.blk s H scope (compEnvC scope cl C X.env) fp) T vs tg m) (ht : ∀ (s : Shared) (H : Hp) (C : Addr) (cl : List (Str × Addr)) (fp : List Addr), GTs (X.blk s H scope (compEnvC scope cl C X.env) fp) T (fun _ _ _ _ => False) ifs tst)
    (he : ∀ (s : Shared) (H : Hp) (C : Addr) (cl : List (Str × Addr)) (fp : List Addr), GE (X.blk s H scope (compEnvC scope cl C X.env) fp) T (fun _ _ _ _ => False) elt el) (hs : ∀ x, foldedSetIterable iter X.env x = pure x := by intro _; rfl) :
    GS X T W (.Assign [.Name y py] (.ListComp elt [⟨tg, iter, ifs, 0⟩] scope pos) spos) (asgS (lcE vs src m tst el) (stM i)) := by
  subst hv
  exact gs_set (PS.weak (ps_setLc hc hN hy hyl hsw hi ok hg ht he hs) fun D σ H q => lc_reads σ H _ q)
end
end FL


set_option Elab.async false
set_option maxRecDepth 100000
set_option maxHeartbeats 4000000
namespace LamX
open PySem PySem.Spec PyProof.Rows L2
/-- all but the tables stay, the tables stay known -/
def ExtT (H H' : Hp) : Prop := ExtN H H' ∧ ∀ b o, H b = some o → ∃ o', H' b = some o'
section
variable {X : Cx} {pins : List (Addr × Obj)} {σ : L2.St} {H : Hp} {s : Shared}
/-- lam_make2, told more of what stays -/
theorem lam_make3 {T : List (Addr × Str)} {c P : Addr} {params : Arguments} {body : Expr} {scope : Scope} {pos : Pos} {E : Value → Shared → Prop} {Q : Value → Shared → Prop} (I : Inv X pins σ H s) (TB : TabB X.base X.mg c P) (hcode : X.env.code = .ref c)
    (hm : (P, X.env.qual ++ "<lambda>") ∈ T) (hu : ∀ p ∈ T, p.1 = P → p.2 = X.env.qual ++ "<lambda>") (hT : Tabs T H) (hdef : defaultsOf params X.env = ([], [])) (hfree : ∀ y ∈ scope.names, y.2 = .free → ∃ c, X.env.cells.lookup y.1 = some c)
    (h : ∀ (f c' : Addr) (pm ctv : Value) (H1 : Hp) (s' : Shared), Inv X pins σ H1 s' → ExtT H H1 → Tabs T H1 →
      s'.heap.get? f = some (PySem.W.kla_obj "<lambda>" (X.env.qual ++ "<lambda>") params body scope (cloFrom X.env.cells scope.names []) pm c' ctv) → H1 f = none → f ∉ frs X.stack → H1 c' = some (CodeO c' (X.env.qual ++ "<lambda>")) → Q (.ref f) s') :
    wpAny (model X.prog X.w) X.A (eval (.Lambda params body scope pos) X.env) Q E s := by
  obtain ⟨ps, hP, ht, ha⟩ := hT _ hm
  refine PySem.W.kla_eval hdef ?_
  have bP : s.heap.BuiltinsAt X.mg P := TB.bm.keeps I.bk
  have hP' : s.heap.get? P = some { cls := .none, data := .fields ps } := I.hok P _ hP
  have nofr : ∀ f, s.heap.objs.size ≤ f → f ∉ frs X.stack := fun f hf z => by
    rcases List.mem_cons.mp (I.stkSub _ z) with e | e
    · have h1 := I.lt
      rw [← e] at h1
      exact Nat.lt_irrefl _ (Nat.lt_of_lt_of_le h1 hf)
    · exact I.nofs hf e
  cases hc : codeAmong pos ps.toList with
  | none =>
    refine PySem.W.kla_makeFunction (mg := X.mg) (c := c) (P := P) (ps := ps) (closure_ok hfree) I.ok.glob (I.mod.glob.keeps I.bk) hcode (TB.code.keeps I.bk) hP' ht hc TB.gP bP fun c' ctv h' tk hx hge hlt hrec htb => ?_
    obtain ⟨c2, oc, vs, t, e2, hoc, hd, hv⟩ := hrec
    cases e2
    have hsz : s.heap.objs.size ≤ h'.objs.size := Nat.le_trans hge (Nat.le_of_lt hlt)
    have nC : H c' = none := I.hok.fresh hge
    have I1 := inv_table (t' := tk) (more := #[rawInt pos.line, rawInt pos.col, .ref c']) (h' := h'.push (PySem.W.kla_obj "<lambda>" (X.env.qual ++ "<lambda>") params body scope (cloFrom X.env.cells scope.names []) ((X.mg "__name__").getD .none) c' ctv)) I hP
      (fun b o hb e => Heap.get?_push_of_some _ (hx b o hb e)) (Heap.get?_push_of_some _ htb) hge ⟨oc, vs, t, Heap.get?_push_of_some _ hoc, hd, hv⟩
    have hE : ExtN H (upd (upd H P (.tbl (ps ++ #[rawInt pos.line, rawInt pos.col, .ref c']))) c' (CodeO c' (X.env.qual ++ "<lambda>"))) := fun b o e n => by
      rw [upd_ne (ne_of_none e nC), upd_ne (fun z => n ps (Option.some.inj (e.symm.trans (by rw [z]; exact hP))))]
      exact e
    have eL : (ps ++ #[rawInt pos.line, rawInt pos.col, .ref c']).toList = ps.toList ++ [rawInt pos.line, rawInt pos.col, .ref c'] := by simp
    refine h h'.objs.size c' ((X.mg "__name__").getD .none) ctv _ _ I1 ⟨hE, fun b o e => ?_⟩ (fun p hp => ?_) (Heap.get?_push_size _ rfl) ?_ (nofr _ hsz) upd_same
    · by_cases hb : b = P
      · exact ⟨_, by rw [upd_ne (ne_of_none e nC), hb, upd_same]⟩
      · exact ⟨o, by rw [upd_ne (ne_of_none e nC), upd_ne hb]; exact e⟩
    · by_cases hb : p.1 = P
      · rw [hu p hp hb, hb]
        refine ⟨_, by rw [upd_ne (ne_of_none hP nC), upd_same], by rw [eL]; exact PySem.TriplesOk_snoc _ _ _ _ ht, fun p' cv hcv => ?_⟩
        rw [eL] at hcv
        rcases among_app _ ht hcv with z | z
        · obtain ⟨c0, e1, e2⟩ := ha p' cv z
          exact ⟨c0, e1, hE _ _ e2 codeO_ne⟩
        · exact ⟨c', z, upd_same⟩
      · obtain ⟨ps', a1, a2, a3⟩ := hT p hp
        refine ⟨ps', by rw [upd_ne (ne_of_none a1 nC), upd_ne hb]; exact a1, a2, fun p' cv hcv => ?_⟩
        obtain ⟨c0, e1, e2⟩ := a3 p' cv hcv
        exact ⟨c0, e1, hE _ _ e2 codeO_ne⟩
    · have n1 : h'.objs.size ≠ c' := Nat.ne_of_gt hlt
      have n2 : h'.objs.size ≠ P := Nat.ne_of_gt (Nat.lt_of_lt_of_le (Heap.lt_size hP') hsz)
      rw [upd_ne n1, upd_ne n2]
      exact I.hok.fresh hsz
  | some cv =>
    obtain ⟨c', e, hco⟩ := ha pos cv hc
    subst e
    refine PySem.W.kla_makeFunctionHit (mg := X.mg) (c := c) (P := P) (ps := ps) (closure_ok hfree) I.ok.glob (I.mod.glob.keeps I.bk) hcode (TB.code.keeps I.bk) hP' ht hc bP fun ctv h' tk hx hsz => ?_
    have I1 : Inv X pins σ H { s with heap := h'.push (PySem.W.kla_obj "<lambda>" (X.env.qual ++ "<lambda>") params body scope (cloFrom X.env.cells scope.names []) ((X.mg "__name__").getD .none) c' ctv), toks := tk } := I.kept fun b o e => Heap.get?_push_of_some _ (hx b o e)
    exact h h'.objs.size c' ((X.mg "__name__").getD .none) ctv H _ I1 ⟨ExtN.refl H, fun b o e => ⟨o, e⟩⟩ hT (Heap.get?_push_size _ rfl) (I.hok.fresh hsz) (nofr _ hsz) hco
end
/-! ### a lambda called where L2N's ways of leaving stand -/
/-- the context of the lambda's body, its errors told by L2N -/
abbrev lamCxN (X : Cx) (A : Around) (outer : List Env) (s : Shared) (H : Hp) (E : XK) (scope : Scope) (f c' : Addr) : Cx :=
  (lamCx X A outer s H E scope f c').wish fun e s' => wpAny (model X.prog X.w) (A.deeper (lamEnv X scope s.heap.objs.size f c')) (leaving (lamEnv X scope s.heap.objs.size f c') e) (fun _ t => L2N.CX X.prog X.w outer H s E e t) (fun e' t => L2N.CX X.prog X.w outer H s E e' t) s'
section
variable {X : Cx} {pins : List (Addr × Obj)} {σ : L2.St} {H HZ : Hp} {s s1 : Shared}
/-- x(), in the def that got the lambda -/
theorem pe_actN {CXg : CXT} {Eg : XK} {Ng : List Str} {qg : Str} {sg : Scope} {g f c' : Addr} {cdg pm ctv : Value} {params : Arguments} {body : Expr} {scope : Scope} {k i : Nat} {a : Str} {pn : List (Addr × Obj)} {xe : Value → Shared → Prop} {W : WX} {E : XK} {tb : TE} {p1 p2 : Pos}
    (I : Inv X pins σ H s) (L : LamS X.env.scope scope) (there : s.heap.get? f = some (PySem.W.kla_obj "<lambda>" (X.env.qual ++ "<lambda>") params body scope (cloFrom X.env.cells scope.names []) pm c' ctv)) (untold : H f = none) (unframed : f ∉ frs X.stack)
    (bound : bindArgs (PySem.W.kla_fn "<lambda>" (X.env.qual ++ "<lambda>") params body scope (cloFrom X.env.cells scope.names []) pm (.ref c') ctv) ⟨[], []⟩ = pure [])
    (takes : L2N.Takes ((cxOf CXg X.prog X.w X.K X.mg X.base Ng qg sg g cdg X.A X.stack s H Eg).tr pn xe) W) (wish : ∀ cls d σ' H', E cls d H' → W cls d σ' H') (room : Room (k + 1) (X.A.deeper (envOfC qg sg s.heap.objs.size g cdg)))
    (inner : ∀ (A : Around) (outer : List Env) (s : Shared) (H : Hp), Room k (A.deeper (lamEnv X scope s.heap.objs.size f c')) → PE (lamCxN X A outer s H E scope f c') body tb)
    (hN : Ng[i]? = some a) (seen : Vis sg a) (hd : (a == ("__debug__" : Str)) = false := by decide) (hcd : (a == ("__classdict__" : Str)) = false := by decide) :
    PE ((cxOf CXg X.prog X.w X.K X.mg X.base Ng qg sg g cdg X.A X.stack s H Eg).tr pn xe) (.Call (.Name a p1) [] [] p2)
      (fun σZ HZ Q => σZ[i]? = some (some (.ref f)) ∧ HZ c' = some (CodeO c' (X.env.qual ++ "<lambda>")) ∧ tb σ HZ Q) := by
  refine ⟨fun pinsZ sZ σZ HZ Q invZ ⟨inSlot, code, wanted⟩ => ?_⟩
  have name := (pe_var (pos := p1) (i := i) hN seen hd hcd).run pinsZ sZ σZ HZ (fun v H1 => v = .ref f ∧ H1 = HZ) invZ ⟨.ref f, inSlot, rfl, rfl⟩
  refine wpAny_Call_Name_kw (thn name fun u st ⟨v, H1, inv1, rel, ev, eH⟩ => ?_)
  subst ev eH
  obtain rfl : u = Value.ref f := rel
  have still := inv1.base.keep f _ there untold unframed (fun z => nomatch (show f ∈ ([] : List Addr) from z))
  refine PySem.W.callWith_F0 ⟨_, _, _, _, still⟩ ?_
  have un : Un (frs X.stack) [] H H1 s.heap st.heap := inv1.base
  obtain ⟨⟨oc, vs, t, e1, e2, e3⟩, _, _⟩ := inv1.hok c' _ code
  have passes : Passes (L2N.CX X.prog X.w) ((cxOf CXg X.prog X.w X.K X.mg X.base Ng qg sg g cdg X.A X.stack s H Eg).tr pn xe) E := L2N.passes_call takes wish
  generalize hA : X.A.deeper (envOfC qg sg s.heap.objs.size g cdg) = A' at room
  have ran : codeAny (model X.prog X.w) A' (.call (.ref f) ⟨[], []⟩) (CR (L2N.CX X.prog X.w) (envOfC qg sg s.heap.objs.size g cdg :: X.stack) X.prog X.w H1 st Q E) st := by
    refine PySem.W.kla_callFunE room.depth still rfl L.co L.gen rfl ⟨c', oc, vs, t, rfl, e1, e2, e3⟩ ?_
    rw [bound]
    refine wpAny_pure (wpAny_newFunctionEnv (fun y hy => (L.own y hy).2) (fun y hy => absurd hy (by simp)) (fun h₁ ns same => ⟨inv1.nolimit.fresh _ same, ?_⟩) L.kind)
    have keeps : ∀ b o, st.heap.get? b = some o → h₁.get? b = some o := fun b o e => same.extBut b o (Nat.ne_of_lt (Heap.lt_size e)) (Heap.get?_push_of_some _ e)
    have J0 : Inv (lamCx X A' (envOfC qg sg s.heap.objs.size g cdg :: X.stack) st H1 E scope f c') [] σ H1 { st with heap := h₁, toks := st.toks + ([] : List (Str × Value)).length } := by
      subst hA
      exact lam_start2 I L inv1.env0 room.hd un ns keeps
    have J : Inv (lamCxN X A' (envOfC qg sg s.heap.objs.size g cdg :: X.stack) st H1 E scope f c') [] σ H1 _ := J0.wish _
    refine PySem.W.kla_codeExpr (wpAny_mono ((inner _ _ st H1 (room.deeper _)).run [] _ _ H1 Q J wanted) (fun v t' got => ?_) fun e t' got => got)
    obtain ⟨w', H', J', rv, q⟩ := got
    exact ⟨w', H', J'.os, J'.bare, J'.base, J'.hok, rv, q⟩
  subst hA
  refine wpAny_call (codeAny_mono ran fun r t' got => ?_)
  cases r with
  | error e => exact passes pinsZ σZ H1 st e t' inv1 got
  | ok fl => cases fl <;> first | exact inv1.after got | exact False.elim got
end
/-- what a def promises that calls the function it got: TT, of the function's reading -/
def GivesToN (X : Cx) (Ng : List Str) (x : Str) (sg : Scope) (g : Addr) (cdg : Value) (bg : List Stmt) (a : Str) (q : Str) (TT : (XK → Hp → VK → Prop) → Hp → VK → Prop) : Prop :=
  ∀ (f c' : Addr) (s : Shared) (H : Hp) (Q : VK) (tl : XK → Hp → VK → Prop),
    (∀ (W : WX) (pn : List (Addr × Obj)) (xe : Value → Shared → Prop) (E : XK) (p1 p2 : Pos), L2N.Takes ((cxOf C8.CX0 X.prog X.w X.K X.mg X.base Ng x sg g cdg X.A X.stack s H C8.E0).tr pn xe) W →
      (∀ cls d σ' H', E cls d H' → W cls d σ' H') → PE ((cxOf C8.CX0 X.prog X.w X.K X.mg X.base Ng x sg g cdg X.A X.stack s H C8.E0).tr pn xe) (.Call (.Name a p1) [] [] p2) (fun σZ HZ Q => σZ[0]? = some (some (.ref f)) ∧ HZ c' = some (CodeO c' q) ∧ tl E HZ Q)) →
    H c' = some (CodeO c' q) → TT tl H Q → ∃ t, PSs (cxOf C8.CX0 X.prog X.w X.K X.mg X.base Ng x sg g cdg X.A X.stack s H C8.E0).nox bg t ∧ t { nx := fun _ H' => Q .non H', rt := Q } (L2.start Ng [.ref f]) H
def tLam3 (T : List (Addr × Str)) (TT : (XK → Hp → VK → Prop) → Hp → VK → Prop) (t : XK → TE) : TE := fun σ H Q => Tabs T H ∧ ∀ H1, ExtT H H1 → Tabs T H1 → TT (fun E H' Q' => t E σ H' Q') H1 Q
section
variable {X : Cx}
/-- pe_lamcall, over lam_make3 -/
theorem pe_lamcall3 {T : List (Addr × Str)} {TT : (XK → Hp → VK → Prop) → Hp → VK → Prop} {x a : Str} {g c P : Addr} {k : Nat} {pg : Arguments} {bg : List Stmt} {sg : Scope} {dV kV doc pm cdv ct oc : Value} {an od : Option Addr} {osl : Array (Option Value)} {Ng : List Str}
    {params : Arguments} {body : Expr} {scope : Scope} {t : XK → TE} {p lpos pos : Pos} (hg : Gl X x) (hm : X.mg x = some (.ref g)) (hk : PySem.W.keepIn X.K (.ref g) = true)
    (lk : X.K.lookup g = some ⟨oc, od, .func (PySem.W.fnOf x x pg bg sg dV kV doc pm an cdv ct), osl⟩) (hcg : PySem.W.codeIn X.K cdv x = true) (hb : L2.Binds X.K (PySem.W.fnOf x x pg bg sg dV kV doc pm an cdv ct) [a] []) (Sg : FnScope Ng [a] sg) (hNg : Ng[0]? = some a) (hva : Vis sg a)
    (hG : GivesToN X Ng x sg g cdv bg a (X.env.qual ++ "<lambda>") TT)
    (TB : TabB X.base X.mg c P) (hcode : X.env.code = .ref c) (hmT : (P, X.env.qual ++ "<lambda>") ∈ T) (hu : ∀ p ∈ T, p.1 = P → p.2 = X.env.qual ++ "<lambda>") (hr : Room (k + 2) X.A) (L : LamS X.env.scope scope) (hdef : defaultsOf params X.env = ([], []))
    (hbind : ∀ (q : Str) (cl : List (Str × Addr)) (pm cv ctv : Value), bindArgs (PySem.W.kla_fn "<lambda>" q params body scope cl pm cv ctv) ⟨[], []⟩ = pure [])
    (hbody : ∀ (A : Around) (outer : List Env) (s : Shared) (H : Hp) (E : XK) (f c' : Addr), Room k (A.deeper (lamEnv X scope s.heap.objs.size f c')) → PE (lamCxN X A outer s H E scope f c') body (t E))
    (hdb : (x == ("__debug__" : Str)) = false := by decide) (hd : (a == ("__debug__" : Str)) = false := by decide) (hcd : (a == ("__classdict__" : Str)) = false := by decide) :
    PE X (.Call (.Name x p) [.Lambda params body scope lpos] [] pos) (tLam3 T TT t) := by
  refine ⟨fun pins s σ H Q I h => ?_⟩
  obtain ⟨hT, h⟩ := h
  refine wpAny_Call_Name_kw (ld_glob I hg hm ?_ hdb)
  refine PySem.W.callWith_K (h₀ := X.base) I.ok.mod.kin hk ?_ (by rfl) (by rfl)
  show wpAny _ _ (spliced ((false, eval (.Lambda params body scope lpos) X.env) :: backTo pos (starEach [] X.env))) _ _ s
  refine Calls.spliced_cons (lam_make3 I TB hcode hmT hu hT hdef (L.has I.ok) fun f c' pm' ctv H1 s' I1 eN T1 hf hfn hfr hco => ?_)
  refine Calls.spliced_nil ⟨I1.kIn, ?_⟩
  have rc : codeAny (model X.prog X.w) X.A (.call (.ref g) ⟨[.ref f], []⟩) (CR C8.CX0 X.stack X.prog X.w H1 s' Q C8.E0) s' := by
    refine run_ofS (N := Ng) (ps := [a]) (us := [.ref f]) (vs := [.ref f]) lk hcg Sg hr I1.env0 (hb s' [.ref f] I1.kIn rfl) (.cons rfl .nil) rfl fun hr' => ?_
    obtain ⟨t', ht', hq'⟩ := hG f c' s' H1 Q (fun E H' Q' => t E σ H' Q') (fun W pn xe E p1 p2 tk hW => pe_actN (i := 0) I1 L hf hfn hfr (hbind _ _ _ _ _) tk hW hr' (fun A outer s H hr2 => hbody A outer s H E f c' hr2) hNg hva hd hcd) hco (h H1 eN T1)
    exact ⟨t', ht'.nox, hq'⟩
  refine wpAny_call (codeAny_mono rc fun r s2 hq => ?_)
  cases r with
  | error e => exact (show False from hq).elim
  | ok fl =>
    cases fl with
    | ret u => exact I1.after hq
    | next => exact False.elim hq
    | brk => exact False.elim hq
    | cont => exact False.elim hq
end
end LamX
namespace FL
open PySem PySem.Spec PyProof.Rows L2 LamX

/-! ### heard(lambda: body) -/
def heardE (told : Str) (n : Nat) (sub : Str → Str → Option Bool) (cl : List Cl) (g : Fr → Rs Ev) : Fr → Rs Ev := fun fr => match g fr with
  | .ok ev fr' => match fz fr' ev with
    | some (d, fr'') => .ok (.sh (.tuple [.str told, d])) fr''
    | none => .st
  | .ex c w fr' => match handle sub cl c w (List.replicate n .no) with
    | .ok (.rt e) frh => match rvOf frh e with
      | some rv => .ok (rvE rv) fr'
      | none => .st
    | .ok .nx _ => .ok (.sh .none) fr'
    | _ => .st
  | .st => .st
section
variable {K : PySem.W.Frag} {mg : Str → Option Value} {T : ThP} {W : WX} {F F0 F' F1 : FS} {H H0 H' H1 : Hp} {σ : L2.St} {fr fr0 fr' fr1 : Fr} {r r0 r' r1 : Ro}
theorem At.extT (A : At K T F H σ fr r) (e : ExtT H H1) (t : Tabs T.tb H1) : At K T F H1 σ fr r ∧ Step F H fr r F H1 fr r := by
  have ex : Ext F H F H1 := ⟨fun _ h => h, fun a o hF h => by
      obtain ⟨o', h', nt⟩ := A.ftr a hF
      rw [h] at h'
      cases h'
      exact e.1 a o h nt, fun a xs h => e.1 a _ h NoTbl.tup, fun a o u h => e.1 a _ h NoTbl.frz, fun a xs h => e.1 a _ h NoTbl.xd, fun a xs h => e.1 a _ h NoTbl.ext⟩
  refine ⟨⟨A.len, fun i s es => ?_, A.out, A.inj, fun a hF => ?_, t⟩, fun _ h => h, fun _ h => .inl h, fun a o h nt _ => e.1 a o h nt, e.2, fun i _ h => .inl ⟨i, h⟩, fun _ _ ds h => ⟨⟨ds, h⟩, rfl⟩, fun _ _ _ h => ⟨h, rfl⟩⟩
  · have q := A.slot i s es
    cases s with
    | no => exact q
    | sh d =>
      obtain ⟨q1, v, q2, q3⟩ := q
      exact ⟨q1, v, q2, q3.ext ex⟩
    | fn m =>
      obtain ⟨q1, v, q2, q3⟩ := q
      exact ⟨q1, v, q2, T.mono q3 ex⟩
    | li io lk ds =>
      obtain ⟨b, q1, q2, nF, xs, q3, q4⟩ := q
      exact ⟨b, q1, q2, nF, xs, e.1 _ _ q3 NoTbl.lst, q4.ext ex⟩
  · obtain ⟨o, h, nt⟩ := A.ftr a hF
    exact ⟨o, e.1 a o h nt, nt⟩
/-- over what another frame's code did, which had no list of its own -/
theorem At.over {T' : ThP} {frh frh' : Fr} {σh' : L2.St} {rh rh' : Ro} (A : At K T F H σ fr r) (nr : ∀ i, rh i = none) (s : Step F H frh rh F' H' frh' rh') (Ah : At K T' F' H' σh' frh' rh') (et : T'.tb = T.tb) : At K T F' H' σ fr r ∧ Step F H fr r F' H' fr r := by
  have kp : ∀ a o, H a = some o → NoTbl o → H' a = some o := fun a o h nt => s.keep a o h nt fun i h => by rw [nr i] at h; cases h
  have ex : Ext F H F' H' := ⟨s.sub, fun a o hF h => by
      obtain ⟨o', h', nt⟩ := A.ftr a hF
      rw [h] at h'
      cases h'
      exact kp a o h nt, fun a xs h => kp a _ h .tup, fun a o u h => kp a _ h .frz, fun a xs h => kp a _ h .xd, fun a xs h => kp a _ h .ext⟩
  have nw : ∀ a, F' a → F a ∨ H a = none := fun a h => by
    rcases s.new a h with z | z | ⟨i, z⟩
    · exact .inl z
    · exact .inr z
    · rw [nr i] at z; cases z
  refine ⟨⟨A.len, fun i sv es => ?_, A.out, A.inj, Ah.ftr, by rw [← et]; exact Ah.tabs⟩, s.sub, fun a h => (nw a h).elim .inl fun z => .inr (.inl z), fun a o h nt _ => kp a o h nt, s.trk, fun i _ h => .inl ⟨i, h⟩, fun _ _ ds h => ⟨⟨ds, h⟩, rfl⟩, fun _ _ _ h => ⟨h, rfl⟩⟩
  have q := A.slot i sv es
  cases sv with
  | no => exact q
  | sh d =>
    obtain ⟨q1, v, q2, q3⟩ := q
    exact ⟨q1, v, q2, q3.ext ex⟩
  | fn m =>
    obtain ⟨q1, v, q2, q3⟩ := q
    exact ⟨q1, v, q2, T.mono q3 ex⟩
  | li io lk ds =>
    obtain ⟨b, q1, q2, nF, xs, q3, q4⟩ := q
    refine ⟨b, q1, q2, fun z => ?_, xs, kp _ _ q3 .lst, q4.ext ex⟩
    rcases nw b z with z | z
    · exact nF z
    · rw [q3] at z; cases z
end
/-- what heard's code makes of the lambda's reading -/
def TTh (K : PySem.W.Frag) (told : Str) (n : Nat) (l : List (Value × Option Nat × (Addr → Value → Option Addr → TS))) : (XK → Hp → VK → Prop) → Hp → VK → Prop := fun tl H Q =>
  tl (fun cls d H' => ∀ σ' : L2.St, σ'.length = n → wManyN K (fun _ _ _ _ => False) { nx := fun _ H' => Q .non H', rt := Q } l cls d σ' H') H (fun v H' => [V.str told, v].length ≤ sizeLine ∧ ∀ t, H' t = none → Q (.ref t) (upd H' t (.tup [.str told, v])))
theorem takes_len {X : Cx} {W : WX} (tk : L2N.Takes X W) : L2N.Takes X fun cls d σ H => σ.length = X.N.length → W cls d σ H := fun u s' ⟨a, B, sI, pins, σ, H, cls, d, e, I, nb, up, sky, na, os, ag, w⟩ =>
  tk u s' ⟨a, B, sI, pins, σ, H, cls, d, e, I, nb, up, sky, na, os, ag, w I.len⟩
section
variable {X : Cx} {tb : List (Addr × Str)} {sub : Str → Str → Option Bool}
/-- the context of heard's body -/
abbrev hCx (P : Program) (w : World) (K : PySem.W.Frag) (mg : Str → Option Value) (base : Heap) (Ng : List Str) (x : Str) (sg : Scope) (g : Addr) (cdg : Value) (A : Around) (stack : List Env) (s : Shared) (H : Hp) : Cx := (cxOf C8.CX0 P w K mg base Ng x sg g cdg A stack s H C8.E0).nox
theorem heard_gives {Ng : List Str} {x a q told : Str} {sg : Scope} {g : Addr} {cdg : Value} {j kk : Nat} {p1 p2 p3 p5 p6 p8 : Pos} {h₀ : ExceptHandler} {hds : List ExceptHandler} {l : List (Value × Option Nat × (Addr → Value → Option Addr → TS))} {cl : List Cl}
    (hN : Ng.Nodup) (h0 : ∀ f : Addr, (L2.start Ng [V.ref f])[0]? = some (some (V.ref f)))
    (hh : ∀ (s : Shared) (H : Hp), GHs (hCx X.prog X.w X.K X.mg X.base Ng x sg g cdg X.A X.stack s H) (noTh tb) sub (h₀ :: hds) l cl) :
    GivesToN X Ng x sg g cdg [.Try [.Return (some (.Tuple [.Constant (.str told) j p5, .Call (.Name a p1) [] [] p2] kk p6)) p3] (h₀ :: hds) [] [] p8] a q (TTh X.K told Ng.length l) := by
  intro f c' s H Q tl act hc h
  refine ⟨_, pss_one (ps_try_manyN (X := hCx X.prog X.w X.K X.mg X.base Ng x sg g cdg X.A X.stack s H) (Wout := fun _ _ _ _ => False) (l := l)
      (tb := fun W D σ H => ∃ Ech : XK, (∀ cls d (σ' : L2.St) H', σ'.length = Ng.length → Ech cls d H' → W cls d σ' H') ∧ σ[0]? = some (some (.ref f)) ∧ H c' = some (CodeO c' q) ∧ tl Ech H (fun v H' => [V.str told, v].length ≤ sizeLine ∧ ∀ t, H' t = none → D.rt (.ref t) (upd H' t (.tup [.str told, v]))))
      rfl rfl hN takes0N (fun W pn xe tk _ => ?_) (hh s H).ok), ?_⟩
  · refine ⟨fun pins s' σ H' D I h' => ?_⟩
    obtain ⟨Ech, hW, h1, h2, h3⟩ := h'
    have hp := act (fun cls d σ H => σ.length = Ng.length → W cls d σ H) pn xe Ech p1 p2 (takes_len tk) fun cls d σ' H' e hl => hW cls d σ' H' hl e
    have hq := pss_one (ps_ret (pos := p3) (pe_tup (pos := p6) (x1 := kk) (pa_cons (pe_str (x := told) (j := j) (pos := p5)) (pa_cons hp pa_nil))))
    exact hq.run pins s' σ H' D I ⟨h1, h2, h3⟩
  · exact ⟨_, fun cls d σ' H' hl e => e σ' hl, h0 f, hc, h⟩
theorem rvEnd {K : PySem.W.Frag} {T : ThP} {F' : FS} {H H' : Hp} {σ' : L2.St} {fr' : Fr} {r' : Ro} {v : V} {e : Ev} {rv : Rv} (A : At K T F' H' σ' fr' r') (o : EvOK K T F' H' σ' r' v e) (n : New H v e) (q : rvOf fr' e = some rv) (hr : ∀ i a, r' i = some a → H a = none) : RvK K F' H' H v rv :=
  rv_end A o n q fun i a h _ => hr i a h
/-- heard(lambda: body) -/
theorem ge_heard {T : ThP} {W : WX} {x a told : Str} {g c P : Addr} {k j kk : Nat} {pg : Arguments} {sg : Scope} {dV kV doc pm cdv ct oc : Value} {an od : Option Addr} {osl : Array (Option Value)} {Ng : List Str} {p1 p2 p3 p5 p6 p8 : Pos} {h₀ : ExceptHandler} {hds : List ExceptHandler}
    {l : List (Value × Option Nat × (Addr → Value → Option Addr → TS))} {cl : List Cl} {params : Arguments} {body : Expr} {scope : Scope} {f : Fr → Rs Ev} {p lpos pos : Pos} (hg : Gl X x) (hm : X.mg x = some (.ref g)) (hk : PySem.W.keepIn X.K (.ref g) = true)
    (lk : X.K.lookup g = some ⟨oc, od, .func (PySem.W.fnOf x x pg [.Try [.Return (some (.Tuple [.Constant (.str told) j p5, .Call (.Name a p1) [] [] p2] kk p6)) p3] (h₀ :: hds) [] [] p8] sg dV kV doc pm an cdv ct), osl⟩) (hcg : PySem.W.codeIn X.K cdv x = true)
    (hb : L2.Binds X.K (PySem.W.fnOf x x pg [.Try [.Return (some (.Tuple [.Constant (.str told) j p5, .Call (.Name a p1) [] [] p2] kk p6)) p3] (h₀ :: hds) [] [] p8] sg dV kV doc pm an cdv ct) [a] []) (Sg : FnScope Ng [a] sg) (hNg : Ng[0]? = some a) (hva : Vis sg a) (hN : Ng.Nodup)
    (hh : ∀ (A : Around) (stack : List Env) (s : Shared) (H : Hp), GHs (hCx X.prog X.w X.K X.mg X.base Ng x sg g cdv A stack s H) (noTh T.tb) sub (h₀ :: hds) l cl)
    (TB : TabB X.base X.mg c P) (hcode : X.env.code = .ref c) (hmT : (P, X.env.qual ++ "<lambda>") ∈ T.tb) (hu : ∀ p ∈ T.tb, p.1 = P → p.2 = X.env.qual ++ "<lambda>") (hr : Room (k + 2) X.A) (L : LamS X.env.scope scope) (hdef : defaultsOf params X.env = ([], []))
    (hbind : ∀ (q : Str) (cl : List (Str × Addr)) (pm cv ctv : Value), bindArgs (PySem.W.kla_fn "<lambda>" q params body scope cl pm cv ctv) ⟨[], []⟩ = pure [])
    (hbody : ∀ (A : Around) (outer : List Env) (s : Shared) (H : Hp) (E : XK) (f' c' : Addr), Room k (A.deeper (lamEnv X scope s.heap.objs.size f' c')) → GE (lamCxN X A outer s H E scope f' c') T (fun cls d _ H => E cls d H) body f)
    (h0 : ∀ f : Addr, (L2.start Ng [V.ref f])[0]? = some (some (V.ref f)) := by intro _; rfl)
    (hdb : (x == ("__debug__" : Str)) = false := by decide) (hd : (a == ("__debug__" : Str)) = false := by decide) (hcd : (a == ("__classdict__" : Str)) = false := by decide) :
    GE X T W (.Call (.Name x p) [.Lambda params body scope lpos] [] pos) (heardE told Ng.length sub cl f) := by
  have hh' := hh X.A X.stack
  refine PE.weak (pe_lamcall3 (t := fun E => tE X.K X.mg T (fun cls d _ H => E cls d H) f) hg hm hk lk hcg hb Sg hNg hva (heard_gives hN h0 hh') TB hcode hmT hu hr L hdef hbind hbody hdb hd hcd) fun σ H Q ⟨F, fr, r, A, q⟩ => ?_
  refine ⟨A.tabs, fun H1 ex tabs => ?_⟩
  obtain ⟨A1, s1⟩ := A.extT ex tabs
  show tE X.K X.mg T _ f σ H1 _
  refine ⟨F, fr, r, A1, ?_⟩
  unfold heardE at q
  cases e : f fr with
  | st => rw [e] at q; exact q.elim
  | ok ev fr' =>
    rw [e] at q
    dsimp only at q
    cases ez : fz fr' ev with
    | none => simp only [ez] at q; exact q.elim
    | some pr =>
      obtain ⟨d, fr2⟩ := pr
      simp only [ez] at q
      intro v F' H' r' A' o' s'
      obtain ⟨F2, r2, A2, R2, s2⟩ := fz_step s' A' o'.1 o'.2 ez
      refine ⟨by show 2 ≤ sizeLine; decide, fun t ht => ?_⟩
      have g : Grow H' (upd H' t (.tup [.str told, v])) := Grow.upd ht
      exact q (.ref t) F2 _ r2 (A2.grow g) ⟨.tup (.inl (.inl upd_same)) (.cons (.str _) (.cons (R2.ext g.ext) .nil)), trivial⟩ ((s1.trans s2).trans (Step.grow g))
  | ex c' w fr' =>
    rw [e] at q
    dsimp only at q
    intro C dd v F' H' r' hmC A' hdd hv s' σ' hl
    have Ah : At X.K (noTh T.tb) F' H' σ' (List.replicate Ng.length .no) (fun _ => none) := by
      refine ⟨by rw [List.length_replicate, hl], fun i s es => ?_, fun _ _ => rfl, fun i j a h => (by cases h), A'.ftr, A'.tabs⟩
      have := (List.mem_replicate.mp (List.mem_of_getElem? es)).2
      subst this
      exact rfl
    have fin : ∀ {v F2 H2 frh r2 σ2 e rv}, At X.K (noTh T.tb) F2 H2 σ2 frh r2 → EvOK X.K (noTh T.tb) F2 H2 σ2 r2 v e → New H' v e → Step F' H' (List.replicate Ng.length .no) (fun _ => none) F2 H2 frh r2 → rvOf frh e = some rv → cont X.K X.mg T (okE X.K T) W F H fr r σ Q (.ok (rvE rv) fr') → Q v H2 := fun {v F2 H2 frh r2 σ2 e rv} A2 o2 n2 s2 er q => by
      obtain ⟨A3, s3⟩ := A'.over (fun _ => rfl) s2 A2 rfl
      have hroot : ∀ i a, r2 i = some a → H' a = none := fun i a h => by
        rcases s2.root i a h with ⟨_, z⟩ | z
        · cases z
        · exact z
      obtain ⟨k1, k2⟩ := RvK.ev A3 (H := H') (fun i a h => (A'.rootL h).elim fun xs z => ⟨_, z⟩) (rvEnd A2 o2 n2 er hroot)
      exact q v F2 H2 r' A3 ⟨k1, (k2.back s').back s1⟩ ((s1.trans s').trans s3)
    refine (hh' X.s_0 H).wants (W := fun _ _ _ _ => False) hmC Ah hdd hv Step.refl ?_
    cases eh : handle sub cl c' w (List.replicate Ng.length .no) with
    | st => simp only [eh] at q; exact q.elim
    | ex c2 w2 fr2 => simp only [eh] at q; exact q.elim
    | ok fl frh =>
      simp only [eh] at q
      cases fl with
      | bk => exact q.elim
      | ct => exact q.elim
      | nx =>
        intro σ2 F2 H2 r2 A2 s2
        exact fin (v := .non) (e := .sh .none) (rv := .sh .none) A2 (show Rt X.K F2 H2 .non .none from .non) trivial s2 rfl q
      | rt e2 =>
        dsimp only at q
        cases er : rvOf frh e2 with
        | none => simp only [er] at q; exact q.elim
        | some rv =>
          simp only [er] at q
          intro σ2 v2 F2 H2 r2 A2 o2 n2 s2
          exact fin A2 o2 n2 s2 er q
end
end FL


set_option Elab.async false
set_option maxRecDepth 100000
set_option maxHeartbeats 4000000
namespace FL
open PySem PySem.Spec PyProof.Rows L2

/-! ### enumerate over a tuple -/
def IteT (K : PySem.W.Frag) (a : Addr) : It :=
  ⟨fun i H => ∃ (xs : List V) (x : V), SqT K H a xs ∧ xs[i]? = some x, fun i H v H' => ∃ T x, v = .ref T ∧ H T = none ∧ H' = upd H T (.tup [.int (i : Nat), x]) ∧ ∀ xs, SqT K H a xs → xs[i]? = some x, fun i H => ∃ xs : List V, SqT K H a xs ∧ xs.length ≤ i⟩
theorem turn_enumT {P : Program} {w : World} {K : PySem.W.Frag} {elts : List Expr} {kk : Nat} {tpos : Pos} (a e it : Addr) :
    Turn P w K (.Tuple elts kk tpos) (IteT K a) [e, it] e (fun i h => (∃ old, IsEnum h e it ((i : Nat) : Int) old) ∧ h.IsTupleIter it a i ∧ e ≠ it ∧ a ≠ it ∧ a ≠ e) where
  mem := by simp
  obj := fun i h st b hb => by
    obtain ⟨⟨old, he⟩, ⟨o, ho, hc, hd⟩, hne⟩ := st
    have e' : b = e ∨ b = it := by simpa using hb
    rcases e' with z | z
    · rw [z]; exact ⟨_, he, fun v q => nomatch q⟩
    · rw [z]; exact ⟨o, ho, fun v q => by rw [hd] at q; cases q⟩
  keep := fun i h h' st k => let ⟨⟨old, he⟩, hi, hne⟩ := st; ⟨⟨old, k e (by simp) _ he⟩, hi.at fun o q => k it (by simp) o q, hne⟩
  item := by
    intro X hP hw hK hc i pins s σ H E I hf st hg
    subst hP hw hK
    obtain ⟨⟨old, he⟩, hit, hne, hai, hae⟩ := st
    obtain ⟨xs, x, hq, hx⟩ := hg
    obtain ⟨its, rv, p, hz⟩ := I.tuple hq
    obtain ⟨u, hu, ru⟩ := rv.get hx
    have hel : e < s.heap.objs.size := Heap.lt_size he
    have hil : it < s.heap.objs.size := by obtain ⟨_, q, _⟩ := hit; exact Heap.lt_size q
    have D := Draws.tuple (prog := X.prog) (w := X.w) (A := X.A.in1) (show X.A.in1.handled = none from I.ok.hd hc) it a hai its.toArray
    have hlt : i < its.toArray.size := by
      have := (List.getElem?_eq_some_iff.mp hu).1
      rw [List.size_toArray]; exact this
    refine wpAny_pyNext_enum_itemD D he ⟨hit, show s.heap.IsTuple a its.toArray from p⟩ hlt hne (by simp [hne]; exact fun z => hae z.symm) fun u' h' tk hu' ho hst' hT hsz hk => ?_
    have hu2 : its.toArray[i]? = some u := by simpa using hu
    have hu3 : its.toArray[i]? = some u' := hu'
    rw [hu2] at hu3
    cases hu3
    refine ⟨_, rfl, wpAny_letOwnedTupleGo_enum (s := { s with heap := h', toks := tk + 1 }) ho fun h'' he' sb => ?_⟩
    have hT2 : h''.get? s.heap.objs.size = some { cls := .type "tuple", data := .seq #[.int i tk, u] } := (sb.2 _ (Nat.ne_of_gt hel)).trans hT
    have new : ObjOk X.prog X.w (upd H s.heap.objs.size (.tup [.int (i : Nat), x])) h'' s.heap.objs.size (.tup [.int (i : Nat), x]) :=
      ⟨by show 2 ≤ sizeLine; decide, [.int i tk, u], .cons ⟨_, rfl⟩ (.cons ru .nil), ⟨_, hT2, rfl, _, rfl⟩⟩
    have I1 : Inv X pins σ (upd H s.heap.objs.size (.tup [.int (i : Nat), x])) { s with heap := h'', toks := tk + 1 } :=
      I.turnedNew (ch := [e, it]) (fun b ob hb q => (sb.2 b (fun z => hb (by simp [z]))).trans (hk b ob (fun z => hb (by simp [z])) (fun z => hb (by simp [z])) q)) hf (Nat.le_refl _) new
    refine ⟨.ref s.heap.objs.size, _, I1, rfl, ⟨_, x, rfl, I.hok.fresh (Nat.le_refl _), rfl, fun ys hy => by rw [I.tuple_inj hy hq]; exact hx⟩, ⟨⟨u, ?_⟩, hst'.1.at fun o q => (sb.2 it (Ne.symm hne)).trans q, hne, hai, hae⟩, fun b hb => ?_⟩
    · have e1 : ((i + 1 : Nat) : Int) = (i : Int) + 1 := by omega
      rw [e1]; exact he'
    · have hb' : b < s.heap.objs.size := by
        have e' : b = e ∨ b = it := by simpa using hb
        rcases e' with z | z
        · rw [z]; exact hel
        · rw [z]; exact hil
      rw [upd_ne (Nat.ne_of_lt hb')]
      exact (hf b hb).1
  done := by
    intro X hP hw hK hc i pins s σ H E I hf st hg
    subst hP hw hK
    obtain ⟨⟨old, he⟩, hit, hne, hai, hae⟩ := st
    obtain ⟨xs, hq, hx⟩ := hg
    obtain ⟨its, rv, p, hz⟩ := I.tuple hq
    obtain ⟨f0, f1, f2, f3, f4, f5⟩ := hf it (by simp)
    have hl := rv.length
    -- the iterator at or past the end
    unfold pyNext
    have hTe : s.TypeIs (.ref e) "enumerate" := ⟨_, he, rfl⟩
    refine wpAny_bind (wpAny_attempt (wpAny_callSpecial?_slot (name := Str.ofString "__next__") hTe F.slot_enumerate_next
      (wpAny_call_entry F.slot_enumerate_next hTe F.entry_enumerate_next ?_ (F.args_enumerate_next_1 _))))
    show wpAny _ _ (field (.ref e) 2 >>= _) _ _ _
    refine wpAny_bind (wpAny_field he rfl (x := .ref it) rfl ?_)
    refine wpAny_bind (wpAny_nextOf_tuple_end (show X.A.in1.handled = none from I.ok.hd hc) hit (show s.heap.IsTuple a its.toArray from p) (by simp; omega) fun h' x he' hx' => ?_)
    obtain ⟨o, ho, hc'⟩ := hx'
    refine wpAny_bind (wpAny_isInstance (T := "StopIteration") (b := true) ⟨o, ho, hc'⟩ isSubtype_stop ?_)
    exact wpAny_pure ⟨rfl, I.turned (t' := s.toks) (fun b o hb q => he' b o hb q) f0 f1 f3 f4 f5⟩
  self := fun A i s Q E st h => let ⟨⟨_, he⟩, _⟩ := st; wpAny_pyIter_enum he h

set_option maxHeartbeats 1000000 in
theorem meets_enum1 {v : Value} {o : Obj} {H : Heap → Prop} (B : Begins v o H) :
    Meets (Builtin.«enumerate.__new__» ⟨[.type "enumerate", v], []⟩) (fun _ R s => H s.heap ∧
      R (.ok (.ret (.ref (s.heap.push o).objs.size))) { s with heap := (s.heap.push o).push { cls := .type "enumerate", data := .fields #[.none, .bool false, .ref s.heap.objs.size, rawInt 0, .none, .none] } }) :=
  .of_wp fun prog w A R s h => by
    obtain ⟨hp, g, d, tk, os⟩ := s; obtain ⟨h1, h⟩ := h
    have hsub := sub_enumerate
    have q1 : ∀ {A' : Around} {E : Value → Shared → Prop} {Q : Value → Shared → Prop}, Q (.ref hp.objs.size) ⟨hp.push o, g, d, tk, os⟩ → wpAny (model prog w) A' (pyIter v) Q E ⟨hp, g, d, tk, os⟩ :=
      fun q => B.iter prog w _ _ ⟨hp, g, d, tk, os⟩ _ h1 q
    wp_walk using q1
    refine wpAny_stack_any fun st => wpAny_pure ?_
    split
    · rename_i c _ _ _ _ _
      cases (c == Value.type "enumerate")
      · wp_walk using q1
        exact ⟨_, rfl, h⟩
      · wp_walk using q1
        exact ⟨_, rfl, h⟩
    · wp_walk using q1
      exact ⟨_, rfl, h⟩
theorem enum_begins1 {prog : Program} {w : World} {A : Around} {E : Value → Shared → Prop} {s : Shared} {v : Value} {o : Obj} {H : Heap → Prop} {Q : Value → Shared → Prop} (B : Begins v o H) (h1 : H s.heap)
    (h : ∀ h', IsEnum h' (s.heap.objs.size + 1) s.heap.objs.size 0 .none → h'.get? s.heap.objs.size = some o → h'.objs.size = s.heap.objs.size + 2 →
      (∀ b o, s.heap.get? b = some o → h'.get? b = some o) → Q (.ref (s.heap.objs.size + 1)) { s with heap := h' }) :
    wpAny (model prog w) A (call (.type "enumerate") [v]) Q E s := by
  refine callType_new F.called_enumerate (by decide) (F.typeCall_enumerate_1 _) (F.newCall_enumerate_1 _) (fun obj => F.args_object_init_2 obj _) F.entry_enumerate_new
    (meets_enum1 B) ⟨h1, ?_⟩
  have hz : (s.heap.push o).objs.size = s.heap.objs.size + 1 := Heap.size_push ..
  show _ ∧ _
  rw [hz]
  have he : IsEnum ((s.heap.push o).push { cls := .type "enumerate", data := .fields #[.none, .bool false, .ref s.heap.objs.size, rawInt 0, .none, .none] }) (s.heap.objs.size + 1) s.heap.objs.size 0 .none := by
    have := Heap.get?_push_size (s.heap.push o) (o := { cls := .type "enumerate", data := .fields #[.none, .bool false, .ref s.heap.objs.size, rawInt 0, .none, .none] }) rfl
    rw [hz] at this; exact this
  refine ⟨⟨_, he, rfl⟩, h _ he (Heap.get?_push_of_some _ (Heap.get?_push_size _ B.free)) (by rw [Heap.size_push, hz]) fun b o x => Heap.get?_push_of_some _ (Heap.get?_push_of_some _ x)⟩
def iEnumA (K : PySem.W.Frag) (te : TE) : TI := fun σ H R => te σ H fun v H1 => ∃ a xs, v = .ref a ∧ ((SqL K H1 a xs ∧ R (Ite K a) H1) ∨ (SqT K H1 a xs ∧ R (IteT K a) H1))
theorem pi_enumA {X : Cx} {e : Expr} {te : TE} {p pos tpos : Pos} {elts : List Expr} {kk : Nat} (hg : Gl X "enumerate") (hm : X.mg "enumerate" = none) (he : PE X e te) (hs : starEach [e] X.env = (false, eval e X.env) :: starEach [] X.env := by rfl) :
    PI X (.Tuple elts kk tpos) (.Call (.Name "enumerate" p) [e] [] pos) (iEnumA X.K te) := by
  refine ⟨fun pins s σ H R I h => ?_⟩
  refine Call_ (ld_blt I hg hm boot_enumerate (PyProof.Rows.callWith_type1 (args_cons (thn (he.run pins s σ H _ I h) fun u s1 ⟨v, H1, I1, r1, q1⟩ => args_nil ?_) hs) hs rfl))
  obtain ⟨a, xs, ex, q⟩ := q1
  subst ex
  obtain rfl : u = Value.ref a := r1
  have fresh2 : ∀ b ∈ [s1.heap.objs.size + 1, s1.heap.objs.size], FpOk X pins H1 b := fun b hb => by
    have e' : b = s1.heap.objs.size + 1 ∨ b = s1.heap.objs.size := by simpa using hb
    have hle : s1.heap.objs.size ≤ b := by
      rcases e' with z | z
      · rw [z]; exact Nat.le_add_right _ _
      · rw [z]; exact Nat.le_refl _
    exact I1.fpOk hle (I1.hok.fresh hle)
  rcases q with ⟨hq, q⟩ | ⟨hq, q⟩
  · obtain ⟨its, rv, p', hz⟩ := I1.list hq
    refine call_enumerate_list p'.isList fun h' he hit hsz hk => wpAny_pyIter_enum he ?_
    have I2 : Inv X pins σ H1 { s1 with heap := h' } := I1.kept (t' := s1.toks) hk
    exact ⟨s1.heap.objs.size + 1, [s1.heap.objs.size + 1, s1.heap.objs.size], _, _, H1, rfl, I2, turn_enum a (s1.heap.objs.size + 1) s1.heap.objs.size, ⟨⟨.none, he⟩, hit, Nat.succ_ne_self _⟩, fresh2, q⟩
  · obtain ⟨its, rv, p', hz⟩ := I1.tuple hq
    have hal : a < s1.heap.objs.size := by
      obtain ⟨o, ho, _⟩ := (show s1.heap.IsTuple a its.toArray from p')
      exact Heap.lt_size ho
    refine enum_begins1 (begins_tuple a its.toArray) (show s1.heap.IsTuple a its.toArray from p') fun h' he hit hsz hk => wpAny_pyIter_enum he ?_
    have I2 : Inv X pins σ H1 { s1 with heap := h' } := I1.kept (t' := s1.toks) hk
    exact ⟨s1.heap.objs.size + 1, [s1.heap.objs.size + 1, s1.heap.objs.size], _, _, H1, rfl, I2, turn_enumT a (s1.heap.objs.size + 1) s1.heap.objs.size, ⟨⟨.none, he⟩, ⟨_, hit, rfl, rfl⟩, Nat.succ_ne_self _, Nat.ne_of_lt hal, Nat.ne_of_lt (Nat.lt_succ_of_lt hal)⟩, fresh2, q⟩
section
variable {K : PySem.W.Frag} {mg : Str → Option Value} {T : ThP} {W : WX} {F F0 F' F1 : FS} {H H0 H' H1 : Hp} {σ : L2.St} {fr fr0 fr' fr1 : Fr} {r r0 r' r1 : Ro} {R : It → Hp → Prop}
theorem src_enumT {a : Addr} {ds : List PyData} : Src K T (IteT K a) (enumD 0 ds) [] (fun F H _ _ => Rt K F H (.ref a) (.tuple ds)) where
  goes := fun {F H σ fr r i} A h hi => by
    rw [enumD_len] at hi
    cases h with
    | tup h1 h2 =>
      obtain ⟨v, d, e1, e2, e3⟩ := rtAll_at h2 hi
      exact ⟨_, v, h1, e1⟩
  stops := fun A h => by
    cases h with
    | tup h1 h2 => exact ⟨_, h1, by rw [enumD_len, h2.length]; exact Nat.le_refl _⟩
  yields := fun {F H σ fr r i x H'} A h hi y => by
    rw [enumD_len] at hi
    cases h with
    | tup h1 h2 =>
      obtain ⟨v, d, e1, e2, e3⟩ := rtAll_at h2 hi
      obtain ⟨t, x, rfl, ht, rfl, y⟩ := y
      have := y _ h1
      rw [e1] at this
      cases this
      have g : Grow H (upd H t (.tup [.int (i : Nat), v])) := Grow.upd ht
      refine ⟨g, .tuple [.int ((0 + i : Nat) : Int), d], by rw [enumD_get, e2]; rfl, ?_⟩
      rw [Nat.zero_add]
      exact .tup (.inl (.inl upd_same)) (.cons (.int _) (.cons (e3.ext g.ext) .nil))
  keep := fun A h s => Rt.ext (s.ext A) h
  hide := fun h _ => h
  ext := fun h e => Rt.ext e h
def enumM (x : Ev) : Fr → Rs SrcD := fun fr => match x with
  | .al i => match fr[i]? with
    | some (.li _ _ ds) => .ok ⟨enumD 0 ds, [i]⟩ fr
    | some (.sh (.list ds)) => .ok ⟨enumD 0 ds, []⟩ fr
    | some (.sh (.tuple ds)) => .ok ⟨enumD 0 ds, []⟩ fr
    | _ => .st
  | .sh (.list ds) => .ok ⟨enumD 0 ds, []⟩ fr
  | .sh (.tuple ds) => .ok ⟨enumD 0 ds, []⟩ fr
  | .ow ds => .ok ⟨enumD 0 ds, []⟩ fr
  | _ => .st
def enumI (f : Fr → Rs Ev) : Fr → Rs SrcD := bnd f enumM
theorem enum_ev {x : Ev} {v : V} (A : At K T F1 H1 σ fr1 r1) (h : EvOK K T F1 H1 σ r1 v x) (n : New H v x) (s : Step F H fr r F1 H1 fr1 r1)
    (q : contI K T mg W F H fr r σ R (enumM x fr1)) : ∃ a xs, v = .ref a ∧ ((SqL K H1 a xs ∧ R (Ite K a) H1) ∨ (SqT K H1 a xs ∧ R (IteT K a) H1)) := by
  have lst : ∀ {F2 r2 ds v}, At K T F2 H1 σ fr1 r2 → Step F H fr r F2 H1 fr1 r2 → Rt K F2 H1 v (.list ds) → contI K T mg W F H fr r σ R (.ok ⟨enumD 0 ds, []⟩ fr1) → ∃ a xs, v = .ref a ∧ ((SqL K H1 a xs ∧ R (Ite K a) H1) ∨ (SqT K H1 a xs ∧ R (IteT K a) H1)) := fun {F2 r2 ds v} A2 s2 h q => by
    have h0 := h
    cases h with
    | @lst a xs ds hq hr => exact ⟨a, xs, rfl, .inl ⟨hq.elim (fun z => .inl z.2) fun z => .inr z, q _ F2 H1 r2 _ A2 (src_enum (lk := none)) h0 s2⟩⟩
  have tup : ∀ {F2 r2 ds v}, At K T F2 H1 σ fr1 r2 → Step F H fr r F2 H1 fr1 r2 → Rt K F2 H1 v (.tuple ds) → contI K T mg W F H fr r σ R (.ok ⟨enumD 0 ds, []⟩ fr1) → ∃ a xs, v = .ref a ∧ ((SqL K H1 a xs ∧ R (Ite K a) H1) ∨ (SqT K H1 a xs ∧ R (IteT K a) H1)) := fun {F2 r2 ds v} A2 s2 h q => by
    have h0 := h
    cases h with
    | @tup a xs ds hq hr => exact ⟨a, xs, rfl, .inr ⟨hq, q _ F2 H1 r2 _ A2 src_enumT h0 s2⟩⟩
  cases x with
  | fn m => exact q.elim
  | ow ds =>
    obtain ⟨F2, r2, A2, R2, s2⟩ := fz_step s A h n (show fz fr1 (.ow ds) = some (.list ds, fr1) from rfl)
    exact lst A2 s2 R2 q
  | sh d =>
    cases d <;> first | (exact q.elim) | skip
    · exact lst A s h q
    · exact tup A s h q
  | al i =>
    have h : σ[i]? = some (some v) := h
    unfold enumM at q
    dsimp only at q
    cases es : fr1[i]? with
    | none => simp only [es] at q; exact q.elim
    | some sv =>
      simp only [es] at q
      have z := A.slot i sv es
      cases sv with
      | no => exact q.elim
      | fn m => exact q.elim
      | sh d =>
        obtain ⟨_, w, e1, e2⟩ := z
        rw [h] at e1
        cases e1
        cases d <;> first | (exact q.elim) | skip
        · exact lst A s e2 q
        · exact tup A s e2 q
      | li io lk ds =>
        obtain ⟨b, q1, q2, q3, xs, q4, q5⟩ := z
        rw [h] at q2
        cases q2
        refine ⟨b, xs, rfl, .inl ⟨.of q4, q _ F1 H1 r1 _ A (src_enum (lk := some i)) ⟨io, ?_, q1⟩ s⟩⟩
        rw [lkAll_get, es]
        show some (lkS [i] i _) = _
        simp [lkS]
end
section
variable {X : Cx} {T : ThP} {W : WX} {o e a b c tg : Expr} {es elts : List Expr} {pos p apos cpos tpos : Pos} {kk : Nat}
theorem gi_enum {f : Fr → Rs Ev} (hg : Gl X "enumerate") (hm : X.mg "enumerate" = none) (h : GE X T W e f) (hs : starEach [e] X.env = (false, eval e X.env) :: starEach [] X.env := by rfl) :
    GI X T W (.Tuple elts kk tpos) (.Call (.Name "enumerate" p) [e] [] pos) (enumI f) :=
  PI.weak (pi_enumA hg hm h hs) fun σ H R ⟨F, fr, r, A, q⟩ => ⟨F, fr, r, A, (use_okI q).mono fun v H1 ⟨x, F1, fr1, r1, A1, o1, s1, h1⟩ => enum_ev A1 o1.1 o1.2 s1 h1⟩
end
end FL


set_option Elab.async false
set_option maxRecDepth 100000
set_option maxHeartbeats 4000000
namespace FL
open PySem PySem.Spec PyProof.Rows L2

/-! ### Refused.__init__ -/
section
variable {P : Program} {w : World} {K : PySem.W.Frag} {mg : Str → Option Value} {base : Heap} {tb : List (Addr × Str)}
/-- the names of Refused.__init__ -/
def iS : Scope := { kind := .function, names := [("self", .local), ("what", .local), ("ValueError", .globalImplicit)], isGenerator := false, isCoroutine := false }
def iB (p1 p2 p3 p4 p5 p6 q1 q2 q3 q4 : Pos) : List Stmt := [.Expr (.Call (.Attribute (.Name "ValueError" p1) "__init__" p2) [.Name "self" p3, .Name "what" p4] [] p5) p6, .Assign [.Attribute (.Name "self" q1) "what" q2] (.Name "what" q3) q4]
def iA (p1 p2 : Pos) : Arguments := { posonlyargs := [], args := [{ arg := "self", annotation := none, pos := p1 }, { arg := "what", annotation := none, pos := p2 }], vararg := none, kwonlyargs := [], kw_defaults := [], kwarg := none, defaults := [] }
theorem scI : FnScope ["self", "what"] ["self", "what"] iS := ⟨rfl, rfl, rfl, by decide +kernel, rfl, by decide +kernel, by decide +kernel⟩
theorem fn_init {f : Addr}  {p1 p2 p3 p4 p5 p6 q1 q2 q3 q4 a1 a2 : Pos} {oc : Value} {od an : Option Addr} {osl : Array (Option Value)} {kV doc pm cdv ct : Value} (hli : (p2.endLine == p5.line) = true) (hm : mg "ValueError" = none) (vV : PySem.W.findCls K (.type "ValueError") (.type "type") "__init__" = some (.val (.builtin "ValueError.__init__")))
    (l : K.lookup f = some ⟨oc, od, .func (PySem.W.fnOf "__init__" "Refused.__init__" (iA a1 a2) (iB p1 p2 p3 p4 p5 p6 q1 q2 q3 q4) iS .none kV doc pm an cdv ct), osl⟩) (hc : PySem.W.codeIn K cdv "Refused.__init__" = true) :
    FnOk P w K mg base (L2N.CX P w) 1 f (PySem.W.fnOf "__init__" "Refused.__init__" (iA a1 a2) (iB p1 p2 p3 p4 p5 p6 q1 q2 q3 q4) iS .none kV doc pm an cdv ct) ["self", "what"] (spInit K) ∧ Binds K (PySem.W.fnOf "__init__" "Refused.__init__" (iA a1 a2) (iB p1 p2 p3 p4 p5 p6 q1 q2 q3 q4) iS .none kV doc pm an cdv ct) ["self", "what"] [] := by
  refine ⟨fn_of l hc scI (fun vs H Q E h => ?_) fun A outer s H vs Q E hr h => ?_, .all fun us hl => match us, hl with | [_, _], _ => rfl⟩
  · obtain ⟨a, C, v, rfl, _⟩ := h
    rfl
  · obtain ⟨a, C, v, rfl, ox, hno, ha, hq⟩ := h
    refine ⟨_, pss_cons (ps_expr (pe_veinit (pl := plainOf (.Name "ValueError" p1) (envOfC "Refused.__init__" iS s.heap.objs.size f cdv)) rfl hm vV (pa_cons (pv 0) (pa_cons (pv 1) pa_nil)) (by
      show (do let ov ← eval (.Name "ValueError" p1) _; standAt p2.atName; methodCall (.Name "ValueError" p1) "__init__" p2 p5 _ ov _ _ _) = _
      refine congrArg (fun k => eval (.Name "ValueError" p1) _ >>= k) (funext fun ov => ?_)
      refine congrArg (fun k => standAt p2.atName >>= k) (funext fun _ => ?_)
      exact mcall_line (by rfl) hli))) (pss_one (ps_ost (pv 0) (pv 1))), ?_⟩
    refine ⟨.ref a, rfl, v, rfl, a, C, [v], rfl, (by show 1 ≤ 1000; decide), ox, ha, ?_⟩
    refine ⟨v, rfl, .ref a, rfl, a, C, rfl, ox, hno, .inl ⟨ha, fun dx hd hne => hq dx hd hne⟩⟩
/-- what is known of a def of the top -/
structure Gd (P : Program) (w : World) (K : PySem.W.Frag) (mg : Str → Option Value) (base : Heap) (tb : List (Addr × Str)) (k : Nat) (x : Str) (ps : List Str) (m : Md) : Prop where
  ex : ∃ (f : Addr) (fd : FuncData), mg x = some (.ref f) ∧ PySem.W.keepIn K (.ref f) = true ∧ Binds K fd ps [] ∧ FnOk P w K mg base (L2N.CX P w) k f fd ps (spD K mg tb m)
structure Df (K : PySem.W.Frag) (mg : Str → Option Value) (x : Str) (st : Stmt) : Prop where
  ex : ∃ (f : Addr) (fd : FuncData), mg x = some (.ref f) ∧ Fun K x x st f fd ∧ PySem.W.keepIn K (.ref f) = true
/-- a def that makes functions: its code object is at c -/
structure DfC (K : PySem.W.Frag) (mg : Str → Option Value) (x : Str) (st : Stmt) (c : Addr) : Prop where
  ex : ∃ (f : Addr) (oc : Value) (od an : Option Addr) (osl : Array (Option Value)) (kV doc pm ct : Value), mg x = some (.ref f) ∧ K.lookup f = some ⟨oc, od, .func (PySem.W.fnOf x x (defArgs st) (defBody st) (defScope st) .none kV doc pm an (.ref c) ct), osl⟩ ∧
    PySem.W.codeIn K (.ref c) x = true ∧ PySem.W.keepIn K (.ref f) = true
def ArgsOk (x : Str) (st : Stmt) (ps : List Str) : Prop := ∀ (kV doc pm : Value) (an : Option Addr) (cdv ct : Value) (us : List Value), us.length = ps.length → bindArgs (PySem.W.fnOf x x (defArgs st) (defBody st) (defScope st) .none kV doc pm an cdv ct) ⟨us, []⟩ = pure (ps.zip us)
theorem gd_of {x : Str} {st : Stmt} {N ps : List Str} {k : Nat} {body : Fr → Rs Fl} (D : Df K mg x st) (S : FnScope N ps (defScope st)) (ha : ArgsOk x st ps)
    (hb : ∀ (f : Addr) (cdv : Value) (A : Around) (outer : List Env) (s : Shared) (H : Hp) (E : XK), Room k (A.deeper (envOfC x (defScope st) s.heap.objs.size f cdv)) →
      L2N.Takes (cxOf (L2N.CX P w) P w K mg base N x (defScope st) f cdv A outer s H E) (fun cls d _ H => E cls d H) →
      GSs (cxOf (L2N.CX P w) P w K mg base N x (defScope st) f cdv A outer s H E) (noTh tb) (fun cls d _ H => E cls d H) (defBody st) body) :
    Gd P w K mg base tb (k + 1) x ps (mkM ps.length N.length body) := by
  obtain ⟨f, fd, hm, F, hk⟩ := D.ex
  exact ⟨f, fd, hm, hk, F.binds ha, fn_ok F S (hb f)⟩
theorem gd_ofC {x : Str} {st : Stmt} {c : Addr} {N ps : List Str} {k : Nat} {body : Fr → Rs Fl} (D : DfC K mg x st c) (S : FnScope N ps (defScope st)) (ha : ArgsOk x st ps)
    (hb : ∀ (f : Addr) (A : Around) (outer : List Env) (s : Shared) (H : Hp) (E : XK), Room k (A.deeper (envOfC x (defScope st) s.heap.objs.size f (.ref c))) →
      L2N.Takes (cxOf (L2N.CX P w) P w K mg base N x (defScope st) f (.ref c) A outer s H E) (fun cls d _ H => E cls d H) →
      GSs (cxOf (L2N.CX P w) P w K mg base N x (defScope st) f (.ref c) A outer s H E) (noTh tb) (fun cls d _ H => E cls d H) (defBody st) body) :
    Gd P w K mg base tb (k + 1) x ps (mkM ps.length N.length body) := by
  obtain ⟨f, oc, od, an, osl, kV, doc, pm, ct, hm, l, hc, hk⟩ := D.ex
  exact ⟨f, _, hm, hk, .all fun us hu => ha kV doc pm an (.ref c) ct us hu, fn_okC l hc S (hb f)⟩
theorem Gd.mono {k j : Nat} {x : Str} {ps : List Str} {m : Md} (g : Gd P w K mg base tb j x ps m) (h : j ≤ k) : Gd P w K mg base tb k x ps m := by
  obtain ⟨f, fd, h1, h2, h3, h4⟩ := g.ex
  exact ⟨f, fd, h1, h2, h3, h4.mono h⟩
/-- nothing is promised: the depth is used up -/
theorem gd_dead {x : Str} {st : Stmt} {ps : List Str} (D : Df K mg x st) (ha : ArgsOk x st ps) : Gd P w K mg base tb 0 x ps (fun _ => .st) := by
  obtain ⟨f, fd, hm, F, hk⟩ := D.ex
  exact ⟨f, fd, hm, hk, F.binds ha, ⟨fun vs H Q E ⟨_, _, _, _, _, q⟩ => q.elim, fun A outer s H args us vs Q E hr he hb hv ⟨_, _, _, _, _, q⟩ => q.elim⟩⟩
end
section
variable {X : Cx} {T : ThP} {W : WX} {e a b c : Expr} {es : List Expr} {pos p : Pos}
/-- f(e, ..) -/
theorem ge_callG {k : Nat} {ps : List Str} {m : Md} {x : Str} {g : Fr → Rs (List Av)} (tk : L2N.Takes X W) (G : Gd X.prog X.w X.K X.mg X.base T.tb k x ps m) (hr : Room k X.A) (hg : Gl X x) (ha : GV X T W (e :: es) g) (hdb : (x == ("__debug__" : Str)) = false := by decide) (he : starEach (e :: es) X.env = (false, eval e X.env) :: starEach es X.env := by rfl)
    (hpl : (backTo pos (starEach es X.env)).any (·.1) = false := by rfl) : GE X T W (.Call (.Name x p) (e :: es) [] pos) (bnd g (callM m)) := by
  obtain ⟨f, fd, hm, hk, hb, F⟩ := G.ex
  exact ge_call tk F hr hg hm hk hb ha hdb he hpl
theorem ge_callG0 {k : Nat} {ps : List Str} {m : Md} {x : Str} (tk : L2N.Takes X W) (G : Gd X.prog X.w X.K X.mg X.base T.tb k x ps m) (hr : Room k X.A) (hg : Gl X x) (hdb : (x == ("__debug__" : Str)) = false := by decide) : GE X T W (.Call (.Name x p) [] [] pos) (callM m []) := by
  obtain ⟨f, fd, hm, hk, hb, F⟩ := G.ex
  exact ge_call0 tk F hr hg hm hk hb hdb
/-- code that is never come to -/
theorem ge_dead : GE X T W e (fun _ => .st) := ⟨fun _ _ _ _ _ _ ⟨_, _, _, _, q⟩ => q.elim⟩
theorem gss_dead {st : List Stmt} : GSs X T W st (fun _ => .st) := ⟨fun _ _ _ _ _ _ ⟨_, _, _, _, q⟩ => q.elim⟩
/-- a constant of the module -/
theorem ge_cint {x : Str} {i : Int} (hg : Gl X x) (hm : ∃ t, X.mg x = some (.int i t)) (hd : (x == ("__debug__" : Str)) = false := by decide) : GE X T W (.Name x p) (ret (.sh (.int i))) := by
  obtain ⟨t, hm⟩ := hm
  exact ge_pure (pe_glob (v := .int i) hg hm ⟨t, rfl⟩ hd) fun _ _ => .int i
/-- a data constant of the written part -/
theorem ge_ctup {x : Str} {a : Addr} {d : PyData} (hg : Gl X x) (hm : X.mg x = some (.ref a)) (hd0 : ∀ F H, Rt X.K F H (.ref a) d) (hd : (x == ("__debug__" : Str)) = false := by decide) : GE X T W (.Name x p) (ret (.sh d)) :=
  ge_pure (pe_glob (v := .ref a) hg hm rfl hd) hd0
/-- isinstance(x, dict): no data here is a dict -/
def isiND (f : Fr → Rs Ev) : Fr → Rs Ev := bnd f fun x fr => match rd fr x with
  | some _ => .ok (.sh (.bool false)) fr
  | none => .st
theorem ge_isiD {f : Fr → Rs Ev} {pn : Pos} (ha : GE X T W e f) (hg : Gl X "isinstance") (hm : X.mg "isinstance" = none) (hgt : Gl X "dict") (hmt : X.mg "dict" = none)
    (hs : starEach [e, .Name "dict" pn] X.env = (false, eval e X.env) :: starEach [.Name "dict" pn] X.env := by rfl) (hs2 : starEach [.Name "dict" pn] X.env = (false, eval (.Name "dict" pn) X.env) :: starEach [] X.env := by rfl) (hpl : (backTo pos (starEach [.Name "dict" pn] X.env)).any (·.1) = false := by rfl) :
    GE X T W (.Call (.Name "isinstance" p) [e, .Name "dict" pn] [] pos) (isiND f) := by
  refine PE.weak (pe_callB (call_isi (X := X)) hg hm rfl (pa_cons ha (pa_cons (pe_bltn (v := .ty "dict") hgt hmt rfl rfl (by decide) (by decide)) pa_nil hs2) hs) (by decide) (by decide) hs hpl) fun σ H Q ⟨F, fr, r, A, q⟩ => ?_
  refine ⟨F, fr, r, A, (use_ok q).mono fun v1 H1 ⟨y, F1, fr1, r1, A1, o1, s1, h1⟩ => ?_⟩
  cases e1 : rd fr1 y with
  | none => simp only [e1] at h1; exact h1.elim
  | some d =>
    simp only [e1] at h1
    have cn := rd_cn A1 o1.1 e1
    have hk : kitB (tyN d) "dict" = some false := by
      cases d with
      | dict kvs => exact cn.nondict.elim
      | none => decide +kernel
      | bool _ => show kitB "bool" "dict" = _; decide +kernel
      | int _ => show kitB "int" "dict" = _; decide +kernel
      | str _ => show kitB "str" "dict" = _; decide +kernel
      | list _ => show kitB "list" "dict" = _; decide +kernel
      | tuple _ => show kitB "tuple" "dict" = _; decide +kernel
    exact ⟨v1, .ty "dict", .type (tyN d), .type "dict", false, rfl, .ty "dict", cn.ty, kit_ty hk, h1 (.bl false) F1 H1 r1 A1 ⟨.bl _, trivial⟩ s1⟩

/-! ### in an except suite -/
/-- err.what -/
def whatE (sub : Str → Str → Option Bool) (i : Nat) : Fr → Rs Ev := fun fr => match fr[i]? with
  | some (.fn (.xc c w)) => if (sub c c).isSome = true then .ok (.sh w) fr else .st
  | _ => .st
def xcOnly (T : ThP) : Prop := ∀ F H v c w, ¬ T.p F H v (.xc c w)
theorem noTh_xc {tb : List (Addr × Str)} : xcOnly (noTh tb) := fun _ _ _ _ _ h => h
def XfT (K : PySem.W.Frag) (mg : Str → Option Value) (sub : Str → Str → Option Bool) : Prop := ∀ c k b C, sub c k = some b → mg c = some (.ref C) → XfC K C ∧ PySem.W.findIn K (.ref C) "what" = some none
theorem ge_what {sub : Str → Str → Option Bool} {a : Addr} {oe : Obj} {cls : Value} {d : Option Addr} {pn : List (Addr × Obj)} {x : Str} {i : Nat} {px : Pos} (hT : xcOnly T) (xf : XfT X.K X.mg sub) (hz : L2N.Zn cls d oe) (hf : ∃ vs, oe.data = .fields vs)
    (hv : PE (X.suite a ((a, oe) :: pn)) (.Name x px) (tVar i)) (hb : attributeBase (.Name x px) "what" X.env (eval (.Name x px) X.env) = eval (.Name x px) X.env := by rfl) :
    GE (X.suite a ((a, oe) :: pn)) (T.xc X.K X.mg a cls d) W (.Attribute (.Name x px) "what" pos) (whatE sub i) := by
  by_cases hc : ∃ C, cls = .ref C ∧ XfC X.K C ∧ PySem.W.findIn X.K (.ref C) "what" = some none
  · obtain ⟨C, rfl, xc, hno⟩ := hc
    refine PE.weak (pe_xf xc hno hz.zc hf hv hb) fun σ H Q ⟨F, fr, r, A, q⟩ => ?_
    unfold whatE at q
    split at q
    · rename_i c w hs
      split at q
      · obtain ⟨_, v, e1, e2⟩ := A.slot i _ hs
        rcases e2 with e2 | ⟨c', w', C', dd, vv, em, ev, hm, ec, ed, eh, er⟩
        · exact (hT _ _ _ _ _ e2).elim
        · cases em
          cases ec
          subst ev
          refine ⟨.ref a, e1, rfl, rfl, dd, _, vv, ed, eh, rfl, ?_⟩
          exact q vv F H r A ⟨er, trivial⟩ Step.refl
      · exact q.elim
    · exact q.elim
  · refine ⟨fun pins s σ H Q I ⟨F, fr, r, A, q⟩ => ?_⟩
    exfalso
    unfold whatE at q
    split at q
    · rename_i c w hs
      split at q
      · rename_i hsome
        obtain ⟨_, v, e1, e2⟩ := A.slot i _ hs
        rcases e2 with e2 | ⟨c', w', C', dd, vv, em, ev, hm, ec, ed, eh, er⟩
        · exact (hT _ _ _ _ _ e2).elim
        · cases em
          obtain ⟨b, hb⟩ := Option.isSome_iff_exists.mp hsome
          obtain ⟨k1, k2⟩ := xf _ _ _ _ hb hm
          exact hc ⟨C', ec, k1, k2⟩
      · exact q
    · exact q
end
end FL


set_option Elab.async false
set_option maxRecDepth 100000
set_option maxHeartbeats 4000000
namespace FL
open PySem PySem.Spec PyProof.Rows L2 LamX

/-! ### the program's error classes -/
def subF (l : List (Str × Str × Bool)) (c k : Str) : Option Bool := (l.find? fun p => p.1 == c && p.2.1 == k).map (·.2.2)
theorem subF_mem {l : List (Str × Str × Bool)} {c k : Str} {b : Bool} (h : subF l c k = some b) : (c, k, b) ∈ l := by
  unfold subF at h
  rw [Option.map_eq_some_iff] at h
  obtain ⟨⟨c', k', b'⟩, h1, rfl⟩ := h
  have h2 := List.mem_of_find?_eq_some h1
  have h3 := List.find?_some h1
  simp only [Bool.and_eq_true, beq_iff_eq] at h3
  obtain ⟨rfl, rfl⟩ := h3
  exact h2
/-- what the written part says of an error class of the program -/
structure Cls (P : Program) (w : World) (K : PySem.W.Frag) (mg : Str → Option Value) (base : Heap) (c : Str) : Prop where
  ex : ∃ (C fI : Addr) (fd : FuncData), mg c = some (.ref C) ∧ OexC K C ∧ XfC K C ∧ PySem.W.findIn K (.ref C) "what" = some none ∧ PySem.W.findIn K (.ref C) "__init__" = some (some (.ref fI)) ∧ PySem.W.typeIn K (.ref fI) = some (.type "function") ∧
    FnOk P w K mg base (L2N.CX P w) 1 fI fd ["self", "what"] (spInit K) ∧ Binds K fd ["self", "what"] []
section
variable {P : Program} {w : World} {K : PySem.W.Frag} {mg : Str → Option Value} {base : Heap} {l : List (Str × Str × Bool)}
theorem Cls.excT {c : Str} (h : Cls P w K mg base c) : ExcT P w K mg base c := by
  obtain ⟨C, fI, fd, h1, h2, h3, h4, h5, h6, h7, h8⟩ := h.ex
  exact ⟨C, fI, fd, h1, h2, h4, h5, h6, h7, h8⟩
/-- which class is below which -/
def SubT (K : PySem.W.Frag) (mg : Str → Option Value) (l : List (Str × Str × Bool)) : Prop := ∀ p ∈ l, ∃ C C2 : Addr, mg p.1 = some (.ref C) ∧ mg p.2.1 = some (.ref C2) ∧ PySem.W.subIn K (.ref C) (.ref C2) = some p.2.2
theorem xft_of (h : ∀ p ∈ l, Cls P w K mg base p.1) : XfT K mg (subF l) := fun c k b C hs hm => by
  obtain ⟨C', fI, fd, h1, h2, h3, h4, _⟩ := (h _ (subF_mem hs)).ex
  rw [h1] at hm
  cases hm
  exact ⟨h3, h4⟩
theorem exm_of (hS : SubT K mg l) {x : Str} {C2 : Addr} (hx : Cls P w K mg base x) (hm2 : mg x = some (.ref C2)) : ∀ c' b C, subF l c' x = some b → mg c' = some (.ref C) → PySem.W.exmOne K (.ref C) (.ref C2) = some b := fun c' b C hs hm => by
  obtain ⟨D, D2, h1, h2, h3⟩ := hS _ (subF_mem hs)
  obtain ⟨E, fI, fd, k1, k2, k3, _⟩ := hx.ex
  have e1 : D = C := by
    have z := h1.symm.trans hm
    cases z
    rfl
  have e2 : D2 = C2 := by
    have z := h2.symm.trans hm2
    cases z
    rfl
  have e3 : E = C2 := by
    have z := k1.symm.trans hm2
    cases z
    rfl
  subst e1 e2 e3
  exact PySem.W.exm_ref k2.exC k3.hdC k2.tyC h3
end
/-- the clauses' wishes, by the clauses -/
def lOf (K : PySem.W.Frag) (mg : Str → Option Value) (T : ThP) (cl : List Cl) : List (Value × Option Nat × (Addr → Value → Option Addr → TS)) := cl.map fun p => ((mg p.1).getD .none, p.2.1, tsPln K mg T p.2.2)
section
variable {X : Cx} {T : ThP} {l0 : List (Str × Str × Bool)} {P : Program} {w : World} {base : Heap}
abbrev GH (X : Cx) (T : ThP) (l0 : List (Str × Str × Bool)) (hds : List ExceptHandler) (cl : List Cl) : Prop := GHs X T (subF l0) hds (lOf X.K X.mg T cl) cl
/-- except x as n: .. -/
theorem gh_as {x n : Str} {i : Nat} {f : Fr → Rs Fl} {b₀ : Stmt} {suite : List Stmt} {np pos' : Pos} {hds : List ExceptHandler} {cl : List Cl} (hS : SubT X.K X.mg l0) (hx : Cls P w X.K X.mg base x) (hi : X.N[i]? = some n) (hln : X.env.kindOf n = some .local) (hg : Gl X x)
    (hsu : ∀ (a : Addr) (oe : Obj) (cls : Value) (d : Option Addr) (pn : List (Addr × Obj)), L2N.Zn cls d oe → (∃ vs, oe.data = .fields vs) → GSs (X.suite a ((a, oe) :: pn)) (T.xc X.K X.mg a cls d) (fun _ _ _ _ => False) (b₀ :: suite) f)
    (r : GH X T l0 hds cl) (hdb : (x == ("__debug__" : Str)) = false := by decide) : GH X T l0 (.ExceptHandler (some (.Name x np)) (some n) (b₀ :: suite) pos' :: hds) ((x, some i, f) :: cl) := by
  obtain ⟨C, fI, fd, h1, _⟩ := id hx.ex
  have e : (X.mg x).getD .none = .ref C := by rw [h1]; rfl
  show GHs X T (subF l0) _ (((X.mg x).getD .none, some i, tsPln X.K X.mg T f) :: lOf X.K X.mg T cl) _
  rw [e]
  exact .consAs hi hln ⟨hg, hdb, .inl h1⟩ hsu (exm_of hS hx h1) r
theorem gh_no {x : Str} {f : Fr → Rs Fl} {b₀ : Stmt} {suite : List Stmt} {np pos' : Pos} {hds : List ExceptHandler} {cl : List Cl} (hS : SubT X.K X.mg l0) (hx : Cls P w X.K X.mg base x) (hg : Gl X x)
    (hsu : ∀ (a : Addr) (oe : Obj) (cls : Value) (d : Option Addr) (pn : List (Addr × Obj)), L2N.Zn cls d oe → (∃ vs, oe.data = .fields vs) → GSs (X.suite a ((a, oe) :: pn)) (T.xc X.K X.mg a cls d) (fun _ _ _ _ => False) (b₀ :: suite) f)
    (r : GH X T l0 hds cl) (hdb : (x == ("__debug__" : Str)) = false := by decide) : GH X T l0 (.ExceptHandler (some (.Name x np)) none (b₀ :: suite) pos' :: hds) ((x, none, f) :: cl) := by
  obtain ⟨C, fI, fd, h1, _⟩ := id hx.ex
  have e : (X.mg x).getD .none = .ref C := by rw [h1]; rfl
  show GHs X T (subF l0) _ (((X.mg x).getD .none, none, tsPln X.K X.mg T f) :: lOf X.K X.mg T cl) _
  rw [e]
  exact .cons ⟨hg, hdb, .inl h1⟩ hsu (exm_of hS hx h1) r
theorem gh_nil : GH X T l0 [] [] := .nil
/-- heard(lambda: body), heard told by its text -/
theorem ge_heardD {W : WX} {x a told : Str} {c P : Addr} {k j kk : Nat} {st : Stmt} {Ng : List Str} {p1 p2 p3 p5 p6 p8 : Pos} {h₀ : ExceptHandler} {hds : List ExceptHandler}
    {cl : List Cl} {params : Arguments} {body : Expr} {scope : Scope} {f : Fr → Rs Ev} {p lpos pos : Pos} (D : Df X.K X.mg x st) (hst : defBody st = [.Try [.Return (some (.Tuple [.Constant (.str told) j p5, .Call (.Name a p1) [] [] p2] kk p6)) p3] (h₀ :: hds) [] [] p8])
    (hab : ArgsOk x st [a]) (Sg : FnScope Ng [a] (defScope st)) (hNg : Ng[0]? = some a) (hva : Vis (defScope st) a)
    (hh : ∀ (g : Addr) (cdv : Value) (A : Around) (stack : List Env) (s : Shared) (H : Hp), GH (hCx X.prog X.w X.K X.mg X.base Ng x (defScope st) g cdv A stack s H) (noTh T.tb) l0 (h₀ :: hds) cl) (hg : Gl X x)
    (TB : TabB X.base X.mg c P) (hcode : X.env.code = .ref c) (hmT : (P, X.env.qual ++ "<lambda>") ∈ T.tb) (hu : ∀ p ∈ T.tb, p.1 = P → p.2 = X.env.qual ++ "<lambda>") (hr : Room (k + 2) X.A) (L : LamS X.env.scope scope) (hdef : defaultsOf params X.env = ([], []))
    (hbind : ∀ (q : Str) (cl : List (Str × Addr)) (pm cv ctv : Value), bindArgs (PySem.W.kla_fn "<lambda>" q params body scope cl pm cv ctv) ⟨[], []⟩ = pure [])
    (hbody : ∀ (A : Around) (outer : List Env) (s : Shared) (H : Hp) (E : XK) (f' c' : Addr), Room k (A.deeper (lamEnv X scope s.heap.objs.size f' c')) → L2N.Takes (lamCxN X A outer s H E scope f' c') (fun cls d _ H => E cls d H) → GE (lamCxN X A outer s H E scope f' c') T (fun cls d _ H => E cls d H) body f)
    (h0 : ∀ f : Addr, (L2.start Ng [V.ref f])[0]? = some (some (V.ref f)) := by intro _; rfl)
    (hdb : (x == ("__debug__" : Str)) = false := by decide) (hd : (a == ("__debug__" : Str)) = false := by decide) (hcd : (a == ("__classdict__" : Str)) = false := by decide) :
    GE X T W (.Call (.Name x p) [.Lambda params body scope lpos] [] pos) (heardE told Ng.length (subF l0) cl f) := by
  obtain ⟨g, fd, hm, F, hk⟩ := D.ex
  obtain ⟨oc, od, kV, doc, pm, an, cdv, ct, osl, rfl, lk, hcd'⟩ := F.ex
  have hb := F.binds hab
  rw [hst] at lk hb
  exact ge_heard (l := lOf X.K X.mg (noTh T.tb) cl) hg hm hk lk hcd' hb Sg hNg hva Sg.nd (hh g cdv) TB hcode hmT hu hr L hdef hbind (fun A outer s H E f' c' hr' => hbody A outer s H E f' c' hr' (L2N.takes_of rfl rfl rfl rfl)) h0 hdb hd hcd
end
end FL


set_option Elab.async false
set_option maxRecDepth 100000
set_option maxHeartbeats 4000000
namespace L2
open PySem PySem.Spec PyProof.Rows
section
variable {P : Program} {w : World} {A : Around} {E : Value → Shared → Prop} {s : Shared}
set_option maxRecDepth 100000 in
set_option maxHeartbeats 3200000 in
theorem call_set_lisI {l : Addr} {items : Array Value} (ns : List Int) {Q : Value → Shared → Prop} (hh : A.handled = none) (hl : s.heap.IsList l items) (hit : IntsAre items.toList ns) (hb : ns.length + 1 < scanBound)
    (h : ∀ (h' : Heap) (tk c : Nat), SetR w h' s.heap.objs.size (fun j => decide (j ∈ ns)) c → c ≤ ns.length → (∀ b o, s.heap.get? b = some o → h'.get? b = some o) → Q (.ref s.heap.objs.size) { s with heap := h', toks := tk }) :
    wpAny (model P w) A (call (.type "set") [.ref l]) Q E s := by
  have hisz : items.size = ns.length := by
    have q := IntsAre.length hit
    rw [Array.length_toList] at q
    exact q
  obtain ⟨c, tl, hmro⟩ := F.called_set.mro
  have hmade := F.called_set.made
  have hsub := F.called_set.sub
  refine wpAny_call (codeAny_of_tree ?_)
  show wpAny _ _ (callAny (.type "set") _) _ _ _
  refine wpAny_pure ⟨Code.quiet_builtin _ (by decide +kernel), codeAny_builtin F.entry_type_call ?_⟩
  rw [Around.under_plain (weight_type_call_type "set" [.ref l] []) rfl]
  have h1 := F.called_set.notType
  have h2 := F.called_set.canCreate
  have hct := F.typeCall_set_1 (.ref l)
  repeat (any_goals (first | assumption | wp_step))

  refine codeAny_mono (code_set_led1 (.ref l) (E := E) (Q₁ := fun obj s₁ => obj = .ref s.heap.objs.size ∧ s₁ = { s with heap := s.heap.push { cls := .type "set", dict := none, data := .set #[] 0 (.fresh 0 0 (!w.params.followText "set-order")) } }) ⟨rfl, rfl⟩) fun r s₁ hr => ?_
  cases r with
  | error e => exact hr
  | ok fl =>
    cases fl with
    | ret obj =>
      obtain ⟨rfl, rfl⟩ := hr
      have hS : (s.heap.push { cls := .type "set", dict := none, data := .set #[] 0 (.fresh 0 0 (!w.params.followText "set-order")) }).get? s.heap.objs.size = some { cls := .type "set", dict := none, data := .set #[] 0 (.fresh 0 0 (!w.params.followText "set-order")) } := Heap.get?_push_size _ rfl
      have hT : Shared.TypeIs { s with heap := s.heap.push { cls := .type "set", dict := none, data := .set #[] 0 (.fresh 0 0 (!w.params.followText "set-order")) } } (.ref s.heap.objs.size) "set" := ⟨_, hS, rfl⟩
      have hli := F.called_set.init.lookup
      have hbi := F.called_set.init.bind (.ref s.heap.objs.size)
      repeat (any_goals (first | assumption | wp_step))

      refine codeAny_mono (codeAny_call_builtin (R := wants (fun r s₂ => r = .none ∧ ∃ h' tk c, s₂ = { s with heap := h', toks := tk } ∧ SetR w h' s.heap.objs.size (fun j => decide (j ∈ ns)) c ∧ c ≤ ns.length ∧
          (∀ b o, s.heap.get? b = some o → h'.get? b = some o)) E) F.called_set.init.plain F.entry_set_init (check_set_init_1 hT ?_)) fun r₂ s₂ hr₂ => ?_
      · obtain ⟨ol, hol, hcl, nl, hdl⟩ := hl
        obtain ⟨ocls, odict, odata, oslots⟩ := ol
        simp only at hcl hdl
        subst hcl; subst hdl
        have hol' : (s.heap.push { cls := .type "set", dict := none, data := .set #[] 0 (.fresh 0 0 (!w.params.followText "set-order")) }).get? l = some { cls := .type "list", dict := odict, data := .seq items nl, slots := oslots } := Heap.get?_push_of_some _ hol
        have hsls := F.sub_list_set
        have hslf := F.sub_list_frozenset
        have hne : (Value.type "list" == Value.type "dict") = false := by decide
        have hl1 : (s.heap.push { cls := .type "set", dict := none, data := .set #[] 0 (.fresh 0 0 (!w.params.followText "set-order")) }).IsList l items := ⟨_, hol', rfl, nl, rfl⟩
        unfold Builtin.«set.__init__» noKeywords Builtin.Frozenset.updateFrom
        generalize hPI : pyIter = PI
        wp_walk
        subst hPI

        refine wpAny_pyIter_list hl1 ?_
        refine wpAny_bind (wpAny_runValue ?_)
        have hlS : l < s.heap.objs.size := Heap.lt_size hol
        have hh3 : A.in1.in1.in1.handled = none := by simp [hh]
        have hz1 : (s.heap.push { cls := .type "set", dict := none, data := .set #[] 0 (.fresh 0 0 (!w.params.followText "set-order")) }).objs.size = s.heap.objs.size + 1 := Heap.size_push ..
        have hneI : l ≠ (s.heap.push { cls := .type "set", dict := none, data := .set #[] 0 (.fresh 0 0 (!w.params.followText "set-order")) }).objs.size := by
          rw [Heap.size_push]; exact Nat.ne_of_lt (Nat.lt_succ_of_lt hlS)
        have hSf : s.heap.objs.size ∉ [(s.heap.push { cls := .type "set", dict := none, data := .set #[] 0 (.fresh 0 0 (!w.params.followText "set-order")) }).objs.size, l] := by
          rw [Heap.size_push]; simp only [List.mem_cons, List.mem_singleton, List.not_mem_nil, or_false, not_or]
          exact ⟨Nat.ne_of_lt (Nat.lt_succ_self _), Nat.ne_of_gt hlS⟩
        have hval : ∀ (i : Nat) (v : Value), items[i]? = some v → ∃ k t, ns[i]? = some k ∧ v = .int k t := fun i v hv => by
          have hi : i < ns.length := by rw [← hisz]; exact (Array.getElem?_eq_some_iff.mp hv).1
          obtain ⟨t, e⟩ := PyProof.Rows.IntsAre.int_at hit i v (by rw [Array.getElem?_toList]; exact hv)
          refine ⟨ns[i], t, List.getElem?_eq_getElem hi, ?_⟩
          rw [e, List.getD_eq_getElem?_getD, List.getElem?_eq_getElem hi] <;> rfl
        refine set_update_ints ((Walks.list hh3 _ l hneI items).toS) s.heap.objs.size
          hSf ns hisz hb hval (items.size - 0) 0 _ (by omega) (Nat.zero_le _)
          ⟨⟨_, Heap.get?_push_size _ rfl, rfl, rfl⟩, (hl1.push _)⟩ ?hS0 ?hR
        case hS0 =>
          have hget : ((s.heap.push { cls := .type "set", dict := none, data := .set #[] 0 (.fresh 0 0 (!w.params.followText "set-order")) }).push { cls := .type "list_iterator", data := .fields #[.ref l, .int 0 0] }).get? s.heap.objs.size
              = some { cls := .type "set", dict := none, data := .set #[] 0 (.fresh 0 0 (!w.params.followText "set-order")) } := Heap.get?_push_of_some _ hS
          exact ⟨0, Nat.le_refl 0, setR_new_at hget⟩
        case hR =>
          intro s' c' hm hc' hS'
          obtain ⟨h', g2, d', tk', os'⟩ := s'
          have eg : g2 = s.gens := hm.gens
          have ed : d' = s.drawn := hm.drawn
          have eo : os' = s.os := hm.os
          subst eg; subst ed; subst eo
          show wpAny _ _ _ _ _ _
          refine wpAny_pure ?_
          show wpAny _ _ (ret Value.none) _ _ _
          rw [hisz] at hc'
          refine wpAny_pure ⟨rfl, h', tk', c', rfl, hS', hc', fun b o e => ?_⟩
          have hb0 : b < s.heap.objs.size := Heap.lt_size e
          have hb1 : b ≠ s.heap.objs.size := Nat.ne_of_lt hb0
          have hb2 : b ≠ (s.heap.push { cls := .type "set", dict := none, data := .set #[] 0 (.fresh 0 0 (!w.params.followText "set-order")) }).objs.size := by
            rw [Heap.size_push]; exact Nat.ne_of_lt (Nat.lt_succ_of_lt hb0)
          exact hm.heap b o (by simp only [List.mem_cons, List.mem_singleton, List.not_mem_nil, or_false, not_or]; exact ⟨hb1, hb2⟩) (Heap.get?_push_of_some _ (Heap.get?_push_of_some _ e))

      · cases r₂ with
        | error e => exact hr₂
        | ok fl₂ =>
          cases fl₂ with
          | ret r =>
            obtain ⟨rfl, h', tk, c', rfl, hS', hc', hk'⟩ := hr₂
            repeat (any_goals (first | assumption | wp_step))
            exact h _ _ _ hS' hc' hk'
          | _ => exact hr₂.elim
    | _ => exact hr.elim

end
end L2
namespace FL
open PySem PySem.Spec PyProof.Rows L2

/-! ### sorted(set(xs)), ints, fewer than 64 of them -/
def dedI : List Int → List Int
  | [] => []
  | x :: r => if x ∈ dedI r then dedI r else x :: dedI r
theorem mem_dedI {k : Int} : ∀ {l : List Int}, k ∈ dedI l ↔ k ∈ l
  | [] => Iff.rfl
  | x :: r => by
    have ih := mem_dedI (k := k) (l := r)
    unfold dedI
    split
    · rename_i h
      rw [ih, List.mem_cons]
      exact ⟨.inr, fun z => z.elim (fun e => by rw [e]; exact mem_dedI.mp h) id⟩
    · rw [List.mem_cons, List.mem_cons, ih]
theorem dedI_nodup : ∀ l : List Int, (dedI l).Nodup
  | [] => .nil
  | x :: r => by
    unfold dedI
    split
    · exact dedI_nodup r
    · rename_i h
      exact List.nodup_cons.mpr ⟨h, dedI_nodup r⟩
theorem dedI_len : ∀ l : List Int, (dedI l).length ≤ l.length
  | [] => Nat.le_refl _
  | x :: r => by
    unfold dedI
    split
    · exact Nat.le_succ_of_le (dedI_len r)
    · exact Nat.succ_le_succ (dedI_len r)
def usetI (l : List Int) : List Int := sortI (dedI l)
theorem lt_le_pair {l : List Int} (h : l.Pairwise (· < ·)) : l.Pairwise (· ≤ ·) := h.imp fun h => Int.le_of_lt h
theorem lt_nodup {l : List Int} (h : l.Pairwise (· < ·)) : l.Nodup := h.imp fun h => Int.ne_of_lt h
theorem perm_of_mem {l m : List Int} (h1 : l.Nodup) (h2 : m.Nodup) (h : ∀ k, k ∈ l ↔ k ∈ m) : l.Perm m := by
  rw [List.perm_ext_iff_of_nodup h1 h2]
  exact h
theorem uset_unique {l ns : List Int} (h : ns.Pairwise (· < ·)) (hm : ∀ k : Int, k ∈ ns ↔ k ∈ l) : ns = usetI l :=
  sorted_unique ((perm_of_mem (lt_nodup h) (dedI_nodup l) fun k => (hm k).trans mem_dedI.symm).trans (sortI_perm _).symm) (lt_le_pair h) (sortI_sorted _)
def tSSet (K : PySem.W.Frag) (te : TE) : TE := fun σ H Q => te σ H fun v H1 => ∃ (a : Addr) (ns : List Int), v = .ref a ∧ SqL K H1 a (ns.map V.int) ∧ ns.length < 64 ∧ ∀ p, H1 p = none → Q (.ref p) (upd H1 p (.lst ((usetI ns).map V.int)))
section
variable {X : Cx} {T : ThP} {W : WX} {e : Expr} {te : TE} {pos p p2 q : Pos}
theorem pe_sortedSet (hc : X.calm = true) (hg : Gl X "sorted") (hm : X.mg "sorted" = none) (hg2 : Gl X "set") (hm2 : X.mg "set" = none) (he : PE X e te)
    (na : starEach [e] X.env = (false, eval e X.env) :: starEach [] X.env := by rfl) : PE X (.Call (.Name "sorted" p) [.Call (.Name "set" p2) [e] [] q] [] pos) (tSSet X.K te) := by
  refine ⟨fun pins s σ H Q I h => ?_⟩
  refine Call_ (ld_blt I hg hm rfl ?_)
  refine PyProof.Rows.callWith_builtin1 (PyProof.Rows.args_cons ?_ rfl) rfl rfl
  refine Call_ (ld_blt I hg2 hm2 PyProof.Rows.boot_set ?_)
  refine PyProof.Rows.callWith_type1 (PyProof.Rows.args_cons (thn (he.run pins s σ H _ I h) fun v s1 ⟨x, H1, I1, r1, q1⟩ => PyProof.Rows.args_nil ?_) na) na rfl
  obtain ⟨a, ns, rfl, hq, hl, q1⟩ := q1
  obtain rfl : v = Value.ref a := r1
  obtain ⟨its, rv, pl, hz⟩ := I1.list hq
  have hi : IntsAre its.toArray.toList ns := ints_of_vals rv
  refine call_set_lisI ns (I1.ok.hd hc) pl.isList hi (by unfold scanBound; omega) fun h' tk c R1 hcn k => ?_
  refine PyProof.Rows.args_nil ?_
  refine sorted_set (s := { s1 with heap := h', toks := tk }) R1 (I1.ok.hd hc) (by omega) fun s' p out c2 ns' k2 g o hp hg' hi' hs hm' hl' => ?_
  have kall : ∀ b u, s1.heap.get? b = some u → s'.heap.get? b = some u := fun b u e => k2 b u (k b u e)
  have e : ns' = usetI ns := uset_unique hs fun k => by rw [hm' k, decide_eq_true_eq]
  subst e
  have hlt : s1.heap.objs.size < h'.objs.size := by
    obtain ⟨o, _, _, _, ho, _⟩ := R1
    exact Heap.lt_size ho
  have hle : s1.heap.objs.size ≤ p := Nat.le_trans (Nat.le_of_lt hlt) hp
  have hn : H1 p = none := I1.hok.fresh hle
  have hlen : ((usetI ns).map V.int).length ≤ sizeLine := by rw [List.length_map, hl', sizeLine_eq]; omega
  have J : Inv X pins σ (upd H1 p (.lst ((usetI ns).map V.int))) { s1 with heap := s'.heap, gens := s'.gens, drawn := s'.drawn, toks := s'.toks } :=
    I1.call (ch := []) (Un.laid kall hle hn) (I1.hok.laid kall hle ⟨hlen, out.toList, c2, vals_of_ints hi', hg'⟩) (by rw [g]; exact I1.bare) (fun _ z => nomatch z)
  have e : s' = { s1 with heap := s'.heap, gens := s'.gens, drawn := s'.drawn, toks := s'.toks } := by
    cases s'
    cases s1
    cases o
    rfl
  rw [e]
  exact ⟨.ref p, _, J, rfl, q1 p hn⟩
def ssetM (x : Ev) : Fr → Rs Ev := fun fr => match rd fr x with
  | some (.list ds) => match intsOf ds with
    | some ns => if ns.length < 64 then .ok (.ow ((usetI ns).map PyData.int)) fr else .st
    | none => .st
  | _ => .st
def ssetE (f : Fr → Rs Ev) : Fr → Rs Ev := bnd f ssetM
theorem ge_sortedSet {f : Fr → Rs Ev} (hc : X.calm = true) (hg : Gl X "sorted") (hm : X.mg "sorted" = none) (hg2 : Gl X "set") (hm2 : X.mg "set" = none) (he : GE X T W e f)
    (na : starEach [e] X.env = (false, eval e X.env) :: starEach [] X.env := by rfl) : GE X T W (.Call (.Name "sorted" p) [.Call (.Name "set" p2) [e] [] q] [] pos) (ssetE f) := by
  refine PE.weak (pe_sortedSet hc hg hm hg2 hm2 he na) fun σ H Q ⟨F, fr, r, A, q⟩ => ?_
  refine ⟨F, fr, r, A, (use_ok q).mono fun v1 H1 ⟨y, F1, fr1, r1, A1, o1, s1, h1⟩ => ?_⟩
  unfold ssetM at h1
  cases e1 : rd fr1 y with
  | none => simp only [e1] at h1; exact h1.elim
  | some d =>
    simp only [e1] at h1
    cases d <;> first | (exact h1.elim) | skip
    rename_i ds
    dsimp only at h1
    cases e2 : intsOf ds with
    | none => simp only [e2] at h1; exact h1.elim
    | some ns =>
      simp only [e2] at h1
      split at h1
      · rename_i hl
        obtain ⟨a, xs, rfl, h, hr⟩ := (rd_cn A1 o1.1 e1).list
        rw [intsOf_eq e2] at hr
        rw [hr.ints] at h
        exact ⟨a, ns, rfl, h, hl, fun p hp => (h1.rebase s1 (okE.back s1)).op A1 (Grow.upd hp) (RvOK.lst hp (.of_ints _))⟩
      · exact h1.elim
end
end FL


set_option Elab.async false
set_option maxRecDepth 100000
set_option maxHeartbeats 4000000
namespace FL
open PySem PySem.Spec PyProof.Rows L2

/-! ### *, with lists and tuples -/
abbrev rMulL (K : PySem.W.Frag) : R2 := fun x y H Q => rMulA x y H Q ∨ (rRep x y H Q ∨ rRepT K x y H Q)
section
variable {X : Cx} {T : ThP} {W : WX} {a b c e tg : Expr} {pos p : Pos} {f g h : Fr → Rs Ev}
theorem op_mulL : OpR X (binaryOp .Mult) (rMulL X.K) := OpR.or op_mulA (OpR.or op_rep op_repT)
def ownE (x : Ev) (fr : Fr) : Bool := match x with
  | .ow _ => true
  | .al i => match fr[i]? with
    | some (.li _ _ _) => true
    | _ => false
  | _ => false
def mulM (x y : Ev) : Fr → Rs Ev := fun fr => match rd fr x, rd fr y with
  | some (.int i), some (.int j) => if MulFits i j then .ok (.sh (.int (i * j))) fr else .st
  | some (.list ds), some (.int k) => if ownE x fr = true ∧ rgOk k = true ∧ ds.length * k.toNat ≤ sizeLine then .ok (.ow (repD k ds)) fr else .st
  | some (.tuple ds), some (.int k) => if ds ≠ [] ∧ 2 ≤ k ∧ k ≤ 1000 ∧ ds.length ≤ 1000 then .ok (.sh (.tuple (repD k ds))) fr else .st
  | _, _ => .st
def mulE (f g : Fr → Rs Ev) : Fr → Rs Ev := bnd f fun x => bnd g fun y => mulM x y
theorem own_lst {K : PySem.W.Frag} {F : FS} {H : Hp} {fr : Fr} {r : Ro} {σ : L2.St} (A : At K T F H σ fr r) {x : Ev} {v : V} {ds : List PyData} (h : EvOK K T F H σ r v x) (q : rd fr x = some (.list ds)) (o : ownE x fr = true) : ∃ l xs, v = .ref l ∧ H l = some (.lst xs) ∧ RtAll K F H xs ds := by
  cases x with
  | sh d => cases o
  | fn m => cases o
  | ow ds' =>
    cases q
    obtain ⟨a, e, ⟨_, xs, h1, h2⟩, _⟩ := h
    exact ⟨a, xs, e, h1, h2⟩
  | al i =>
    have h : σ[i]? = some (some v) := h
    unfold ownE at o
    dsimp only at o
    split at o
    · rename_i io lk ds' hs
      unfold rd at q
      dsimp only at q
      rw [hs] at q
      cases q
      obtain ⟨b, q1, q2, _, xs, q3, q4⟩ := A.slot i _ hs
      rw [h] at q2
      cases q2
      exact ⟨b, xs, rfl, q3, q4⟩
    · cases o
theorem ge_mul (ha : GE X T W a f) (hb : GE X T W b g) : GE X T W (.BinOp a .Mult b pos) (mulE f g) := by
  refine PE.weak (pe_op op_mulL ha hb) fun σ H Q ⟨F, fr, r, A, q⟩ => ?_
  refine ⟨F, fr, r, A, (use_ok q).mono fun v1 H1 ⟨x, F1, fr1, r1, A1, o1, s1, h1⟩ => ?_⟩
  refine ⟨F1, fr1, r1, A1, (use_ok (h1.rebase s1 (okE.back s1))).mono fun v2 H2 ⟨y, F2, fr2, r2, A2, o2, s2, h2⟩ => ?_⟩
  have o1' := o1.1.step s2 A1
  have h2 := h2.rebase s2 (okE.back s2)
  unfold mulM at h2
  split at h2
  · rename_i i j e1 e2
    have c1 := (rd_cn A2 o1' e1).int
    have c2 := (rd_cn A2 o2.1 e2).int
    subst c1 c2
    split at h2
    · rename_i hf
      refine .inl ?_
      rcases hf.or with hf | hf
      · exact .inl ⟨_, _, rfl, rfl, hf, h2.op A2 (.refl H2) (.int _)⟩
      · exact .inr ⟨_, _, rfl, rfl, hf, h2.op A2 (.refl H2) (.int _)⟩
    · exact h2.elim
  · rename_i ds k e1 e2
    have c2 := (rd_cn A2 o2.1 e2).int
    subst c2
    split at h2
    · rename_i hc
      obtain ⟨l, xs, rfl, hx, hr⟩ := own_lst A2 o1' e1 hc.1
      have hk := rgOk.lt hc.2.1
      refine .inr (.inl ⟨l, k, xs, rfl, rfl, hx, by omega, by omega, by rw [hr.length]; exact hc.2.2, fun p hp => ?_⟩)
      exact h2.op A2 (Grow.upd hp) (RvOK.lst hp (hr.rep k.toNat))
    · exact h2.elim
  · rename_i ds k e1 e2
    have c2 := (rd_cn A2 o2.1 e2).int
    subst c2
    split at h2
    · rename_i hc
      obtain ⟨l, xs, rfl, hx, hr⟩ := (rd_cn A2 o1' e1).tuple
      refine .inr (.inr ⟨l, k, xs, rfl, rfl, hx, fun z => hc.1 ?_, hc.2.1, hc.2.2.1, by rw [hr.length]; exact hc.2.2.2, fun p hp => ?_⟩)
      · subst z
        exact hr.nil_of
      · exact h2.op A2 (Grow.upd hp) (RvOK.tup hp (hr.rep k.toNat))
    · exact h2.elim
  · exact h2.elim

/-! ### range(a, b, c) walked; list(range(..)) -/
def rng3M (xs : List PyData) : Option (List PyData) := match xs with
  | [.int i, .int j, .int c] => if c ≠ 0 ∧ c.natAbs < 1073741824 ∧ Builtin.Range.small i j c = true ∧ 0 ≤ Builtin.Range.rangeSize i j c then some (rngC i c (Builtin.Range.rangeSize i j c).toNat) else none
  | _ => none
theorem gi_rng3 {f : Fr → Rs (List Ev)} (hg : Gl X "range") (hm : X.mg "range" = none) (h : GX X T W [a, b, c] f) (hs : starEach [a, b, c] X.env = (false, eval a X.env) :: starEach [b, c] X.env := by rfl) (hpl : (backTo pos (starEach [b, c] X.env)).any (·.1) = false := by rfl) : GI X T W tg (.Call (.Name "range" p) [a, b, c] [] pos) (srcB rng3M f) := by
  refine PI.weak (pi_range3 hg hm h hs hpl) fun σ H R ⟨F, fr, r, A, q⟩ => ⟨F, fr, r, A, (use_okI q).mono fun vs H1 ⟨xs, F1, fr1, r1, A1, o1, s1, h1⟩ => ?_⟩
  cases e1 : rds fr1 xs with
  | none => simp only [e1] at h1; exact h1.elim
  | some ds =>
    simp only [e1] at h1
    cases e2 : rng3M ds with
    | none => simp only [e2] at h1; exact h1.elim
    | some items =>
      simp only [e2] at h1
      unfold rng3M at e2
      split at e2 <;> first | (cases e2; done) | skip
      split at e2 <;> first | (cases e2; done) | skip
      rename_i i j k hj
      cases e2
      have ca := rds_cn A1 o1 e1
      cases ca with
      | cons c1 t =>
        obtain ⟨v, w, rfl, c2, c3⟩ := t.two
        rw [c1.int, c2.int, c3.int]
        exact ⟨i, j, k, _, rfl, ⟨hj.1, hj.2.1, hj.2.2.1, by omega⟩, h1 _ F1 H1 r1 _ A1 src_rngC trivial s1⟩
def listRgM (i j : Int) : Fr → Rs Ev := fun fr => if rgOk i = true ∧ rgOk j = true ∧ (j - i).toNat ≤ 2 ^ 24 then .ok (.ow (rngD i (j - i).toNat)) fr else .st
def asInt (f : Fr → Rs Ev) : Fr → Rs Int := bnd f fun x fr => match rd fr x with
  | some (.int i) => .ok i fr
  | _ => .st
def okN : OkT Int V := fun _ _ _ _ _ v i => v = .int i
theorem asInt_ok {f : Fr → Rs Ev} {K : PySem.W.Frag} {mg : Str → Option Value} {F : FS} {H : Hp} {fr : Fr} {r : Ro} {σ : L2.St} {Q : VK} (h : cont K mg T okN W F H fr r σ Q (asInt f fr)) : cont K mg T (okE K T) W F H fr r σ (fun v H1 => Q v H1) (f fr) := by
  unfold asInt bnd at h
  cases e : f fr with
  | st => rw [e] at h; exact h
  | ex c w fr' => rw [e] at h; exact h
  | ok x fr1 =>
    rw [e] at h
    intro v F' H' r' A' o s
    dsimp only at h
    cases e1 : rd fr1 x with
    | none => simp only [e1] at h; exact h.elim
    | some d =>
      cases d <;> first | (simp only [e1] at h; exact h.elim) | skip
      rename_i i
      simp only [e1] at h
      have := (rd_cn A' o.1 e1).int
      exact h v F' H' r' A' this s
theorem rgV_rt {K : PySem.W.Frag} {F : FS} {H : Hp} (i j : Int) : RtAll K F H (rgV i j) (rngD i (j - i).toNat) := by
  unfold rgV rngD
  generalize List.range (j - i).toNat = l
  induction l with
  | nil => exact .nil
  | cons n l ih => exact .cons (.int _) ih
theorem ge_listRg1 {q2 p2 : Pos} (hc : X.calm = true) (hg : Gl X "list") (hm : X.mg "list" = none) (hg2 : Gl X "range") (hm2 : X.mg "range" = none) (ha : GE X T W a f) (na : starEach [a] X.env = (false, eval a X.env) :: starEach [] X.env := by rfl)
    (nb : starEach [.Call (.Name "range" p2) [a] [] q2] X.env = (false, eval (.Call (.Name "range" p2) [a] [] q2) X.env) :: starEach [] X.env := by rfl) : GE X T W (.Call (.Name "list" p) [.Call (.Name "range" p2) [a] [] q2] [] pos) (bnd (asInt f) fun j => listRgM 0 j) := by
  refine PE.weak (pe_listRg hc hg hm (prg_1 hg2 hm2 ha na) nb) fun σ H Q ⟨F, fr, r, A, q⟩ => ?_
  refine ⟨F, fr, r, A, (asInt_ok (use_ok (ok := okN) q)).mono fun v H1 ⟨j, F1, fr1, r1, A1, o1, s1, h1⟩ => ?_⟩
  have o1 : v = .int j := o1
  refine ⟨j, o1, ?_⟩
  unfold listRgM at h1
  split at h1
  · rename_i hc
    have hc := And.intro (rgOk.lt hc.1) (And.intro (rgOk.lt hc.2.1) hc.2.2)
    refine ⟨⟨hc.1.1, hc.1.2, hc.2.1.1, hc.2.1.2, hc.2.2⟩, fun p hp => ?_⟩
    exact (h1.rebase s1 (okE.back s1)).op A1 (Grow.upd hp) (RvOK.lst hp (rgV_rt 0 j))
  · exact h1.elim
theorem ge_listRg2 {q2 p2 : Pos} (hc : X.calm = true) (hg : Gl X "list") (hm : X.mg "list" = none) (hg2 : Gl X "range") (hm2 : X.mg "range" = none) (ha : GE X T W a f) (hb : GE X T W b g) (na : starEach [a, b] X.env = (false, eval a X.env) :: starEach [b] X.env := by rfl)
    (nc : starEach [b] X.env = (false, eval b X.env) :: starEach [] X.env := by rfl) (hp : (backTo q2 (starEach [b] X.env)).any (·.1) = false := by rfl)
    (nb : starEach [.Call (.Name "range" p2) [a, b] [] q2] X.env = (false, eval (.Call (.Name "range" p2) [a, b] [] q2) X.env) :: starEach [] X.env := by rfl) : GE X T W (.Call (.Name "list" p) [.Call (.Name "range" p2) [a, b] [] q2] [] pos) (bnd (asInt f) fun i => bnd (asInt g) fun j => listRgM i j) := by
  refine PE.weak (pe_listRg hc hg hm (prg_2 hg2 hm2 ha hb na nc hp) nb) fun σ H Q ⟨F, fr, r, A, q⟩ => ?_
  refine ⟨F, fr, r, A, (asInt_ok (use_ok (ok := okN) q)).mono fun v H1 ⟨i, F1, fr1, r1, A1, o1, s1, h1⟩ => ?_⟩
  have o1 : v = .int i := o1
  refine ⟨F1, fr1, r1, A1, (asInt_ok (use_ok (ok := okN) (h1.rebase s1 (okE.back s1)))).mono fun w H2 ⟨j, F2, fr2, r2, A2, o2, s2, h2⟩ => ?_⟩
  have o2 : w = .int j := o2
  refine ⟨i, j, o1, o2, ?_⟩
  unfold listRgM at h2
  split at h2
  · rename_i hc
    have hc := And.intro (rgOk.lt hc.1) (And.intro (rgOk.lt hc.2.1) hc.2.2)
    refine ⟨⟨hc.1.1, hc.1.2, hc.2.1.1, hc.2.1.2, hc.2.2⟩, fun p hp => ?_⟩
    exact (h2.rebase s2 (okE.back s2)).op A2 (Grow.upd hp) (RvOK.lst hp (rgV_rt i j))
  · exact h2.elim
end
theorem Room.h65 {k : Nat} {A : Around} (r : Room k A) : A.units + 65 < cLine := by have := r.un; omega
theorem Room.h64 {k : Nat} {A : Around} (r : Room k A) : A.units + 64 < cLine := by have := r.un; omega
end FL


set_option Elab.async false
set_option maxRecDepth 100000
set_option maxHeartbeats 4000000
namespace FL
open PySem PySem.Spec PyProof.Rows L2 LamX

/-! ### the end of a law -/
abbrev lamQ (x : Str) : Str := (x ++ ".<locals>.") ++ "<lambda>"
section
variable {P : Program} {w : World} {K : PySem.W.Frag} {mg : Str → Option Value} {h : Heap}
theorem df_mk {x : Str} {st : Stmt} {f : Addr} {oc : Value} {od an : Option Addr} {osl : Array (Option Value)} {kV doc pm cdv ct : Value} (X : K.In h) (G : h.Ns mainGlobals mg) (a : PySem.W.nsIn K mainGlobals x = some (some (.ref f)))
    (l : K.lookup f = some ⟨oc, od, .func (PySem.W.fnOf x x (defArgs st) (defBody st) (defScope st) .none kV doc pm an cdv ct), osl⟩) (c : PySem.W.codeIn K cdv x = true) (k : PySem.W.keepIn K (.ref f) = true) : Df K mg x st :=
  ⟨f, _, PySem.W.mg_of X G a, fun_mk l c k, k⟩
theorem dfc_mk {x : Str} {st : Stmt} {f cc : Addr} {oc : Value} {od an : Option Addr} {osl : Array (Option Value)} {kV doc pm ct : Value} (X : K.In h) (G : h.Ns mainGlobals mg) (a : PySem.W.nsIn K mainGlobals x = some (some (.ref f)))
    (l : K.lookup f = some ⟨oc, od, .func (PySem.W.fnOf x x (defArgs st) (defBody st) (defScope st) .none kV doc pm an (.ref cc) ct), osl⟩) (c : PySem.W.codeIn K (.ref cc) x = true) (k : PySem.W.keepIn K (.ref f) = true) : DfC K mg x st cc :=
  ⟨f, oc, od, an, osl, kV, doc, pm, ct, PySem.W.mg_of X G a, l, c, k⟩
theorem cls_mk {base : Heap} {c : Str} {C fI : Addr} {nm qn : Str} {N : Addr} {bs bm : List Value} {sn : List Str} {sub : List Value} {ab : Bool} {col : Option Bool} {dd : Option Addr} {m0 m1 m2 m3 m5 : Option Value} {fd : FuncData} (X : K.In h) (G : h.Ns mainGlobals mg)
    (a : PySem.W.nsIn K mainGlobals c = some (some (.ref C))) (l : K.lookup C = some (excClassObj nm qn C N bs bm true sn sub ab col dd m0 m1 m2 m3 m5 "ValueError.__new__")) (rv : PySem.HandSPX.refsVE bm = true)
    (sa : PySem.W.findIn K (.ref C) "__setattr__" = some (some (.builtin "object.__setattr__"))) (exC : PySem.W.subIn K (.ref C) (.type "BaseException") = some true) (tyC : PySem.W.typeIn K (.ref C) = some (.type "type")) (kC : PySem.W.keepIn K (.ref C) = true)
    (ga : PySem.W.findIn K (.ref C) "__getattribute__" = some (some (.builtin "BaseException.__getattribute__"))) (gg : PySem.W.findIn K (.ref C) "__getattr__" = some none) (hd : PySem.W.hasDictIn K C = true) (nw : PySem.W.findIn K (.ref C) "what" = some none)
    (iC : PySem.W.findIn K (.ref C) "__init__" = some (some (.ref fI))) (tI : PySem.W.typeIn K (.ref fI) = some (.type "function"))
    (F : FnOk P w K mg base (L2N.CX P w) 1 fI fd ["self", "what"] (spInit K) ∧ Binds K fd ["self", "what"] []) : Cls P w K mg base c :=
  ⟨C, fI, fd, PySem.W.mg_of X G a, ⟨⟨nm, qn, N, bs, bm, sn, sub, ab, col, dd, m0, m1, m2, m3, m5, l, rv⟩, sa, exC, tyC, kC⟩, ⟨ga, gg, exC, hd⟩, nw, iC, tI, F.1, F.2⟩
theorem cint_mk {x : Str} {i : Int} {t : Tok} (X : K.In h) (G : h.Ns mainGlobals mg) (a : PySem.W.nsIn K mainGlobals x = some (some (.int i t))) : ∃ t, mg x = some (.int i t) := ⟨t, PySem.W.mg_of X G a⟩
theorem tabs_of {cs : List (Addr × Addr)} {tb : List (Addr × Str)} {H : Hp} (hm : ∀ p ∈ tb, p.1 ∈ cs.map (·.2)) (hH : ∀ p ∈ cs, H p.2 = some (.tbl #[])) : Tabs tb H := fun p hp => by
  obtain ⟨c, hc, e⟩ := List.mem_map.mp (hm p hp)
  exact TabS.nil (by rw [← e]; exact hH c hc)
/-- the law's promise, from its mirror's answer -/
theorem law_sp {cs : List (Addr × Addr)} {tb : List (Addr × Str)} {m : Md} {n : Nat} (hm : ∀ p ∈ tb, p.1 ∈ cs.map (·.2)) (hans : ∀ ns : List Int, ns.length ≤ n → (∀ z ∈ ns, Builtin.Int.intBits z ≤ 1048576) → m [.d (.list (ns.map PyData.int))] = .ret (.sh (.bool true)) []) :
    ∀ (H : Hp) (a : Addr) (ns : List Int), ns.length ≤ n → (∀ z ∈ ns, Builtin.Int.intBits z ≤ 1048576) → (∀ p ∈ cs, H p.2 = some (.tbl #[])) → SqL K H a (ns.map V.int) → spD K mg tb m [.ref a] H (fun v _ => v = .bl true) fun _ _ _ => False := by
  intro H a ns hl hb hH hS
  refine ⟨fun b => b = a ∧ Rd H a (.lst (ns.map V.int)), [.d (.list (ns.map PyData.int))], [], ⟨fun b hb => ?_, tabs_of hm hH⟩, .d ?_ .nil, ?_⟩
  · obtain ⟨rfl, hr⟩ := hb
    rcases hr with hr | ⟨o, hr⟩
    · exact ⟨_, hr, .lst⟩
    · exact ⟨_, hr, .frz⟩
  · refine .lst (xs := ns.map V.int) ?_ (.of_ints ns)
    rcases hS with hS | hS
    · exact .inl ⟨⟨rfl, hS⟩, hS⟩
    · exact .inr hS
  · rw [hans ns hl hb]
    intro v F' H' _ _ hv _
    cases (show Rt K F' H' v (.bool true) from hv)
    rfl
/-- what a table and its code object must be -/
structure TabF (K : PySem.W.Frag) (h : Heap) (c Pt : Addr) : Prop where
  hd : PySem.W.codeHdIn K c Pt = true
  tb : h.get? Pt = some { cls := .none, data := .fields #[] }
  nk : K.lookup Pt = none
end
end FL


set_option Elab.async false
set_option maxRecDepth 100000
set_option maxHeartbeats 4000000
/-! sorted over a tuple of ints -/
namespace SrtO
open PySem PyProof.Rows Srt
section
variable {prog : Program} {w : World} {A : Around} {E : Value → Shared → Prop} {s : Shared}
theorem collect_tup {l : Addr} {vs : List Value} {Q : List Value → Shared → Prop} (hl : IsTup s.heap l vs.toArray)
    (h : Q vs { s with heap := (s.heap.push (seqObj "list" #[] 0)).update s.heap.objs.size (Obj.mapSeq (· ++ vs.toArray)) }) (hsz : vs.length ≤ sizeLine) :
    wpAny (model prog w) A (collect (.ref l)) Q E s := by
  obtain ⟨o, ho, hc, n, hd⟩ := id hl
  unfold collect
  refine wpAny_bind (wpAny_runValue (codeAny_builtin entry_proto_collect' ?_))
  show wpAny _ _ (do again (.builtin "list.__iadd__" ⟨[← newList [], .ref l], []⟩)) _ _ s
  refine wpAny_bind (wpAny_newList (wpAny_pure ⟨Code.quiet_builtin _ (by decide +kernel), codeAny_builtin entry_list_iadd' ?_⟩))
  show wpAny _ _ (Builtin.List.listExtendWith (.ref s.heap.objs.size) (.ref l) (.ref s.heap.objs.size)) _ _ { s with heap := s.heap.push (seqObj "list" #[] 0) }
  unfold Builtin.List.listExtendWith
  have ho' : (s.heap.push (seqObj "list" #[] 0)).get? l = some o := Heap.get?_push_of_some _ ho
  refine wpAny_bind (wpAny_typeOf (T := "tuple") ⟨o, ho', hc⟩ ?_)
  have ht : (Value.type "tuple" == Value.type "tuple") = true := by rfl
  rw [if_pos (by rw [ht]; simp)]
  refine wpAny_bind (listItems_at ho' hd ?_)
  refine wpAny_bind (listItems_at (xs := #[]) (n := 0) (Heap.get?_push_size _ rfl) rfl ?_)
  rw [if_neg (by simp)]
  refine wpAny_bind (listUpdate_at (xs := #[]) (n := 0) (Heap.get?_push_size _ rfl) rfl ?_ (Nat.zero_le _) (by show (#[] ++ vs.toArray).size ≤ sizeLine + 1; simp only [Array.size_append, List.size_toArray, List.length_nil]; omega))
  refine wpAny_pure ?_
  show wpAny (model prog w) A (do
      let o ← load s.heap.objs.size
      match o.data with
      | .seq xs _ => pure xs.toList
      | _ => unsupported "internal:collect") Q E { s with heap := (s.heap.push (seqObj "list" #[] 0)).update s.heap.objs.size (Obj.mapSeq (· ++ vs.toArray)) }
  refine wpAny_bind (wpAny_load (get?_update_seq (Heap.get?_push_size _ rfl) _) ?_)
  show wpAny _ _ (pure ((#[] : Array Value) ++ vs.toArray).toList) Q E _
  rw [show ((#[] : Array Value) ++ vs.toArray).toList = vs by simp]
  exact wpAny_pure h
theorem sorted_ordT {l : Addr} {vs : List Value} {ltv : Value → Value → Bool} {Q : Value → Shared → Prop} (O : Swo ltv) (hl : IsTup s.heap l vs.toArray) (hz : vs.length ≤ sizeLine)
    (hS : 2 ≤ vs.length → ∀ (h₁ : Heap) (a : Addr), h₁.get? a = some (seqObj "list" vs.toArray 0) → (∀ b o, s.heap.get? b = some o → b ≠ a ∧ h₁.get? b = some o) → SortableO prog w A.in1.in1 { s with heap := h₁ } a vs ltv)
    (h : ∀ out : List Value, Srtd ltv out → Stb ltv out vs → Q (.ref (s.heap.objs.size + 1)) { s with heap := sortedAll s.heap vs out.toArray }) :
    wpAny (model prog w) A (call (.builtin "sorted") [.ref l]) Q E s := by
  refine Calls.call_function_entry kind_sorted plain_sorted entry_sorted (args_sorted1 _) ?_
  unfold Builtin.«sorted»
  refine wpAny_bind (m := checkCount "sorted" 1 1 _) (wpAny_pure ?_)
  refine wpAny_bind (collect_tup hl ?_ hz)
  refine wpAny_bind (wpAny_newList ?_ hz)
  have hsz : ((s.heap.push (seqObj "list" #[] 0)).update s.heap.objs.size (Obj.mapSeq (· ++ vs.toArray))).objs.size = s.heap.objs.size + 1 := by
    rw [Heap.size_update, size_push']
  have hoL : (((s.heap.push (seqObj "list" #[] 0)).update s.heap.objs.size (Obj.mapSeq (· ++ vs.toArray))).push (seqObj "list" vs.toArray 0)).get? (s.heap.objs.size + 1) = some (seqObj "list" vs.toArray 0) := by
    rw [← hsz]; exact Heap.get?_push_size _ rfl
  have keep : ∀ b o, s.heap.get? b = some o → b ≠ s.heap.objs.size + 1 ∧ (((s.heap.push (seqObj "list" #[] 0)).update s.heap.objs.size (Obj.mapSeq (· ++ vs.toArray))).push (seqObj "list" vs.toArray 0)).get? b = some o := fun b o q => by
    have hlt : b < s.heap.objs.size := Heap.lt_size q
    refine ⟨Nat.ne_of_lt (Nat.lt_succ_of_lt hlt), Heap.get?_push_of_some _ ?_⟩
    rw [Heap.get?_update_ne _ _ _ _ (Nat.ne_of_lt hlt)]
    exact Heap.get?_push_of_some _ q
  show wpAny _ _ _ _ _ { s with heap := ((s.heap.push (seqObj "list" #[] 0)).update s.heap.objs.size (Obj.mapSeq (· ++ vs.toArray))).push (seqObj "list" vs.toArray 0) }
  rw [hsz]
  refine wpAny_bind (wpAny_holding (wpAny_call_entry slot_list_sort ⟨_, hoL, rfl⟩ entry_list_sort (list_sort_ord O hoL hz (fun h2 => hS h2 _ _ hoL keep) fun out hs hb => ⟨_, rfl, ?_⟩) (args_list_sort _)))
  exact wpAny_pure ⟨_, rfl, h out hs hb⟩
end
end SrtO
namespace FL
open PySem PySem.Spec PyProof.Rows L2
def rSortedIT (K : PySem.W.Frag) : List V → Hp → VK → Prop := fun vs H Q => ∃ (a : Addr) (ns : List Int), vs = [V.ref a] ∧ SqT K H a (ns.map V.int) ∧
  ∀ (ns' : List Int) (p : Addr), ns'.Perm ns → ns'.Pairwise (· ≤ ·) → H p = none → Q (.ref p) (upd H p (.lst (ns'.map V.int)))
theorem cr_sortedIT {X : Cx} : CallR X (.builtin "sorted") (rSortedIT X.K) := by
  intro pins s σ H vs us Q I r h
  obtain ⟨a, ns, rfl, hs, q⟩ := h
  obtain ⟨its, rv, hl, hz⟩ := I.tuple hs
  rw [Vals.ref1 r]
  have hi := rv.ints
  refine SrtO.sorted_ordT SrtO.swo_int hl (by rw [← rv.length]; exact hz) (fun h2 h₁ a' _ _ => SrtO.ints_sortable hi h2) fun out h1 h2 => ?_
  obtain ⟨k1, k2, k3⟩ := SrtO.ints_out hi h1 h2
  obtain ⟨ep, he'⟩ := PyProof.Rows.sortedAll_at s.heap its out.toArray
  have hlen : ((out.map SrtO.iv).map V.int).length ≤ sizeLine := by
    rw [List.length_map, k2.length_eq]
    rw [List.length_map] at hz
    exact hz
  exact ⟨.ref _, upd H (s.heap.objs.size + 1) (.lst ((out.map SrtO.iv).map V.int)), I.laid (t' := s.toks) (fun _ _ => PyProof.Rows.sortedAll_old) (Nat.le_succ _) ⟨hlen, out, ep, vals_of_ints k1, he'⟩, rfl, q _ _ k2 k3 (I.hok.fresh (Nat.le_succ _))⟩
theorem cr_sortedA {X : Cx} : CallR X (.builtin "sorted") (fun xs H Q => rSortedI X.K xs H Q ∨ rSortedIT X.K xs H Q) := CallR.or cr_sortedI cr_sortedIT
def oSortA : List PyData → Option Ev
  | [.tuple ds] => match intsOf ds with
    | some ns => some (.ow ((sortI ns).map PyData.int))
    | none => none
  | xs => oSortI xs
theorem crm_sortA {K : PySem.W.Frag} : CrM K (fun xs H Q => rSortedI K xs H Q ∨ rSortedIT K xs H Q) oSortA := by
  intro F H vs ds e Q c q k
  unfold oSortA at q
  split at q
  · split at q <;> first | (cases q; done) | skip
    rename_i ns hns
    cases q
    obtain ⟨v, rfl, cn⟩ := c.one
    obtain ⟨a, xs, rfl, h, hr⟩ := cn.tuple
    rw [intsOf_eq hns] at hr
    rw [hr.ints] at h
    refine .inr ⟨a, ns, rfl, h, fun ns' p h1 h2 hp => ?_⟩
    have e : ns' = sortI ns := sorted_unique (h1.trans (sortI_perm ns).symm) h2 (sortI_sorted ns)
    rw [e]
    exact k _ _ (Grow.upd hp) (RvOK.lst hp (.of_ints _))
  · exact .inl (crm_sortI F H vs _ e Q c q k)
end FL


set_option Elab.async false
set_option maxRecDepth 100000
set_option maxHeartbeats 4000000
/-! FLH1: an iterator's end, a tuple taken apart, while an error is handled -/
namespace HotI
open PySem PySem.Spec PyProof.Rows HotX
section
variable {prog : Program} {w : World} {A : Around} {E : Value → Shared → Prop} {s : Shared}
/-- StopIteration raised while x1 is handled -/
theorem stop_hot {α : Type} {x1 : Addr} {Q : α → Shared → Prop} (hot : HotAt A x1 s.heap)
    (fin : ∀ (a : Addr) (h' : Heap), (∀ b o, s.heap.get? b = some o → h'.get? b = some o) → (∃ o, h'.get? a = some o ∧ o.cls = .type "StopIteration") → E (.ref a) { s with heap := h' }) :
    wpAny (model prog w) A (newExc (.type "StopIteration") [] >>= fun e => (raiseNew e : Sem α)) Q E s := by
  obtain ⟨hh, o1, vs1, g1, d1, c1⟩ := hot
  refine wpAny_bind ?_
  simp only [newExc, newTuple]
  refine wpAny_bind (wpAny_newObj_type ?_ (by size_fits))
  refine wpAny_bind (m := firstArgMember _ _) (wpAny_of_eq (a := Value.none) (by first | rfl | (simp only [firstArgMember]; rfl)) ?_)
  refine wpAny_newObj_type ?_ (by size_fits)
  have g2 := Heap.get?_push_of_some ({ cls := .type "tuple", data := .seq ([] : List Value).toArray } : Obj) g1
  refine raiseNew_hot ⟨hh, o1, vs1, Heap.get?_push_of_some _ g2, d1, c1⟩ (Nat.ne_of_lt (Heap.lt_size g2)) (Heap.get?_push_size _ rfl) rfl (by first | (simp; done) | (simp; omega)) ?_
  refine fin _ _ (fun b o e => ?_) ⟨_, Heap.get?_update_self _ (Heap.get?_push_size _ rfl) rfl, rfl⟩
  have e2 := Heap.get?_push_of_some ({ cls := .type "tuple", data := .seq ([] : List Value).toArray } : Obj) e
  rw [Heap.get?_update_other _ _ (Nat.ne_of_gt (Heap.lt_size e2))]
  exact Heap.get?_push_of_some _ e2
theorem hot_ne {x1 it : Addr} {o : Obj} {u v : Value} (hot : HotAt A x1 s.heap) (ho : s.heap.get? it = some o) (hd : o.data = .fields #[u, v]) : x1 ≠ it := fun z => by
  obtain ⟨_, o1, vs1, g1, d1, c1⟩ := hot
  rw [z, ho] at g1
  cases g1
  rw [hd] at d1
  cases d1
  cases c1
theorem hot_upd {x1 it : Addr} {f : Obj → Obj} (hot : HotAt A x1 s.heap) (ne : x1 ≠ it) : HotAt A x1 (s.heap.update it f) := by
  obtain ⟨hh, o1, vs1, g1, d1, c1⟩ := hot
  exact ⟨hh, o1, vs1, by rw [Heap.get?_update_other _ _ ne.symm]; exact g1, d1, c1⟩
/-- a list's iterator at its end -/
theorem list_endH {it l x1 : Addr} {i : Nat} {items} {Q : Option Value → Shared → Prop} (hot : HotAt A x1 s.heap) (hit : s.heap.IsListIter it l i) (hl : s.heap.IsList l items) (hx : items[i]? = none)
    (fin : ∀ h', Heap.ExtBut it s.heap h' → Q none { s with heap := h' }) : wpAny (model prog w) A (pyNext (.ref it)) Q E s := by
  obtain ⟨o, ho, hc, hd⟩ := id hit
  obtain ⟨ol, hol, _, nl, hdl⟩ := hl
  have ne := hot_ne hot ho hd
  unfold pyNext
  refine wpAny_bind (wpAny_attempt (wpAny_callSpecial?_slot (name := Str.ofString "__next__") hit.typeIs slot_listiter_next
    (wpAny_call_entry slot_listiter_next hit.typeIs entry_listiter_next ?_ (args_listiter_next _))))
  show wpAny _ _ (field (.ref it) 0 >>= _) _ _ s
  refine wpAny_bind (wpAny_field ho hd (x := .ref l) rfl ?_)
  show wpAny _ _ (if (Value.ref l == Value.none) = true then _ else _) _ _ s
  rw [if_neg (show ¬ ((Value.ref l == Value.none) = true) from Bool.false_ne_true)]
  show wpAny _ _ (field (.ref it) 1 >>= _) _ _ s
  refine wpAny_bind (wpAny_field ho hd (x := .int i 0) rfl ?_)
  show wpAny _ _ (seqItems? (.ref l) >>= _) _ _ s
  refine wpAny_bind (wpAny_seqItems hol hdl ?_)
  simp only [Int.toNat_natCast, hx]
  refine wpAny_bind (wpAny_rule (wpAny_bind (wpAny_setField ho hd (by simp) ?_)))
  refine stop_hot (hot_upd hot ne) fun a h' keep ⟨oe, ge, ce⟩ => ?_
  refine wpAny_bind (wpAny_isInstance (T := "StopIteration") (b := true) ⟨_, ge, ce⟩ isSubtype_stop ?_)
  exact wpAny_pure (fin _ fun b o hb e => keep b o (by rw [Heap.get?_update_other _ _ (Ne.symm hb)]; exact e))
/-- a tuple's iterator at its end -/
theorem tuple_endH {it t x1 : Addr} {i : Nat} {items : Array Value} {Q : Option Value → Shared → Prop} (hot : HotAt A x1 s.heap) (hit : IsTupIter s.heap it t i) (ht : IsTup s.heap t items) (hx : items[i]? = none)
    (fin : ∀ h', Heap.ExtBut it s.heap h' → Q none { s with heap := h' }) : wpAny (model prog w) A (pyNext (.ref it)) Q E s := by
  obtain ⟨o, ho, hc, hd⟩ := id hit
  obtain ⟨ol, hol, _, nl, hdl⟩ := ht
  have ne := hot_ne hot ho hd
  unfold pyNext
  refine wpAny_bind (wpAny_attempt (wpAny_callSpecial?_slot (name := Str.ofString "__next__") hit.typeIs F.slot_tuple_iterator_next
    (wpAny_call_entry F.slot_tuple_iterator_next hit.typeIs F.entry_tuple_iterator_next ?_ (F.args_tuple_iterator_next_1 _))))
  show wpAny _ _ (field (.ref it) 0 >>= _) _ _ s
  refine wpAny_bind (wpAny_field ho hd (x := .ref t) rfl ?_)
  show wpAny _ _ (if (Value.ref t == Value.none) = true then _ else _) _ _ s
  rw [if_neg (show ¬ ((Value.ref t == Value.none) = true) from Bool.false_ne_true)]
  show wpAny _ _ (field (.ref it) 1 >>= _) _ _ s
  refine wpAny_bind (wpAny_field ho hd (x := .int i 0) rfl ?_)
  show wpAny _ _ (seqItems? (.ref t) >>= _) _ _ s
  refine wpAny_bind (wpAny_seqItems hol hdl ?_)
  simp only [Int.toNat_natCast, hx]
  refine wpAny_bind (wpAny_rule (wpAny_bind (wpAny_setField ho hd (by simp) ?_)))
  refine stop_hot (hot_upd hot ne) fun a h' keep ⟨oe, ge, ce⟩ => ?_
  refine wpAny_bind (wpAny_isInstance (T := "StopIteration") (b := true) ⟨_, ge, ce⟩ isSubtype_stop ?_)
  exact wpAny_pure (fin _ fun b o hb e => keep b o (by rw [Heap.get?_update_other _ _ (Ne.symm hb)]; exact e))
theorem hot_keep {x1 : Addr} {h h' : Heap} (hot : HotAt A x1 h) (k : ∀ o, h.get? x1 = some o → h'.get? x1 = some o) : HotAt A x1 h' := by
  obtain ⟨hh, o1, vs1, g1, d1, c1⟩ := hot
  exact ⟨hh, o1, vs1, k _ g1, d1, c1⟩
theorem hot_lt {x1 : Addr} {h : Heap} (hot : HotAt A x1 h) : x1 < h.objs.size := by
  obtain ⟨_, _, _, g1, _⟩ := hot
  exact Heap.lt_size g1
/-- a tuple is taken apart -/
theorem assign_TupleH {env : Env} {elts : List Expr} {k : Nat} {pos : Pos} {t x1 : Addr} {items : Array Value} {Q : Unit → Shared → Prop} (hot : HotAt A x1 s.heap) (ht : IsTup s.heap t items)
    (many : (assignEach elts env).length = items.size) (nostar : (assignEach elts env).findIdx? (·.1) = none)
    (fin : ∀ h', Heap.ExtBut s.heap.objs.size s.heap h' → wpAny (model prog w) A (assignInOrder ((assignEach elts env).map (·.2)) items.toList) Q E { s with heap := h' }) :
    wpAny (model prog w) A (assign (.Tuple elts k pos) env (.ref t)) Q E s := by
  have old : t ≠ s.heap.objs.size := ht.elim fun o h => Nat.ne_of_lt (Heap.lt_size h.1)
  rw [assign_Tuple]
  refine wpAny_bind (wpAny_standAt ?_)
  unfold unpack
  rw [many, nostar]
  refine wpAny_bind (wpAny_holding ?_)
  unfold unpackItems
  refine wpAny_bind ?_
  unfold notIterableAtAll
  refine wpAny_bind (wpAny_specialOf ht.typeIs slot_tuple_iter.lookup (wpAny_pure ?_))
  simp only [Bool.false_eq_true, if_false]
  refine wpAny_bind (wpAny_holding (iter_tuple ht ?_))
  refine wpAny_bind (wpAny_holding (draw_tuple old items.size 0 _ _ ⟨_, Heap.get?_push_size _ rfl, rfl, rfl⟩ (ht.push _) (by omega) fun h₁ it₁ same₁ => ?_))
  rw [show List.take items.size (List.drop 0 items.toList) = items.toList by rw [List.drop_zero]; exact List.take_of_length_le (by simp), if_neg (by simp)]
  have ht₁ : IsTup h₁ t items := (ht.push _).extBut same₁.extBut old
  have hot₁ : HotAt A x1 h₁ := hot_keep hot fun o e => same₁.extBut _ _ (Nat.ne_of_lt (hot_lt hot)) (Heap.get?_push_of_some _ e)
  refine wpAny_bind (wpAny_holding (tuple_endH hot₁ it₁ ht₁ (by simp) fun h₂ ext₂ => ?_))
  simp only [Option.isSome_none, Bool.false_eq_true, if_false]
  exact wpAny_pure (fin h₂ fun b o hb e => ext₂ b o hb (same₁.extBut b o hb (Heap.get?_push_of_some _ e)))
end
end HotI


set_option Elab.async false
set_option maxRecDepth 100000
set_option maxHeartbeats 4000000
/-! FLH2: list comprehensions within an except suite -/
namespace HotI
open PySem PySem.Spec PyProof.Rows HotX L2
/-- every state of the context bears the handled error, its context None -/
structure Hot (X : Cx) : Prop where
  at_ : ∀ {pins : List (Addr × Obj)} {σ : L2.St} {H : Hp} {s : Shared}, Inv X pins σ H s → ∃ x1, HotAt X.A x1 s.heap ∧ H x1 = none ∧ x1 ≠ X.env.locals ∧ x1 ∉ X.fs
theorem hot_suite {X : Cx} {a : Addr} {oe : Obj} {cls : Value} {d : Option Addr} {pn : List (Addr × Obj)} (hz : L2N.Zn cls d oe) (hf : ∃ vs, oe.data = .fields vs) : Hot (X.suite a ((a, oe) :: pn)) := ⟨fun {pins σ H s} I => by
  obtain ⟨vs, hd⟩ := hf
  obtain ⟨g, n, nl, nf, _⟩ := I.pin (a, oe) (List.mem_append_left _ List.mem_cons_self)
  exact ⟨a, ⟨rfl, oe, vs, g, hd, hz.2.2 vs hd⟩, n, nl, nf⟩⟩
theorem hot_blk {X : Cx} {pins : List (Addr × Obj)} {σ : L2.St} {H : Hp} {s : Shared} {scope : Scope} {ce : Env} {fp : List Addr} {x1 : Addr} (I : Inv X pins σ H s) (hot : HotAt X.A x1 s.heap) (n : H x1 = none) (nl : x1 ≠ X.env.locals) (nf : x1 ∉ X.fs) (np : x1 ∉ fp) (hce : ce.locals = s.heap.objs.size) :
    Hot (X.blk s H scope ce fp) := ⟨fun {pins' σ' H' s'} J => by
  obtain ⟨hh, o, vs, g, hd, hc⟩ := hot
  have ns : x1 ∉ frs X.stack := fun m => by
    rcases List.mem_cons.mp (I.stkSub _ m) with e | e
    · exact nl e
    · exact nf e
  exact ⟨x1, ⟨hh, o, vs, J.base.keep x1 o g n ns np, hd, hc⟩, J.base.free x1 o g n np, by rw [hce]; exact Nat.ne_of_lt (Heap.lt_size g), ns⟩⟩
/-- (a, b, ..) = a tuple -/
theorem pg_tupH {X : Cx} {es : List Expr} {k n : Nat} {pos : Pos} {t : TGs} (hot : Hot X) (h : PGs X es t) (hn : (assignEach es X.env).length = n := by rfl) (hst : (assignEach es X.env).findIdx? (·.1) = none := by rfl) : PG X (.Tuple es k pos) (gTup X.K n t) := by
  refine ⟨fun pins s σ H v u Q I rel ⟨a, xs, ev, hq, many, wish⟩ => ?_⟩
  subst ev
  cases rel
  obtain ⟨x1, hot1, _⟩ := hot.at_ I
  obtain ⟨its, rv, tup, _⟩ := I.tuple hq
  refine assign_TupleH hot1 tup (by simp [hn, ← many, rv.length]) hst fun h' ext => ?_
  exact h.run pins _ σ H xs _ Q (I.kept (t' := s.toks) fun b o e => ext b o (Nat.ne_of_lt (Heap.lt_size e)) e) (by simpa using rv) wish
/-- an iterator while an error is handled -/
structure TurnQ (P : Program) (w : World) (K : PySem.W.Frag) (tg : Expr) (J : It) (it : Addr) (tn : Nat → Heap → Prop) : Prop where
  obj : ∀ i h, tn i h → ∃ (o : Obj) (u v : Value), h.get? it = some o ∧ o.data = .fields #[u, v]
  keep : ∀ i h h', tn i h → (∀ o, h.get? it = some o → h'.get? it = some o) → tn i h'
  item : ∀ (X : Cx), X.prog = P → X.w = w → X.K = K → ∀ (i : Nat) (pins : List (Addr × Obj)) (s : Shared) (σ : L2.St) (H : Hp) (E : Value → Shared → Prop), Inv X pins σ H s → FpOk X pins H it → tn i s.heap → J.go i H →
    wpAny (model P w) X.A (pyNext (.ref it)) (fun r s1 => ∃ u, r = some u ∧ wpAny (model P w) X.A (letOwnedTupleGo tg (.ref it) u) (fun _ s2 => ∃ x H', Inv X pins σ H' s2 ∧ RelV x u ∧ J.yld i H x H' ∧ tn (i + 1) s2.heap ∧ H' it = none) E s1) E s
  done : ∀ (X : Cx), X.prog = P → X.w = w → X.K = K → ∀ (i : Nat) (pins : List (Addr × Obj)) (s : Shared) (σ : L2.St) (H : Hp) (E : Value → Shared → Prop), (∃ x1, HotAt X.A x1 s.heap) → Inv X pins σ H s → FpOk X pins H it → tn i s.heap → J.stop i H →
    wpAny (model P w) X.A (pyNext (.ref it)) (fun r s1 => r = none ∧ Inv X pins σ H s1) E s
  self : ∀ (A : Around) (i : Nat) (s : Shared) (Q : Value → Shared → Prop) (E : Value → Shared → Prop), tn i s.heap → Q (.ref it) s → wpAny (model P w) A (pyIter (.ref it)) Q E s
theorem turn_listQ {P : Program} {w : World} {K : PySem.W.Frag} {tg : Expr} (a it : Addr) : TurnQ P w K tg (Itl K a) it (fun i h => h.IsListIter it a i) where
  obj := fun i h ⟨o, e, _, d⟩ => ⟨o, _, _, e, d⟩
  keep := fun i h h' st k => st.at fun o e => k o e
  item := by
    rintro X rfl rfl rfl i pins s σ H E I ⟨f0, f1, _, f3, f4, f5⟩ st ⟨xs, x, hq, hx⟩
    obtain ⟨its, rv, plain, _⟩ := I.list hq
    obtain ⟨u, hu, ru⟩ := rv.get hx
    refine wpAny_pyNext_list_item st plain.isList (x := u) (by simpa using hu) fun h' st' same => ?_
    have J : Inv X pins σ H { s with heap := h' } := I.turned (t' := s.toks) (fun b o hb e => (same.2 b hb).trans e) f0 f1 f3 f4 f5
    obtain ⟨o, e, c, d⟩ := id st'
    exact ⟨u, rfl, go_of (s := { s with heap := h' }) e c d (by decide) ⟨x, H, J, ru, ⟨rfl, fun ys hy => by rw [I.list_inj hy hq]; exact hx⟩, st', f0⟩⟩
  done := by
    rintro X rfl rfl rfl i pins s σ H E ⟨x1, hot⟩ I ⟨f0, f1, _, f3, f4, f5⟩ st ⟨xs, hq, hx⟩
    obtain ⟨its, rv, plain, _⟩ := I.list hq
    have many := rv.length
    exact list_endH hot st plain.isList (by simp; omega) fun h' ext => ⟨rfl, I.turned (t' := s.toks) (fun b o hb e => ext b o hb e) f0 f1 f3 f4 f5⟩
  self := fun _ _ _ _ _ st h => wpAny_pyIter_listiter st h
/-- what is walked there -/
structure PIQ (X : Cx) (tg iter : Expr) (wi : TI) : Prop where
  run : ∀ (pins : List (Addr × Obj)) (s : Shared) (σ : L2.St) (H : Hp) (R : It → Hp → Prop), Inv X pins σ H s → wi σ H R →
    wpAny (model X.prog X.w) X.A (eval iter X.env) (fun v s1 => wpAny (model X.prog X.w) X.A (pyIter v) (fun itv s2 => ∃ (it : Addr) (tn : Nat → Heap → Prop) (J : It) (H' : Hp), itv = .ref it ∧ Inv X pins σ H' s2 ∧ TurnQ X.prog X.w X.K tg J it tn ∧ tn 0 s2.heap ∧ FpOk X pins H' it ∧ R J H') X.xe s1) X.xe s
def iLst (K : PySem.W.Frag) (te : TE) : TI := fun σ H R => te σ H fun x H1 => ∃ a, x = .ref a ∧ (∃ xs, SqL K H1 a xs) ∧ R (Itl K a) H1
theorem pi_lstQ {X : Cx} {tg e : Expr} {te : TE} (h : PE X e te) : PIQ X tg e (iLst X.K te) := by
  refine ⟨fun pins s σ H R I wish => thn (h.run pins s σ H _ I wish) fun v s1 ⟨x, H1, I1, rel, a, ex, ⟨xs, hq⟩, r⟩ => ?_⟩
  subst ex
  obtain rfl : v = Value.ref a := rel
  obtain ⟨its, rv, plain, _⟩ := I1.list hq
  refine wpAny_pyIter_list plain.isList ?_
  have J : Inv X pins σ H1 { s1 with heap := s1.heap.push { cls := .type "list_iterator", data := .fields #[.ref a, .int 0 0] } } := I1.kept (t' := s1.toks) fun b o e => Heap.get?_push_of_some _ e
  exact ⟨_, _, _, H1, rfl, J, turn_listQ a s1.heap.objs.size, ⟨_, Heap.get?_push_size _ rfl, rfl, rfl⟩, I1.fpOk (Nat.le_refl _) (I1.hok.fresh (Nat.le_refl _)), r⟩
end HotI


set_option Elab.async false
set_option maxRecDepth 100000
set_option maxHeartbeats 4000000
/-! FLH3: the comprehension's rule within an except suite -/
namespace HotI
open PySem PySem.Spec PyProof.Rows HotX L2
section
variable {X : Cx}
theorem pe_lcQ {elt tg iter : Expr} {ifs : List Expr} {scope : Scope} {own : List (Str × Nat)} {pos : Pos} {wi : TI} {g : TG} {tt : TT} {te : TE} (hot : Hot X) (nd : X.N.Nodup) (src : PIQ X tg iter wi) (blk : BlkOk X.N X.env.scope scope own)
    (hg : ∀ (s : Shared) (H : Hp) (C : Addr) (cl : List (Str × Addr)) (fp : List Addr), Hot (X.blk s H scope (compEnvC scope cl C X.env) fp) → PG (X.blk s H scope (compEnvC scope cl C X.env) fp) tg g)
    (ht : ∀ (s : Shared) (H : Hp) (C : Addr) (cl : List (Str × Addr)) (fp : List Addr), PTs (X.blk s H scope (compEnvC scope cl C X.env) fp) ifs tt)
    (he : ∀ (s : Shared) (H : Hp) (C : Addr) (cl : List (Str × Addr)) (fp : List Addr), PE (X.blk s H scope (compEnvC scope cl C X.env) fp) elt te) (plainSet : ∀ x, foldedSetIterable iter X.env x = pure x := by intro _; rfl) :
    PE X (.ListComp elt [⟨tg, iter, ifs, 0⟩] scope pos) (tLc wi g tt te (own.map (·.2))) := by
  refine ⟨fun pins s₀ σ H₀ Q inv₀ wish => ?_⟩
  rw [eval_ListComp]
  have frees : ∀ y ∈ scope.names, y.2 = .free → ∃ c, X.env.cells.lookup y.1 = some c := fun y hy e => (blk.free y hy e).elim (fun k => inv₀.ok.has _ (.inl k)) fun k => inv₀.ok.has _ (.inr k)
  refine wpAny_comprehension_free rfl plainSet (closure_ok frees) blk.kind (fun y hy e => by rw [blk.uniq y hy, e]) (thn (src.run pins s₀ σ H₀ _ inv₀ wish) fun xv s₁ walk => thn walk fun itv s₂ got => ?_)
  obtain ⟨it, tn, J, H₂, rfl, inv₂, T, at0, off, q⟩ := got
  refine wpAny_newObj_type (newEnv_comp ?_) (by show 0 ≤ sizeLine; decide)
  generalize hD : s₂.heap.objs.size = D
  have newD : H₂ D = none := inv₂.hok.fresh (Nat.le_of_eq hD)
  obtain ⟨W, ⟨m0, w0⟩, turn⟩ := q D newD
  obtain ⟨oi, ui, vi, gi, di⟩ := T.obj _ _ at0
  have itD : it ≠ D := by rw [← hD]; exact Nat.ne_of_lt (Heap.lt_size gi)
  -- the list that is made
  generalize hs₃ : ({ s₂ with heap := s₂.heap.push { cls := .type "list", data := .seq ([] : List Value).toArray } } : Shared) = s₃
  have hp₃ : s₃.heap = s₂.heap.push { cls := .type "list", data := .seq ([] : List Value).toArray } := by rw [← hs₃]
  have inv₃ : Inv X pins σ (upd H₂ D (.lst [])) s₃ := by
    subst hs₃ hD
    exact inv₂.laid (t' := s₂.toks) (fun b o e => Heap.get?_push_of_some _ e) (Nat.le_refl _) ⟨Nat.zero_le _, [], 0, .nil, Heap.get?_push_size _ rfl⟩
  have off₃ : FpOk X pins (upd H₂ D (.lst [])) it := ⟨by rw [upd_ne itD]; exact off.1, off.2⟩
  have at₃ : tn 0 s₃.heap := T.keep _ _ _ at0 fun o e => by rw [hp₃]; exact Heap.get?_push_of_some _ e
  have few : ∀ b ∈ [it], FpOk X pins (upd H₂ D (.lst [])) b ∧ b < s₃.heap.objs.size := fun b hb => by
    rw [List.mem_singleton.mp hb]
    obtain ⟨o, _, _, e, _⟩ := T.obj _ _ at₃
    exact ⟨off₃, Heap.lt_size e⟩
  have inv₄ := block_start inv₃ blk nd few
  obtain ⟨x1, hot₃, hn₃, hl₃, hf₃⟩ := hot.at_ inv₃
  have x1it : x1 ∉ [it] := fun z => by
    obtain ⟨o, u, v, e, d⟩ := T.obj _ _ at₃
    exact hot_ne hot₃ e d (List.mem_singleton.mp z)
  have hotB := hot_blk (scope := scope) (ce := compEnvC scope (cellsFrom (s₃.heap.objs.size + 1) scope.names (cloFrom X.env.cells scope.names [])) s₃.heap.objs.size X.env) inv₃ hot₃ hn₃ hl₃ hf₃ x1it rfl
  have pg := hg s₃ (upd H₂ D (.lst [])) s₃.heap.objs.size (cellsFrom (s₃.heap.objs.size + 1) scope.names (cloFrom X.env.cells scope.names [])) [it] hotB
  have pt := ht s₃ (upd H₂ D (.lst [])) s₃.heap.objs.size (cellsFrom (s₃.heap.objs.size + 1) scope.names (cloFrom X.env.cells scope.names [])) [it]
  have pe := he s₃ (upd H₂ D (.lst [])) s₃.heap.objs.size (cellsFrom (s₃.heap.objs.size + 1) scope.names (cloFrom X.env.cells scope.names [])) [it]
  show codeAny _ _ (.compStart (.ListComp elt [⟨tg, iter, ifs, 0⟩] scope pos) 0 (.ref it) (.ref D) (compEnvC scope (cellsFrom (s₃.heap.objs.size + 1) scope.names (cloFrom X.env.cells scope.names [])) s₃.heap.objs.size X.env)) _ { s₃ with heap := pushCells (s₃.heap.push { cls := .type "dict", data := .dict #[] }) scope.names }
  generalize hce : compEnvC scope (cellsFrom (s₃.heap.objs.size + 1) scope.names (cloFrom X.env.cells scope.names [])) s₃.heap.objs.size X.env = ce at inv₄ hotB pg pt pe ⊢
  have ceL : ce.locals = s₃.heap.objs.size := by rw [← hce]; rfl
  generalize hH₃ : upd H₂ D (.lst []) = H₃ at inv₃ inv₄ hotB pg pt pe w0 off₃ few hn₃
  generalize hs₄ : ({ s₃ with heap := pushCells (s₃.heap.push { cls := .type "dict", data := .dict #[] }) scope.names } : Shared) = s₄ at inv₄ ⊢
  have at₄ : tn 0 s₄.heap := T.keep _ _ _ at₃ fun o e => by rw [← hs₄]; exact pushCells_keeps _ _ _ _ (Heap.get?_push_of_some _ e)
  have own₁ : it ∈ [it] := List.mem_singleton.mpr rfl
  have offB : ∀ {σ' : L2.St} {H' : Hp} {s' : Shared}, Inv (X.blk s₃ H₃ scope ce [it]) [] σ' H' s' → H' it = none → FpOk (X.blk s₃ H₃ scope ce [it]) [] H' it := fun {σ' H' s'} K n =>
    ⟨n, (K.ok.exf it own₁).1, K.ok.exfs it own₁, .inl own₁, fun x c e => (K.ok.exf it own₁).2 x c e, fun p hp => absurd (show p ∈ ([] : List (Addr × Obj)) ++ [] from hp) (by simp)⟩
  have loop : codeAny (model X.prog X.w) X.A (.compLoop (.ListComp elt [⟨tg, iter, ifs, 0⟩] scope pos) 0 (.ref it) (.ref D) ce) (compPost (model X.prog X.w) X.A X.xe none (fun u s' => ∃ v H', Inv X pins σ H' s' ∧ RelV v u ∧ Q v H') (.ref D) s₃.heap.objs.size) s₄ := by
    refine compLoop_any (fun n s' => ∃ i H', Inv (X.blk s₃ H₃ scope ce [it]) [] (wipe σ (own.map (·.2))) H' s' ∧ tn i s'.heap ∧ H' it = none ∧ W i n H') ?_ m0 ⟨0, H₃, inv₄, at₄, off₃.1, w0⟩
    rintro n s₅ ⟨i, H₅, inv₅, at₅, n₅, w₅⟩
    rcases turn i n H₅ w₅ with ⟨stops, told⟩ | ⟨goes, Nx, reach, step⟩
    · obtain ⟨y1, hot₅, _⟩ := hotB.at_ inv₅
      refine thnF (T.done (X.blk s₃ H₃ scope ce [it]) rfl rfl rfl i [] s₅ _ H₅ (fun _ _ => False) ⟨y1, hot₅⟩ inv₅ (offB inv₅ n₅) at₅ stops) fun r s₆ ⟨er, inv₆⟩ => ?_
      subst er
      have back : Inv X pins σ H₅ s₆ := inv₃.call' (ch := [it]) inv₆.os inv₆.base inv₆.hok inv₆.bare fun b hb => by
        obtain ⟨⟨_, h1, h2, h3, h4, h5⟩, _⟩ := few b hb
        exact ⟨h3, h1, h4, h5⟩
      have nC : H₅ s₃.heap.objs.size = none := by rw [← ceL]; exact inv₆.free
      obtain ⟨m, ns, _⟩ := inv₆.loc
      have ns : s₆.heap.Ns ce.locals m := ns
      rw [ceL] at ns
      obtain ⟨f0, f1, f2, f3, f4, f5⟩ := inv₃.fpOk (H' := H₅) (Nat.le_refl _) nC
      exact ⟨m, ns, fun h'' same => ⟨.ref D, H₅, back.turned (t' := s₆.toks) (fun b o hb e => (same.2 b hb).trans e) f0 f1 f3 f4 f5, rfl, told⟩⟩
    · refine thnF (T.item (X.blk s₃ H₃ scope ce [it]) rfl rfl rfl i [] s₅ _ H₅ (fun _ _ => False) inv₅ (offB inv₅ n₅) at₅ goes) fun r s₆ ⟨u, er, next⟩ => ?_
      subst er
      refine thnF next fun _ s₇ ⟨x, H₇, inv₇, rel, yld, at₇, n₇⟩ => ?_
      obtain ⟨o₇, u₇, v₇, e₇, d₇⟩ := T.obj _ _ at₇
      have inv₇' := inv₇.pinned (fp := [it]) (fun b hb => by rw [List.mem_singleton.mp hb]; exact offB inv₇ n₇) fun b hb => by
        rw [List.mem_singleton.mp hb]
        exact ⟨o₇, e₇, fun v z => by rw [d₇] at z; cases z⟩
      refine thnF (pg.run _ s₇ _ H₇ x u _ inv₇' rel (step x H₇ yld)) fun _ s₈ ⟨σ₈, H₈, inv₈, wiped, wish₈⟩ => ?_
      refine thnF (pt.run _ s₈ σ₈ H₈ _ inv₈ wish₈) fun b s₉ ⟨H₉, inv₉, wish₉⟩ => ?_
      have on : ∀ {s' : Shared} {H' : Hp}, Inv (X.blk s₃ H₃ scope ce [it]) ([] ++ pinsAt [it] s₇.heap) σ₈ H' s' → Nx H' → ∃ m, m < n ∧ ∃ i H', Inv (X.blk s₃ H₃ scope ce [it]) [] (wipe σ (own.map (·.2))) H' s' ∧ tn i s'.heap ∧ H' it = none ∧ W i m H' := fun {s' H'} K nx => by
        obtain ⟨m', less, w'⟩ := reach H' nx
        have pinned := K.pin (it, o₇) (List.mem_append_right _ (List.mem_append_right _ (mem_pinsAt own₁ e₇)))
        have len : (wipe σ (own.map (·.2))).length = σ₈.length := by rw [← wiped, wipe_length]
        exact ⟨m', less, i + 1, H', (K.unpinned (pins := [])).weak len (fun j v e => by rw [← wiped] at e; exact (wipe_some e).1), T.keep _ _ _ at₇ (fun o e => by rw [e₇] at e; cases e; exact pinned.1), pinned.2.1, w'⟩
      cases b with
      | false =>
        rw [if_neg Bool.false_ne_true] at wish₉
        exact on inv₉ wish₉
      | true =>
        rw [if_pos rfl] at wish₉
        refine thnF (pe.run _ s₉ σ₈ H₉ _ inv₉ wish₉) fun z s₁₀ ⟨yv, H₁₀, inv₁₀, rel₁₀, acc, hacc, room, nx⟩ => ?_
        exact app_ok (X := X.blk s₃ H₃ scope ce [it]) inv₁₀ hacc room rel₁₀ fun s₁₁ inv₁₁ => on inv₁₁ nx
  exact codeAny_compStart_list loop (T.self X.A 0 _ _ _ at₄ loop)
end
end HotI


set_option Elab.async false
set_option maxRecDepth 100000
set_option maxHeartbeats 4000000
/-! FLH4: what the functional layer needs within an except suite: comprehensions, isinstance of the caught error, join -/
namespace FL
open PySem PySem.Spec PyProof.Rows L2

/-! ### a list that is walked -/
def seqML (x : Ev) : Fr → Rs SrcD := fun fr => match x with
  | .al i => match fr[i]? with
    | some (.li _ _ ds) => .ok ⟨ds, [i]⟩ fr
    | some (.sh (.list ds)) => .ok ⟨ds, []⟩ fr
    | _ => .st
  | .sh (.list ds) => .ok ⟨ds, []⟩ fr
  | .ow ds => .ok ⟨ds, []⟩ fr
  | _ => .st
def seqIL (f : Fr → Rs Ev) : Fr → Rs SrcD := bnd f seqML
abbrev GIQ (X : Cx) (T : ThP) (W : WX) (tg e : Expr) (f : Fr → Rs SrcD) : Prop := HotI.PIQ X tg e (tI X.K T X.mg W f)
theorem seqL_data {F F1 : FS} {H H1 : Hp} {fr fr1 : Fr} {r r1 : Ro} {σ : L2.St} {R : It → Hp → Prop} {K : PySem.W.Frag} {mg : Str → Option Value} {T : ThP} {W : WX} {v : V} {ds : List PyData} (A : At K T F1 H1 σ fr1 r1) (h : Rt K F1 H1 v (.list ds)) (s : Step F H fr r F1 H1 fr1 r1)
    (q : contI K T mg W F H fr r σ R (.ok ⟨ds, []⟩ fr1)) : ∃ a, v = .ref a ∧ (∃ xs, SqL K H1 a xs) ∧ R (Itl K a) H1 := by
  have h0 := h
  cases h with
  | @lst a xs ds hq hr => exact ⟨a, rfl, ⟨xs, hq.elim (fun z => .inl z.2) fun z => .inr z⟩, q _ F1 H1 r1 _ A (src_list (lk := none)) h0 s⟩
theorem seqL_ev {F F1 : FS} {H H1 : Hp} {fr fr1 : Fr} {r r1 : Ro} {σ : L2.St} {R : It → Hp → Prop} {K : PySem.W.Frag} {mg : Str → Option Value} {T : ThP} {W : WX} {x : Ev} {v : V} (A : At K T F1 H1 σ fr1 r1) (h : EvOK K T F1 H1 σ r1 v x) (n : New H v x) (s : Step F H fr r F1 H1 fr1 r1)
    (q : contI K T mg W F H fr r σ R (seqML x fr1)) : ∃ a, v = .ref a ∧ (∃ xs, SqL K H1 a xs) ∧ R (Itl K a) H1 := by
  cases x with
  | fn m => exact q.elim
  | sh d =>
    unfold seqML at q
    cases d <;> first | exact q.elim | exact seqL_data A h s q
  | ow ds =>
    obtain ⟨F2, r2, A2, R2, s2⟩ := fz_step s A h n (show fz fr1 (.ow ds) = some (.list ds, fr1) from rfl)
    exact seqL_data A2 R2 s2 q
  | al i =>
    unfold seqML at q
    dsimp only at q
    have h : σ[i]? = some (some v) := h
    split at q
    · rename_i io lk ds es
      obtain ⟨b, q1, q2, q3, xs, q4, q5⟩ := A.slot i _ es
      rw [h] at q2
      cases q2
      refine ⟨b, rfl, ⟨xs, .of q4⟩, q _ F1 H1 r1 _ A (src_list (lk := some i)) ⟨io, ?_, q1⟩ s⟩
      rw [lkAll_get, es]
      show some (lkS [i] i _) = _
      simp [lkS]
    · rename_i ds es
      obtain ⟨_, w, e1, e2⟩ := A.slot i _ es
      rw [h] at e1
      cases e1
      exact seqL_data A e2 s q
    · exact q.elim
section
variable {X : Cx} {T : ThP} {W : WX} {tg iter e elt : Expr} {es ifs : List Expr} {body : List Stmt} {pos p apos : Pos} {vs : List Nat}
theorem giQ_seq {f : Fr → Rs Ev} (h : GE X T W e f) : GIQ X T W tg e (seqIL f) := by
  have g := HotI.pi_lstQ (tg := tg) h
  refine ⟨fun pins s σ H R I ⟨F, fr, r, A, q⟩ => g.run pins s σ H R I ?_⟩
  exact ⟨F, fr, r, A, (use_okI q).mono fun v H1 ⟨x, F1, fr1, r1, A1, o1, s1, h1⟩ => seqL_ev A1 o1.1 o1.2 s1 h1⟩
theorem ggv_tupH {k n : Nat} {ms : List PyData → Fr → Rs Unit} (hot : HotI.Hot X) (h : GGvs X T vs es ms) (hn : (assignEach es X.env).length = n := by rfl) (hst : (assignEach es X.env).findIdx? (·.1) = none := by rfl) :
    GGv X T vs (.Tuple es k pos) (tgT n ms) := by
  refine PG.weak (HotI.pg_tupH hot h hn hst) fun v σ H Q ⟨F0, H0, fr0, r0, F, fr, r, x, s, A, o, nw, q⟩ => ?_
  unfold tgT at q
  cases e : rd fr x with
  | none => rw [e] at q; exact q.elim
  | some d =>
    rw [e] at q
    have cn := rd_cn A o e
    cases d <;> first | (exact q.elim) | skip
    rename_i ds
    obtain ⟨a, xs, rfl, hx, hr⟩ := cn.tuple
    dsimp only at q
    split at q
    · rename_i hl
      exact ⟨a, xs, rfl, hx, by rw [hr.length]; exact hl, F0, H0, fr0, r0, F, fr, r, ds, s, A, hr, q⟩
    · exact q.elim
theorem ge_lcQ {src : Fr → Rs SrcD} {m : Ev → Fr → Rs Unit} {tst : Fr → Rs Bool} {el : Fr → Rs Ev} {scope : Scope} {own : List (Str × Nat)} (hv : own.map (·.2) = vs) (hot : HotI.Hot X) (hN : X.N.Nodup) (hi : GIQ X T W tg iter src) (ok : BlkOk X.N X.env.scope scope own)
    (hg : ∀ (s : Shared) (H : Hp) (C : Addr) (cl : List (Str × Addr)) (fp : List Addr), HotI.Hot (X.blk s H scope (compEnvC scope cl C X.env) fp) → GGv (X.blk s H scope (compEnvC scope cl C X.env) fp) T vs tg m) (ht : ∀ (s : Shared) (H : Hp) (C : Addr) (cl : List (Str × Addr)) (fp : List Addr), GTs (X.blk s H scope (compEnvC scope cl C X.env) fp) T (fun _ _ _ _ => False) ifs tst)
    (he : ∀ (s : Shared) (H : Hp) (C : Addr) (cl : List (Str × Addr)) (fp : List Addr), GE (X.blk s H scope (compEnvC scope cl C X.env) fp) T (fun _ _ _ _ => False) elt el) (hs : ∀ x, foldedSetIterable iter X.env x = pure x := by intro _; rfl) :
    GE X T W (.ListComp elt [⟨tg, iter, ifs, 0⟩] scope pos) (lcE vs src m tst el) := by
  subst hv
  exact PE.weak (HotI.pe_lcQ hot hN hi ok hg ht he hs) fun σ H Q q => lc_reads σ H Q q

/-! ### " ".join(texts) -/
def strsOf : List PyData → Option (List Str)
  | [] => some []
  | .str s :: r => (strsOf r).map (s :: ·)
  | _ => none
theorem strsOf_map : ∀ (l : List Str), strsOf (l.map PyData.str) = some l
  | [] => rfl
  | s :: r => by simp [strsOf, strsOf_map r]
theorem strsOf_eq : ∀ {ds : List PyData} {l : List Str}, strsOf ds = some l → ds = l.map PyData.str
  | [], _, h => by cases h; rfl
  | .str s :: r, l, h => by
    simp only [strsOf, Option.map_eq_some_iff] at h
    obtain ⟨m, h1, rfl⟩ := h
    rw [strsOf_eq h1]
    rfl
  | .none :: _, _, h => by cases h
  | .bool _ :: _, _, h => by cases h
  | .int _ :: _, _, h => by cases h
  | .list _ :: _, _, h => by cases h
  | .tuple _ :: _, _, h => by cases h
  | .dict _ :: _, _, h => by cases h
theorem RtAll.strs {K : PySem.W.Frag} {F : FS} {H : Hp} : ∀ {vs : List V} {l : List Str}, RtAll K F H vs (l.map PyData.str) → vs = l.map V.str
  | _, [], .nil => rfl
  | _, n :: r, .cons h t => by
    cases h
    rw [RtAll.strs t]
    rfl
def joinD (a : Str) (d : PyData) : Option Str := match d with
  | .list ds => match strsOf ds with
    | some ys => if (ys.map (·.length)).sum + ys.length * a.length ≤ 16777216 then some (Txt.join a ys) else none
    | none => none
  | .tuple ds => match strsOf ds with
    | some ys => if (ys.map (·.length)).sum + ys.length * a.length ≤ 16777216 then some (Txt.join a ys) else none
    | none => none
  | _ => none
/-- sep.join(xs), sep a written text -/
def joinS (a : Str) (f : Fr → Rs Ev) : Fr → Rs Ev := bnd f fun x fr => match rd fr x with
  | some d => match joinD a d with
    | some s => .ok (.sh (.str s)) fr
    | none => .st
  | none => .st
theorem ge_join {a : Str} {k : Nat} {f : Fr → Rs Ev} (he : GE X T W e f) (hs : starEach [e] X.env = [(false, eval e X.env)] := by rfl) (hbase : attributeBase (.Constant (.str a) k p) "join" X.env (eval (.Constant (.str a) k p) X.env) = eval (.Constant (.str a) k p) X.env := by rfl) (hline : (apos.endLine == pos.line) = true := by rfl) :
    GE X T W (.Call (.Attribute (.Constant (.str a) k p) "join" apos) [e] [] pos) (joinS a f) := by
  refine PE.weak (pe_join pe_str he hs hbase hline) fun σ H Q ⟨F, fr, r, A, q⟩ => ?_
  refine ⟨⟨a, rfl⟩, F, fr, r, A, (use_ok q).mono fun v H1 ⟨x, F1, fr1, r1, A1, o1, s1, h1⟩ => ?_⟩
  cases e1 : rd fr1 x with
  | none => simp only [e1] at h1; exact h1.elim
  | some d =>
    simp only [e1] at h1
    have cn := rd_cn A1 o1.1 e1
    cases e2 : joinD a d with
    | none => simp only [e2] at h1; exact h1.elim
    | some s =>
      simp only [e2] at h1
      have fin := h1 (.str s) F1 H1 r1 A1 ⟨.str s, trivial⟩ s1
      unfold joinD at e2
      split at e2
      · split at e2
        · rename_i ys hy
          split at e2
          · rename_i hz
            cases e2
            obtain ⟨b, xs, rfl, h, hr⟩ := cn.list
            rw [strsOf_eq hy] at hr
            rw [hr.strs] at h
            exact ⟨a, b, ys, rfl, rfl, .inl h, hz, fin⟩
          · cases e2
        · cases e2
      · split at e2
        · rename_i ys hy
          split at e2
          · rename_i hz
            cases e2
            obtain ⟨b, xs, rfl, h, hr⟩ := cn.tuple
            rw [strsOf_eq hy] at hr
            rw [hr.strs] at h
            exact ⟨a, b, ys, rfl, rfl, .inr h, hz, fin⟩
          · cases e2
        · cases e2
      · cases e2
end

/-! ### isinstance(the caught error, a class) -/
structure IxC (K : PySem.W.Frag) (C : Addr) : Prop where
  ha : PySem.W.findIn K (.ref C) "__class__" = some (some (.builtin "object.__class__"))
  hm : PySem.W.mroIn K C (.type "object") = some true
structure IxG (K : PySem.W.Frag) : Prop where
  hn : PySem.W.specialIn K (.builtin "object.__class__") "__get__" = some (some (.builtin "getset_descriptor.__get__"))
  ht : PySem.W.takesIn K (.builtin "object.__class__") = some true
def rIsD (K : PySem.W.Frag) (a : Addr) (cls : Value) (d : Option Addr) : List V → Hp → VK → Prop := fun xs H Q => ∃ (C C2 dd : Addr) (v : V) (b : Bool), xs = [.ref a, .ref C2] ∧ cls = .ref C ∧ d = some dd ∧ H dd = some (.xd [("what", v)]) ∧ XfC K C ∧ IxC K C ∧ PySem.W.kitOne K (.ref C) (.ref C2) = some b ∧ Q (.bl b) H
theorem call_isD {X : Cx} {a : Addr} {oe : Obj} {cls : Value} {d : Option Addr} {pn : List (Addr × Obj)} (G : IxG X.K) (hz : L2N.Zn cls d oe) (hf : ∃ vs, oe.data = .fields vs) : CallR (X.suite a ((a, oe) :: pn)) (.builtin "isinstance") (rIsD X.K a cls d) := by
  intro pins s σ H xs us Q I r h
  obtain ⟨C, C2, dd, v, b, rfl, rfl, rfl, hd, xc, ic, e, q⟩ := h
  obtain ⟨u1, u2, rfl, r1, r2⟩ := vals2 r
  cases (show u1 = Value.ref a from r1)
  cases (show u2 = Value.ref C2 from r2)
  obtain ⟨hget, _⟩ := I.pin (a, oe) (List.mem_append.mpr (.inl List.mem_cons_self))
  obtain ⟨vs, hv⟩ := hf
  have hx : ObjOk X.prog X.w H s.heap dd (.xd [("what", v)]) := I.hok dd _ hd
  obtain ⟨mA, hns, hr⟩ := hx
  obtain ⟨od, ho, hl⟩ := lookIn_ns hns
  have J : PySem.W.InstAt s.heap a oe C (some od) := ⟨hget, hz.1, by unfold PySem.W.notCls; rw [hv] <;> rfl, by rw [hz.2.1]; exact ho⟩
  have hcl : (PySem.W.clsIn X.K C).isSome = true := by obtain ⟨cd, hc, _⟩ := PySem.W.any_some xc.hdC; rw [hc]; rfl
  exact PySem.W.kia_one (PySem.W.kitx_exc hcl xc.ga xc.gg xc.exC ic.ha G.hn G.ht ic.hm) I.kIn J e (fun z => nomatch z) fun tk => ⟨.bl b, H, I.kept (t' := tk) fun _ _ z => z, rfl, q⟩
def isXc (sub : Str → Str → Option Bool) (i : Nat) (k : Str) : Fr → Rs Ev := fun fr => match fr[i]? with
  | some (.fn (.xc c w)) => match sub c k with
    | some b => .ok (.sh (.bool b)) fr
    | none => .st
  | _ => .st
/-- which class is below which, as isinstance asks -/
def KitT (K : PySem.W.Frag) (mg : Str → Option Value) (l : List (Str × Str × Bool)) : Prop := ∀ p ∈ l, ∃ C C2 : Addr, mg p.1 = some (.ref C) ∧ mg p.2.1 = some (.ref C2) ∧ XfC K C ∧ IxC K C ∧ PySem.W.kitOne K (.ref C) (.ref C2) = some p.2.2
section
variable {X : Cx} {T : ThP} {W : WX} {pos p : Pos}
theorem ge_isX {l : List (Str × Str × Bool)} {a : Addr} {oe : Obj} {cls : Value} {d : Option Addr} {pn : List (Addr × Obj)} {x k : Str} {i : Nat} {px pk : Pos} (hT : xcOnly T) (G : IxG X.K) (xk : KitT X.K X.mg l) (hz : L2N.Zn cls d oe) (hf : ∃ vs, oe.data = .fields vs)
    (hv : PE (X.suite a ((a, oe) :: pn)) (.Name x px) (tVar i)) (hg : Gl (X.suite a ((a, oe) :: pn)) "isinstance") (hm : X.mg "isinstance" = none) (hgk : Gl (X.suite a ((a, oe) :: pn)) k) (hmk : ∃ C2 : Addr, X.mg k = some (.ref C2))
    (hdk : (k == ("__debug__" : Str)) = false := by decide)
    (hs : starEach [.Name x px, .Name k pk] X.env = (false, eval (.Name x px) X.env) :: starEach [.Name k pk] X.env := by rfl) (hs2 : starEach [.Name k pk] X.env = (false, eval (.Name k pk) X.env) :: starEach [] X.env := by rfl) (hpl : (backTo pos (starEach [.Name k pk] X.env)).any (·.1) = false := by rfl) :
    GE (X.suite a ((a, oe) :: pn)) (T.xc X.K X.mg a cls d) W (.Call (.Name "isinstance" p) [.Name x px, .Name k pk] [] pos) (isXc (subF l) i k) := by
  obtain ⟨C2, hk⟩ := hmk
  refine PE.weak (pe_callB (call_isD (X := X) G hz hf) hg hm rfl (pa_cons hv (pa_cons (pe_glob (v := .ref C2) hgk hk rfl hdk) pa_nil hs2) hs) (by decide) (by decide) hs hpl) fun σ H Q ⟨F, fr, r, A, q⟩ => ?_
  unfold isXc at q
  split at q
  · rename_i c w es
    obtain ⟨_, v, e1, e2⟩ := A.slot i _ es
    rcases e2 with e2 | ⟨c', w', C', dd, vv, em, ev, hmc, ec, ed, eh, er⟩
    · exact (hT _ _ _ _ _ e2).elim
    · cases em
      split at q
      · rename_i b hsub
        obtain ⟨D, D2, k1, k2, k3, k4, k5⟩ := xk _ (subF_mem hsub)
        have z1 := k1.symm.trans hmc
        have z2 := k2.symm.trans hk
        cases z1
        cases z2
        subst ev
        exact ⟨.ref a, e1, ⟨_, _, dd, vv, b, rfl, ec, ed, eh, k3, k4, k5, q (.bl b) F H r A ⟨.bl b, trivial⟩ Step.refl⟩⟩
      · exact q.elim
  · exact q.elim
end
end FL


set_option Elab.async false
set_option maxRecDepth 100000
set_option maxHeartbeats 4000000
/-! FLH5: min over a list of pairs of numbers, `is True`, a written tuple of numbers -/
namespace FL
open PySem PySem.Spec PyProof.Rows L2

/-! ### min(list of data) -/
def rMinD (K : PySem.W.Frag) : List V → Hp → VK → Prop := fun vs H Q => ∃ (a : Addr) (xs : List V) (d : PyData) (ds : List PyData), vs = [V.ref a] ∧ SqL K H a xs ∧ DpAll K H xs (d :: ds) ∧ PySem.W.AlikeAll (d :: ds) ∧ PyData.depthAll (d :: ds) ≤ 60 ∧
  ∀ (i : Nat) (v : V), xs[i]? = some v → (d :: ds)[i]? = some (PySem.W.minD d ds) → Q v H
theorem cr_minD {X : Cx} (hc : X.calm = true) (hu : X.A.units + 64 < cLine) : CallR X (.builtin "min") (rMinD X.K) := by
  intro pins s σ H vs us Q I r h
  obtain ⟨a, xs, d, ds, rfl, hs, hd, ha, hz, q⟩ := h
  obtain ⟨its, rv, hl, _⟩ := I.list hs
  rw [Vals.ref1 r]
  obtain ⟨as, hr⟩ := Dp.readsAll I (d :: ds) xs its hd rv
  refine PySem.W.min_list_data (I.ok.hd hc) hl.isList (by simpa using hr) ha (by omega) fun i u h' tk bs hi hr' hk => ?_
  have hi' : its[i]? = some u := by simpa using hi
  have hlen := rv.length
  have hlt : i < xs.length := by rw [hlen]; exact (List.getElem?_eq_some_iff.mp hi').1
  obtain ⟨u', hu', ru⟩ := rv.get (List.getElem?_eq_getElem hlt)
  rw [hi'] at hu'
  cases hu'
  obtain ⟨bs', r1, hlt', _⟩ := PySem.W.readsAll_at hr i u hi'
  have r2 := PySem.W.reads_keeps hk r1
  obtain ⟨e, _⟩ := Reads.unique r2 _ _ hr'
  refine ⟨xs[i], H, I.kept hk, ru, q i _ (List.getElem?_eq_getElem hlt) ?_⟩
  rw [List.getElem?_eq_getElem hlt', ← e]
  simp [List.getD, List.getElem?_eq_getElem hlt']
/-- pairs of numbers -/
def pairsOf : List PyData → Option (List (Int × Int))
  | [] => some []
  | .tuple [.int a, .int b] :: r => (pairsOf r).map ((a, b) :: ·)
  | _ => none
def pD (p : Int × Int) : PyData := .tuple [.int p.1, .int p.2]
theorem pairsOf_eq : ∀ {ds : List PyData} {ps : List (Int × Int)}, pairsOf ds = some ps → ds = ps.map pD
  | [], _, h => by cases h; rfl
  | d :: r, ps, h => by
    unfold pairsOf at h
    split at h
    · rename_i e; cases e
    · rename_i a b r' e
      cases e
      rw [Option.map_eq_some_iff] at h
      obtain ⟨m, h1, rfl⟩ := h
      rw [pairsOf_eq h1]
      rfl
    · cases h
theorem pairsOf_map : ∀ (ps : List (Int × Int)), pairsOf (ps.map pD) = some ps
  | [] => rfl
  | p :: r => by simp [pD, pairsOf, pairsOf_map r]
/-- the lesser pair -/
def ltP (p q : Int × Int) : Bool := decide (p.1 < q.1) || (p.1 == q.1 && decide (p.2 < q.2))
def minP : (Int × Int) → List (Int × Int) → (Int × Int)
  | p, [] => p
  | p, q :: r => minP (if ltP q p then q else p) r
theorem dataLt_pD (p q : Int × Int) : PySem.W.dataLt (pD p) (pD q) = ltP p q := by
  obtain ⟨a, b⟩ := p
  obtain ⟨c, d⟩ := q
  show PySem.W.dataLt (.tuple [.int a, .int b]) (.tuple [.int c, .int d]) = _
  rw [PySem.W.dataLt_tuple]
  unfold ltP
  dsimp only
  by_cases h : a = c
  · subst h
    rw [PySem.W.dataLt_all_yes (by simp [PySem.W.alike]) (by simp [PyData.eqv])]
    by_cases h2 : b = d
    · subst h2
      rw [PySem.W.dataLt_all_yes (by simp [PySem.W.alike]) (by simp [PyData.eqv])]
      simp [PySem.W.keyToksAll, PyProof.Rows.lexLt, PyProof.Rows.itemOrd, PyProof.Rows.itemLt]
    · rw [PySem.W.dataLt_all_no (by simp [PySem.W.alike]) (by simp [PyData.eqv, h2]), PySem.W.dataLt_int]
      simp
  · rw [PySem.W.dataLt_all_no (by simp [PySem.W.alike]) (by simp [PyData.eqv, h]), PySem.W.dataLt_int]
    simp [h]
theorem minD_pairs : ∀ (ps : List (Int × Int)) (p : Int × Int), PySem.W.minD (pD p) (ps.map pD) = pD (minP p ps)
  | [], p => rfl
  | q :: r, p => by
    show List.foldl _ (if PySem.W.dataLt (pD q) (pD p) then pD q else pD p) (r.map pD) = _
    rw [dataLt_pD, show (if ltP q p = true then pD q else pD p) = pD (if ltP q p = true then q else p) by split <;> rfl]
    exact minD_pairs r _
theorem alikeP (ps : List (Int × Int)) : PySem.W.AlikeAll (ps.map pD) := by
  refine ⟨fun x hx y hy => ?_, fun x hx => ?_⟩
  · obtain ⟨p, _, rfl⟩ := List.mem_map.mp hx
    obtain ⟨q, _, rfl⟩ := List.mem_map.mp hy
    simp [pD, PySem.W.alike, PySem.W.alikeAll]
  · obtain ⟨p, _, rfl⟩ := List.mem_map.mp hx
    intro e
    cases e
theorem depthP : ∀ (ps : List (Int × Int)), PyData.depthAll (ps.map pD) ≤ 60
  | [] => by simp [PyData.depthAll]
  | p :: r => by
    have := depthP r
    simp only [List.map_cons, PyData.depthAll, pD, PyData.depth] at this ⊢
    omega
def oMinA : List PyData → Option Ev
  | [.list (d :: ds)] => match pairsOf (d :: ds) with
    | some (p :: ps) => some (.sh (pD (minP p ps)))
    | _ => oMinL [.list (d :: ds)]
  | xs => oMinL xs
theorem cr_minA {X : Cx} (hc : X.calm = true) (hu : X.A.units + 64 < cLine) : CallR X (.builtin "min") (fun xs H Q => rMin X.K xs H Q ∨ rMinD X.K xs H Q) := CallR.or (cr_min hc) (cr_minD hc hu)
theorem crm_minA {K : PySem.W.Frag} : CrM K (fun xs H Q => rMin K xs H Q ∨ rMinD K xs H Q) oMinA := by
  intro F H vs ds e Q c q k
  unfold oMinA at q
  split at q
  · split at q
    · rename_i d ds' p ps hp
      cases q
      obtain ⟨v, rfl, cn⟩ := c.one
      obtain ⟨a, xs, rfl, h, hr⟩ := cn.list
      have e1 := pairsOf_eq hp
      rw [List.map_cons] at e1
      obtain ⟨e2, e3⟩ := List.cons.inj e1
      subst e2 e3
      refine .inr ⟨a, xs, pD p, ps.map pD, rfl, h, hr.dp, alikeP (p :: ps), depthP (p :: ps), fun i v h1 h2 => ?_⟩
      obtain ⟨d, h3, h4⟩ := hr.get' h1
      rw [h2] at h3
      cases h3
      rw [minD_pairs] at h4
      exact k v H (Grow.refl H) h4
    · exact .inl (crm_minL F H vs _ e Q c q k)
  · exact .inl (crm_minL F H vs _ e Q c q k)

/-! ### is True -/
def oIsB (x y : PyData) : Option Ev := match x, y with
  | .bool a, .bool b => some (.sh (.bool (decide (a = b))))
  | _, _ => none
theorem opm_isB {K : PySem.W.Frag} : OpM K rIsB oIsB := by
  intro F H v1 v2 d1 d2 e Q c1 c2 q k
  unfold oIsB at q
  split at q
  · cases q
    exact ⟨_, _, c1.bool, c2.bool, k _ H (.refl H) (.bl _)⟩
  · cases q

/-! ### a written tuple: numbers, texts, tuples of these -/
mutual
def ktB (K : PySem.W.Frag) : PyData → Value → Bool
  | .int i, u => match u with
    | .int j _ => decide (i = j)
    | _ => false
  | .str x, u => match u with
    | .str y _ => decide (x = y)
    | _ => false
  | .bool b, u => match u with
    | .bool c => decide (b = c)
    | _ => false
  | .tuple ds, u => match u with
    | .ref a => match K.lookup a with
      | some o => (o.cls == .type "tuple") && (match o.data with
        | .seq its _ => Nat.ble its.size 1000 && ktAll K ds its.toList
        | _ => false)
      | none => false
    | _ => false
  | _, _ => false
def ktAll (K : PySem.W.Frag) : List PyData → List Value → Bool
  | [], us => us.isEmpty
  | d :: ds, us => match us with
    | u :: r => ktB K d u && ktAll K ds r
    | [] => false
end
mutual
theorem ktB_rt {K : PySem.W.Frag} {F : FS} {H : Hp} : ∀ (d : PyData) (u : Value), ktB K d u = true → ∃ v, RelV v u ∧ Rt K F H v d
  | .int i, u, h => by
    unfold ktB at h
    split at h
    · rename_i j t
      have := of_decide_eq_true h
      subst this
      exact ⟨.int i, ⟨t, rfl⟩, .int i⟩
    · cases h
  | .str x, u, h => by
    unfold ktB at h
    split at h
    · rename_i j t
      have := of_decide_eq_true h
      subst this
      exact ⟨.str x, ⟨t, rfl⟩, .str x⟩
    · cases h
  | .bool b, u, h => by
    unfold ktB at h
    split at h
    · have := of_decide_eq_true h
      subst this
      exact ⟨.bl b, rfl, .bl b⟩
    · cases h
  | .tuple ds, u, h => by
    unfold ktB at h
    split at h
    · rename_i a
      split at h
      · rename_i o ho
        rw [Bool.and_eq_true] at h
        obtain ⟨h1, h2⟩ := h
        split at h2
        · rename_i its n hd
          rw [Bool.and_eq_true] at h2
          obtain ⟨h3, h4⟩ := h2
          obtain ⟨vs, hv, hr⟩ := ktAll_rt (F := F) (H := H) ds its.toList h4
          refine ⟨.ref a, rfl, .tup (.inr ⟨o, its, n, ho, beq_iff_eq.mp h1, hd, ?_, hv⟩) hr⟩
          rw [sizeLine_eq]
          have := Nat.le_of_ble_eq_true h3
          omega
        · cases h2
      · cases h
    · cases h
  | .none, u, h => by unfold ktB at h; cases h
  | .list _, u, h => by unfold ktB at h; cases h
  | .dict _, u, h => by unfold ktB at h; cases h
theorem ktAll_rt {K : PySem.W.Frag} {F : FS} {H : Hp} : ∀ (ds : List PyData) (us : List Value), ktAll K ds us = true → ∃ vs, Vals vs us ∧ RtAll K F H vs ds
  | [], us, h => by
    unfold ktAll at h
    cases us with
    | nil => exact ⟨[], .nil, .nil⟩
    | cons u r => cases h
  | d :: ds, us, h => by
    unfold ktAll at h
    split at h
    · rename_i u r
      rw [Bool.and_eq_true] at h
      obtain ⟨v, h1, h2⟩ := ktB_rt (F := F) (H := H) d u h.1
      obtain ⟨vs, h3, h4⟩ := ktAll_rt (F := F) (H := H) ds r h.2
      exact ⟨v :: vs, .cons h1 h3, .cons h2 h4⟩
    · cases h
end
theorem ctup_rt {K : PySem.W.Frag} {a : Addr} {d : PyData} (h : ktB K d (.ref a) = true) : ∀ F H, Rt K F H (.ref a) d := fun F H => by
  obtain ⟨v, hv, hr⟩ := ktB_rt (F := F) (H := H) d _ h
  cases d with
  | tuple ds =>
    cases hr with
    | tup h1 h2 =>
      cases hv
      exact .tup h1 h2
  | int i => unfold ktB at h; cases h
  | str i => unfold ktB at h; cases h
  | bool i => unfold ktB at h; cases h
  | none => unfold ktB at h; cases h
  | list i => unfold ktB at h; cases h
  | dict i => unfold ktB at h; cases h
section
variable {X : Cx} {T : ThP} {W : WX} {p : Pos}
theorem ge_ctd {x : Str} {d : PyData} (hg : Gl X x) (h : ∃ a : Addr, X.mg x = some (.ref a) ∧ ktB X.K d (.ref a) = true) (hd : (x == ("__debug__" : Str)) = false := by decide) : GE X T W (.Name x p) (ret (.sh d)) := by
  obtain ⟨a, h1, h2⟩ := h
  exact ge_ctup hg h1 (ctup_rt h2) hd
end
/-! ### (a if c else b) as a test -/
def tIfT (t ta tb : TT) : TT := fun σ H Q => t σ H fun c H1 => if c = true then ta σ H1 Q else tb σ H1 Q
theorem pt_ifT {X : Cx} {c a b : Expr} {pos : Pos} {t ta tb : TT} (hc : PT X c t) (ha : PT X a ta) (hb : PT X b tb) : PT X (.IfExp c a b pos) (tIfT t ta tb) := by
  refine ⟨fun pins s σ H Q I h => isTrue_IfExp (thn (hc.run pins s σ H _ I h) fun d s1 ⟨H1, I1, q1⟩ => ?_)⟩
  cases d with
  | true => exact ha.run pins s1 σ H1 Q I1 q1
  | false => exact hb.run pins s1 σ H1 Q I1 q1
theorem gt_ifE {X : Cx} {T : ThP} {W : WX} {c a b : Expr} {pos : Pos} {f g h : Fr → Rs Bool} (hc : GT X T W c f) (ha : GT X T W a g) (hb : GT X T W b h) : GT X T W (.IfExp c a b pos) (iteE f g h) := by
  refine PT.weak (pt_ifT hc ha hb) fun σ H Q ⟨F, fr, r, A, q⟩ => ?_
  refine ⟨F, fr, r, A, (use_ok q).mono fun v1 H1 ⟨x, F1, fr1, r1, A1, o1, s1, h1⟩ => ?_⟩
  obtain rfl : v1 = x := o1
  cases v1 with
  | true => exact ⟨F1, fr1, r1, A1, h1.rebase s1 (okB.back s1)⟩
  | false => exact ⟨F1, fr1, r1, A1, h1.rebase s1 (okB.back s1)⟩
theorem kit_mg {K : PySem.W.Frag} {mg : Str → Option Value} {l : List (Str × Str × Bool)} (h : KitT K mg l) {c k : Str} {b : Bool} (m : (c, k, b) ∈ l) : ∃ C2 : Addr, mg k = some (.ref C2) := by
  obtain ⟨_, C2, _, h2, _⟩ := h _ m
  exact ⟨C2, h2⟩
theorem kit_of_xc {P : Program} {w : World} {K : PySem.W.Frag} {mg : Str → Option Value} {base : Heap} {c k : Str} {C C2 : Addr} {b : Bool} (X : Cls P w K mg base c) (hc : mg c = some (.ref C)) (hk : mg k = some (.ref C2)) (ix : IxC K C) (e : PySem.W.kitOne K (.ref C) (.ref C2) = some b) :
    ∃ C C2 : Addr, mg c = some (.ref C) ∧ mg k = some (.ref C2) ∧ XfC K C ∧ IxC K C ∧ PySem.W.kitOne K (.ref C) (.ref C2) = some b := by
  obtain ⟨C', fI, fd, h1, h2, h3, _⟩ := X.ex
  have z := h1.symm.trans hc
  cases z
  exact ⟨C, C2, hc, hk, h3, ix, e⟩
end FL


set_option Elab.async false
set_option maxRecDepth 100000
set_option maxHeartbeats 4000000
namespace K26
open PySem PySem.Spec PyProof.Rows L2 FL LamX
abbrev pw : Program := PySem.Challenge.pw_carriedink_k26_leads_by_division
def top (i : Nat) : Stmt := PySem.Challenge.pw_carriedink_k26_leads_by_division.main.body.getD i (.Pass ⟨0, 0, 0, 0⟩)
def subs : List (Str × Str × Bool) := [("Refused", "Refused", true), ("Refused", "BadMotion", false), ("Refused", "BadDot", false), ("BadMotion", "Refused", true), ("BadMotion", "BadMotion", true), ("BadMotion", "BadDot", false), ("BadDot", "Refused", true), ("BadDot", "BadMotion", false), ("BadDot", "BadDot", true)]
abbrev s_whole : Stmt := top 4
abbrev N_whole : List Str := ["thing", "low", "high"]
theorem sc_whole : FnScope N_whole ["thing", "low", "high"] (defScope s_whole) := ⟨rfl, rfl, rfl, by decide +kernel, rfl, by decide +kernel, by decide +kernel⟩
theorem ab_whole : ArgsOk "whole" s_whole ["thing", "low", "high"] := fun _ _ _ _ _ _ us hl => match us, hl with | [_, _, _], _ => rfl
noncomputable def b_whole : Fr → Rs Fl := (rtS (andV (isiE "int" (nm 0)) (andV (notV (isiE "bool" (nm 0))) (chainM oLe oLe (nm 1) (nm 0) (nm 2)))))
noncomputable def m_whole : Md := mkM 3 3 b_whole
abbrev s_is_free_number : Stmt := top 8
abbrev N_is_free_number : List Str := ["thing"]
theorem sc_is_free_number : FnScope N_is_free_number ["thing"] (defScope s_is_free_number) := ⟨rfl, rfl, rfl, by decide +kernel, rfl, by decide +kernel, by decide +kernel⟩
theorem ab_is_free_number : ArgsOk "is_free_number" s_is_free_number ["thing"] := fun _ _ _ _ _ _ us hl => match us, hl with | [_], _ => rfl
noncomputable def b_is_free_number : Fr → Rs Fl := (rtS (andV (isiE "int" (nm 0)) (notV (isiE "bool" (nm 0)))))
noncomputable def m_is_free_number : Md := mkM 1 1 b_is_free_number
abbrev s_spun : Stmt := top 11
abbrev N_spun : List Str := ["motion", "x", "y", "turns", "flip", "right", "up", "_"]
theorem sc_spun : FnScope N_spun ["motion", "x", "y"] (defScope s_spun) := ⟨rfl, rfl, rfl, by decide +kernel, rfl, by decide +kernel, by decide +kernel⟩
theorem ab_spun : ArgsOk "spun" s_spun ["motion", "x", "y"] := fun _ _ _ _ _ _ us hl => match us, hl with | [_, _, _], _ => rfl
noncomputable def p_spun_1 : Fr → Rs Fl := (parS [1, 2] (evC (bnd (nm 2) negM) (evC (nm 1) (ret []))))
noncomputable def b_spun : Fr → Rs Fl := (seqS (asgS (nm 0) (tgT 4 (tgC (stM 3) (tgC (stM 4) (tgC (stM 5) (tgC (stM 6) tgN)))))) (seqS (iteE (asB (op2 oEq (nm 4) (ret (.sh (.int 1))))) (asgS (bnd (nm 2) negM) (stM 2)) nxS) (seqS (forS (srcB rng1M (evC (nm 3) (ret []))) (stM 7) p_spun_1) (rtS (tupE (argC (op2 oAdd (nm 1) (nm 5)) (argC (op2 oAdd (nm 2) (nm 6)) (ret []))))))))
noncomputable def m_spun : Md := mkM 3 8 b_spun
abbrev s_rise_by : Stmt := top 21
abbrev N_rise_by : List Str := ["way", "motion"]
theorem sc_rise_by : FnScope N_rise_by ["way", "motion"] (defScope s_rise_by) := ⟨rfl, rfl, rfl, by decide +kernel, rfl, by decide +kernel, by decide +kernel⟩
theorem ab_rise_by : ArgsOk "rise_by" s_rise_by ["way", "motion"] := fun _ _ _ _ _ _ us hl => match us, hl with | [_, _], _ => rfl
noncomputable def b_rise_by : Fr → Rs Fl := (rtS (op2 oAdd (mulE (op2 oIx (nm 0) (ret (.sh (.int 0)))) (op2 oIx (nm 1) (ret (.sh (.int 2))))) (mulE (op2 oIx (nm 0) (ret (.sh (.int 1)))) (op2 oIx (nm 1) (ret (.sh (.int 3)))))))
noncomputable def m_rise_by : Md := mkM 2 2 b_rise_by
abbrev s_level_of : Stmt := top 23
abbrev N_level_of : List Str := ["way", "x", "y"]
theorem sc_level_of : FnScope N_level_of ["way", "x", "y"] (defScope s_level_of) := ⟨rfl, rfl, rfl, by decide +kernel, rfl, by decide +kernel, by decide +kernel⟩
theorem ab_level_of : ArgsOk "level_of" s_level_of ["way", "x", "y"] := fun _ _ _ _ _ _ us hl => match us, hl with | [_, _, _], _ => rfl
noncomputable def b_level_of : Fr → Rs Fl := (rtS (op2 oAdd (mulE (op2 oIx (nm 0) (ret (.sh (.int 0)))) (nm 1)) (mulE (op2 oIx (nm 0) (ret (.sh (.int 1)))) (nm 2))))
noncomputable def m_level_of : Md := mkM 3 3 b_level_of
abbrev s__law_yq_is_whole : Stmt := top 29
abbrev N__law_yq_is_whole : List Str := ["thing"]
theorem sc__law_yq_is_whole : FnScope N__law_yq_is_whole ["thing"] (defScope s__law_yq_is_whole) := ⟨rfl, rfl, rfl, by decide +kernel, rfl, by decide +kernel, by decide +kernel⟩
theorem ab__law_yq_is_whole : ArgsOk "_law_yq_is_whole" s__law_yq_is_whole ["thing"] := fun _ _ _ _ _ _ us hl => match us, hl with | [_], _ => rfl
noncomputable def b__law_yq_is_whole : Fr → Rs Fl := (rtS (andV (isiE "int" (nm 0)) (notV (isiE "bool" (nm 0)))))
noncomputable def m__law_yq_is_whole : Md := mkM 1 1 b__law_yq_is_whole
abbrev s__law_moved_dot : Stmt := top 31
abbrev N__law_moved_dot : List Str := ["g", "x", "y", "turns", "flip", "right", "up", "turn"]
theorem sc__law_moved_dot : FnScope N__law_moved_dot ["g", "x", "y"] (defScope s__law_moved_dot) := ⟨rfl, rfl, rfl, by decide +kernel, rfl, by decide +kernel, by decide +kernel⟩
theorem ab__law_moved_dot : ArgsOk "_law_moved_dot" s__law_moved_dot ["g", "x", "y"] := fun _ _ _ _ _ _ us hl => match us, hl with | [_, _, _], _ => rfl
noncomputable def p__law_moved_dot_1 : Fr → Rs Fl := (parS [1, 2] (evC (bnd (nm 2) negM) (evC (nm 1) (ret []))))
noncomputable def b__law_moved_dot : Fr → Rs Fl := (seqS (asgS (nm 0) (tgT 4 (tgC (stM 3) (tgC (stM 4) (tgC (stM 5) (tgC (stM 6) tgN)))))) (seqS (asgS (iteE (asB (op2 oEq (nm 4) (ret (.sh (.int 1))))) (bnd (nm 2) negM) (nm 2)) (stM 2)) (seqS (forS (srcB rng1M (evC (nm 3) (ret []))) (stM 7) p__law_moved_dot_1) (rtS (tupE (argC (op2 oAdd (nm 1) (nm 5)) (argC (op2 oAdd (nm 2) (nm 6)) (ret []))))))))
noncomputable def m__law_moved_dot : Md := mkM 3 8 b__law_moved_dot
abbrev s__law_level : Stmt := top 38
abbrev N__law_level : List Str := ["way", "x", "y"]
theorem sc__law_level : FnScope N__law_level ["way", "x", "y"] (defScope s__law_level) := ⟨rfl, rfl, rfl, by decide +kernel, rfl, by decide +kernel, by decide +kernel⟩
theorem ab__law_level : ArgsOk "_law_level" s__law_level ["way", "x", "y"] := fun _ _ _ _ _ _ us hl => match us, hl with | [_, _, _], _ => rfl
noncomputable def b__law_level : Fr → Rs Fl := (rtS (op2 oAdd (mulE (op2 oIx (nm 0) (ret (.sh (.int 0)))) (nm 1)) (mulE (op2 oIx (nm 0) (ret (.sh (.int 1)))) (nm 2))))
noncomputable def m__law_level : Md := mkM 3 3 b__law_level
abbrev s__law_pool : Stmt := top 42
abbrev N__law_pool : List Str := ["script", "digits", "stirred", "at", "cell"]
theorem sc__law_pool : FnScope N__law_pool ["script"] (defScope s__law_pool) := ⟨rfl, rfl, rfl, by decide +kernel, rfl, by decide +kernel, by decide +kernel⟩
theorem ab__law_pool : ArgsOk "_law_pool" s__law_pool ["script"] := fun _ _ _ _ _ _ us hl => match us, hl with | [_], _ => rfl
noncomputable def p__law_pool_1 : Fr → Rs Fl := (seqS (asgS (callB oInt (evC (callB oMax2 (evC (op2 oIx (nm 0) (nm 3)) (evC (op2 oSub (bnd (ret (.sh (.int 1))) negM) (op2 oIx (nm 0) (nm 3))) (ret [])))) (ret []))) (stM 4)) (seqS (asgS (op2 oMod (callB oInt (evC (op2 oAdd (op2 oAdd (mulE (nm 2) (ret (.sh (.int 48271)))) (op2 oMod (nm 4) (ret (.sh (.int 2147483629))))) (ret (.sh (.int 11)))) (ret []))) (ret (.sh (.int 2147483647)))) (stM 2)) (asgS (iteE (andB (asB (op2 oGe (nm 4) (op2 oPow (ret (.sh (.int 10))) (ret (.sh (.int 12)))))) (asB (op2 oLt (nm 1) (op2 oPow (ret (.sh (.int 10))) (ret (.sh (.int 60))))))) (callB oInt (evC (op2 oAdd (mulE (nm 1) (op2 oPow (ret (.sh (.int 10))) (ret (.sh (.int 60))))) (op2 oMod (nm 4) (op2 oPow (ret (.sh (.int 10))) (ret (.sh (.int 60)))))) (ret []))) (nm 1)) (stM 1))))
noncomputable def b__law_pool : Fr → Rs Fl := (seqS (asgS (tupE (argC (ret (.sh (.int 0))) (argC (ret (.sh (.int 7))) (ret [])))) (tgT 2 (tgC (stM 1) (tgC (stM 2) tgN)))) (seqS (forS (srcB rng1M (evC (callB oLen (evC (nm 0) (ret []))) (ret []))) (stM 3) p__law_pool_1) (rtS (lstE (argC (nm 1) (argC (nm 2) (argC (ret (.sh (.int 0))) (ret []))))))))
noncomputable def m__law_pool : Md := mkM 1 5 b__law_pool
abbrev s__law_take : Stmt := top 43
abbrev N__law_take : List Str := ["jar", "many", "made"]
theorem sc__law_take : FnScope N__law_take ["jar", "many"] (defScope s__law_take) := ⟨rfl, rfl, rfl, by decide +kernel, rfl, by decide +kernel, by decide +kernel⟩
theorem ab__law_take : ArgsOk "_law_take" s__law_take ["jar", "many"] := fun _ _ _ _ _ _ us hl => match us, hl with | [_, _], _ => rfl
noncomputable def b__law_take : Fr → Rs Fl := (seqS (iteE (asB (op2 oGt (op2 oIx (nm 0) (ret (.sh (.int 0)))) (ret (.sh (.int 0))))) (seqS (asgS (op2 oMod (callB oInt (evC (op2 oIx (nm 0) (ret (.sh (.int 0)))) (ret []))) (nm 1)) (stM 2)) (seqS (asgS (op2 oFdiv (op2 oIx (nm 0) (ret (.sh (.int 0)))) (nm 1)) (tgSub (nm 0) (ret (.sh (.int 0))))) (rtS (nm 2)))) nxS) (seqS (asgS (op2 oAdd (op2 oIx (nm 0) (ret (.sh (.int 2)))) (ret (.sh (.int 1)))) (tgSub (nm 0) (ret (.sh (.int 2))))) (seqS (asgS (op2 oMod (callB oInt (evC (op2 oAdd (op2 oAdd (mulE (op2 oIx (nm 0) (ret (.sh (.int 1)))) (ret (.sh (.int 39373)))) (mulE (ret (.sh (.int 7919))) (op2 oIx (nm 0) (ret (.sh (.int 2)))))) (ret (.sh (.int 7)))) (ret []))) (ret (.sh (.int 2147483647)))) (tgSub (nm 0) (ret (.sh (.int 1))))) (rtS (op2 oMod (callB oInt (evC (op2 oFdiv (op2 oMod (callB oInt (evC (mulE (op2 oIx (nm 0) (ret (.sh (.int 1)))) (op2 oIx (nm 0) (ret (.sh (.int 1))))) (ret []))) (ret (.sh (.int 2147483629)))) (ret (.sh (.int 32)))) (ret []))) (nm 1))))))
noncomputable def m__law_take : Md := mkM 2 3 b__law_take
abbrev s__law_ld_heard : Stmt := top 45
abbrev N__law_ld_heard : List Str := ["deed", "odd", "some", "name", "is_one"]
theorem sc__law_ld_heard : FnScope N__law_ld_heard ["deed"] (defScope s__law_ld_heard) := ⟨rfl, rfl, rfl, by decide +kernel, rfl, by decide +kernel, by decide +kernel⟩
theorem ab__law_ld_heard : ArgsOk "_law_ld_heard" s__law_ld_heard ["deed"] := fun _ _ _ _ _ _ us hl => match us, hl with | [_], _ => rfl
def cl__law_ld_heard : List Cl := [("Refused", some 1, (seqS (asgS (lstE (ret [])) (stM 2)) (seqS (exS (extC (nm 2) (lstE (argC (tupE (argC (ret (.sh (.str "BadDot"))) (argC (isXc (subF subs) 1 "BadDot") (ret [])))) (argC (tupE (argC (ret (.sh (.str "BadMotion"))) (argC (isXc (subF subs) 1 "BadMotion") (ret [])))) (ret [])))))) (rtS (tupE (argC (joinS " " (lcE [3, 4] (seqIL (nm 2)) (tgT 2 (tgC (stM 3) (tgC (stM 4) tgN))) (asB (nm 4)) (nm 3))) (argC (whatE (subF subs) 1) (ret []))))))))]
abbrev hd__law_ld_heard : List ExceptHandler := match defBody s__law_ld_heard with | [.Try _ h _ _ _] => h | _ => []
abbrev s__law_ld_in : Stmt := top 47
abbrev N__law_ld_in : List Str := ["dot"]
theorem sc__law_ld_in : FnScope N__law_ld_in ["dot"] (defScope s__law_ld_in) := ⟨rfl, rfl, rfl, by decide +kernel, rfl, by decide +kernel, by decide +kernel⟩
theorem ab__law_ld_in : ArgsOk "_law_ld_in" s__law_ld_in ["dot"] := fun _ _ _ _ _ _ us hl => match us, hl with | [_], _ => rfl
noncomputable def b__law_ld_in : Fr → Rs Fl := (rtS (op2 oLe (callB oMax2 (evC (callB oAbs (evC (op2 oIx (nm 0) (ret (.sh (.int 0)))) (ret []))) (evC (callB oAbs (evC (op2 oIx (nm 0) (ret (.sh (.int 1)))) (ret []))) (ret [])))) (ret (.sh (.int 1000000)))))
noncomputable def m__law_ld_in : Md := mkM 1 1 b__law_ld_in
abbrev s_bad_motion : Stmt := top 9
abbrev N_bad_motion : List Str := ["thing", "is_free", "index", "high"]
theorem sc_bad_motion : FnScope N_bad_motion ["thing", "is_free"] (defScope s_bad_motion) := ⟨rfl, rfl, rfl, by decide +kernel, rfl, by decide +kernel, by decide +kernel⟩
theorem ab_bad_motion : ArgsOk "bad_motion" s_bad_motion ["thing", "is_free"] := fun _ _ _ _ _ _ us hl => match us, hl with | [_, _], _ => rfl
noncomputable def p_bad_motion_1 : Fr → Rs Fl := (iteE (notB (asB (bnd (avC (aD (op2 oIx (nm 0) (nm 2))) (avC (aD (ret (.sh (.int 0)))) (avC (aD (nm 3)) (ret [])))) (callM m_whole)))) (rtS (nm 2)) nxS)
noncomputable def p_bad_motion_2 : Fr → Rs Fl := (iteE (notB (iteE (asB (nm 1)) (asB (bnd (avC (aD (op2 oIx (nm 0) (nm 2))) (ret [])) (callM m_is_free_number))) (asB (bnd (avC (aD (op2 oIx (nm 0) (nm 2))) (avC (aD (bnd (ret (.sh (.int 1000000))) negM)) (avC (aD (ret (.sh (.int 1000000)))) (ret [])))) (callM m_whole))))) (rtS (nm 2)) nxS)
noncomputable def b_bad_motion : Fr → Rs Fl := (seqS (iteE (orB (notB (asB (isiE "tuple" (nm 0)))) (asB (op2 oNe (callB oLen (evC (nm 0) (ret []))) (ret (.sh (.int 4)))))) (rtS (bnd (ret (.sh (.int 1))) negM)) nxS) (seqS (forS (enumI (tupE (argC (ret (.sh (.int 3))) (argC (ret (.sh (.int 1))) (ret []))))) (tgT 2 (tgC (stM 2) (tgC (stM 3) tgN))) p_bad_motion_1) (seqS (forS (seqI (tupE (argC (ret (.sh (.int 2))) (argC (ret (.sh (.int 3))) (ret []))))) (stM 2) p_bad_motion_2) (rtS (ret (.sh .none))))))
noncomputable def m_bad_motion : Md := mkM 2 4 b_bad_motion
abbrev s_joined : Stmt := top 12
abbrev N_joined : List Str := ["one", "two", "turns", "x", "y"]
theorem sc_joined : FnScope N_joined ["one", "two"] (defScope s_joined) := ⟨rfl, rfl, rfl, by decide +kernel, rfl, by decide +kernel, by decide +kernel⟩
theorem ab_joined : ArgsOk "joined" s_joined ["one", "two"] := fun _ _ _ _ _ _ us hl => match us, hl with | [_, _], _ => rfl
noncomputable def b_joined : Fr → Rs Fl := (seqS (asgS (iteE (asB (op2 oEq (op2 oIx (nm 0) (ret (.sh (.int 1)))) (ret (.sh (.int 1))))) (op2 oSub (op2 oIx (nm 0) (ret (.sh (.int 0)))) (op2 oIx (nm 1) (ret (.sh (.int 0))))) (op2 oAdd (op2 oIx (nm 0) (ret (.sh (.int 0)))) (op2 oIx (nm 1) (ret (.sh (.int 0)))))) (stM 2)) (seqS (asgS (bnd (avC (aD (nm 0)) (avC (aD (op2 oIx (nm 1) (ret (.sh (.int 2))))) (avC (aD (op2 oIx (nm 1) (ret (.sh (.int 3))))) (ret [])))) (callM m_spun)) (tgT 2 (tgC (stM 3) (tgC (stM 4) tgN)))) (rtS (tupE (argC (op2 oMod (nm 2) (ret (.sh (.int 4)))) (argC (op2 oMod (op2 oAdd (op2 oIx (nm 0) (ret (.sh (.int 1)))) (op2 oIx (nm 1) (ret (.sh (.int 1))))) (ret (.sh (.int 2)))) (argC (nm 3) (argC (nm 4) (ret [])))))))))
noncomputable def m_joined : Md := mkM 2 5 b_joined
abbrev s_backed : Stmt := top 13
abbrev N_backed : List Str := ["motion", "turns", "flip", "right", "up", "back", "x", "y"]
theorem sc_backed : FnScope N_backed ["motion"] (defScope s_backed) := ⟨rfl, rfl, rfl, by decide +kernel, rfl, by decide +kernel, by decide +kernel⟩
theorem ab_backed : ArgsOk "backed" s_backed ["motion"] := fun _ _ _ _ _ _ us hl => match us, hl with | [_], _ => rfl
noncomputable def b_backed : Fr → Rs Fl := (seqS (asgS (nm 0) (tgT 4 (tgC (stM 1) (tgC (stM 2) (tgC (stM 3) (tgC (stM 4) tgN)))))) (seqS (asgS (iteE (asB (op2 oEq (nm 2) (ret (.sh (.int 1))))) (nm 1) (op2 oMod (bnd (nm 1) negM) (ret (.sh (.int 4))))) (stM 5)) (seqS (asgS (bnd (avC (aD (tupE (argC (nm 5) (argC (nm 2) (argC (ret (.sh (.int 0))) (argC (ret (.sh (.int 0))) (ret []))))))) (avC (aD (nm 3)) (avC (aD (nm 4)) (ret [])))) (callM m_spun)) (tgT 2 (tgC (stM 6) (tgC (stM 7) tgN)))) (rtS (tupE (argC (nm 5) (argC (nm 2) (argC (bnd (nm 6) negM) (argC (bnd (nm 7) negM) (ret []))))))))))
noncomputable def m_backed : Md := mkM 1 8 b_backed
abbrev s_bad_dot : Stmt := top 16
abbrev N_bad_dot : List Str := ["dot", "index"]
theorem sc_bad_dot : FnScope N_bad_dot ["dot"] (defScope s_bad_dot) := ⟨rfl, rfl, rfl, by decide +kernel, rfl, by decide +kernel, by decide +kernel⟩
theorem ab_bad_dot : ArgsOk "bad_dot" s_bad_dot ["dot"] := fun _ _ _ _ _ _ us hl => match us, hl with | [_], _ => rfl
noncomputable def p_bad_dot_1 : Fr → Rs Fl := (iteE (notB (asB (bnd (avC (aD (op2 oIx (nm 0) (nm 1))) (avC (aD (bnd (ret (.sh (.int 1000000))) negM)) (avC (aD (ret (.sh (.int 1000000)))) (ret [])))) (callM m_whole)))) (rtS (nm 1)) nxS)
noncomputable def b_bad_dot : Fr → Rs Fl := (seqS (iteE (orB (notB (asB (isiE "tuple" (nm 0)))) (asB (op2 oNe (callB oLen (evC (nm 0) (ret []))) (ret (.sh (.int 2)))))) (rtS (bnd (ret (.sh (.int 1))) negM)) nxS) (seqS (forS (seqI (tupE (argC (ret (.sh (.int 0))) (argC (ret (.sh (.int 1))) (ret []))))) (stM 1) p_bad_dot_1) (rtS (ret (.sh .none)))))
noncomputable def m_bad_dot : Md := mkM 1 2 b_bad_dot
abbrev s__law_then_motion : Stmt := top 32
abbrev N__law_then_motion : List Str := ["one", "two", "x", "y", "turns"]
theorem sc__law_then_motion : FnScope N__law_then_motion ["one", "two"] (defScope s__law_then_motion) := ⟨rfl, rfl, rfl, by decide +kernel, rfl, by decide +kernel, by decide +kernel⟩
theorem ab__law_then_motion : ArgsOk "_law_then_motion" s__law_then_motion ["one", "two"] := fun _ _ _ _ _ _ us hl => match us, hl with | [_, _], _ => rfl
noncomputable def b__law_then_motion : Fr → Rs Fl := (seqS (asgS (bnd (avC (aD (nm 0)) (avC (aD (op2 oIx (nm 1) (ret (.sh (.int 2))))) (avC (aD (op2 oIx (nm 1) (ret (.sh (.int 3))))) (ret [])))) (callM m__law_moved_dot)) (tgT 2 (tgC (stM 2) (tgC (stM 3) tgN)))) (seqS (asgS (op2 oAdd (op2 oIx (nm 0) (ret (.sh (.int 0)))) (iteE (asB (op2 oEq (op2 oIx (nm 0) (ret (.sh (.int 1)))) (ret (.sh (.int 1))))) (bnd (op2 oIx (nm 1) (ret (.sh (.int 0)))) negM) (op2 oIx (nm 1) (ret (.sh (.int 0)))))) (stM 4)) (rtS (tupE (argC (op2 oMod (nm 4) (ret (.sh (.int 4)))) (argC (op2 oMod (op2 oAdd (op2 oIx (nm 0) (ret (.sh (.int 1)))) (op2 oIx (nm 1) (ret (.sh (.int 1))))) (ret (.sh (.int 2)))) (argC (nm 2) (argC (nm 3) (ret [])))))))))
noncomputable def m__law_then_motion : Md := mkM 2 5 b__law_then_motion
abbrev s__law_back_motion : Stmt := top 33
abbrev N__law_back_motion : List Str := ["g", "turns", "x", "y"]
theorem sc__law_back_motion : FnScope N__law_back_motion ["g"] (defScope s__law_back_motion) := ⟨rfl, rfl, rfl, by decide +kernel, rfl, by decide +kernel, by decide +kernel⟩
theorem ab__law_back_motion : ArgsOk "_law_back_motion" s__law_back_motion ["g"] := fun _ _ _ _ _ _ us hl => match us, hl with | [_], _ => rfl
noncomputable def b__law_back_motion : Fr → Rs Fl := (seqS (asgS (iteE (asB (op2 oEq (op2 oIx (nm 0) (ret (.sh (.int 1)))) (ret (.sh (.int 1))))) (op2 oIx (nm 0) (ret (.sh (.int 0)))) (op2 oMod (bnd (op2 oIx (nm 0) (ret (.sh (.int 0)))) negM) (ret (.sh (.int 4))))) (stM 1)) (seqS (asgS (bnd (avC (aD (tupE (argC (nm 1) (argC (op2 oIx (nm 0) (ret (.sh (.int 1)))) (argC (ret (.sh (.int 0))) (argC (ret (.sh (.int 0))) (ret []))))))) (avC (aD (op2 oIx (nm 0) (ret (.sh (.int 2))))) (avC (aD (op2 oIx (nm 0) (ret (.sh (.int 3))))) (ret [])))) (callM m__law_moved_dot)) (tgT 2 (tgC (stM 2) (tgC (stM 3) tgN)))) (rtS (tupE (argC (nm 1) (argC (op2 oIx (nm 0) (ret (.sh (.int 1)))) (argC (bnd (nm 2) negM) (argC (bnd (nm 3) negM) (ret [])))))))))
noncomputable def m__law_back_motion : Md := mkM 1 4 b__law_back_motion
abbrev s__law_small : Stmt := top 39
abbrev N__law_small : List Str := ["jar", "most"]
theorem sc__law_small : FnScope N__law_small ["jar", "most"] (defScope s__law_small) := ⟨rfl, rfl, rfl, by decide +kernel, rfl, by decide +kernel, by decide +kernel⟩
theorem ab__law_small : ArgsOk "_law_small" s__law_small ["jar", "most"] := fun _ _ _ _ _ _ us hl => match us, hl with | [_, _], _ => rfl
noncomputable def b__law_small : Fr → Rs Fl := (rtS (op2 oSub (bnd (avC (aIO (nm 0)) (avC (aD (op2 oAdd (mulE (ret (.sh (.int 2))) (nm 1)) (ret (.sh (.int 1))))) (ret []))) (callM m__law_take)) (nm 1)))
noncomputable def m__law_small : Md := mkM 2 2 b__law_small
abbrev s__law_one : Stmt := top 44
abbrev N__law_one : List Str := ["jar", "things"]
theorem sc__law_one : FnScope N__law_one ["jar", "things"] (defScope s__law_one) := ⟨rfl, rfl, rfl, by decide +kernel, rfl, by decide +kernel, by decide +kernel⟩
theorem ab__law_one : ArgsOk "_law_one" s__law_one ["jar", "things"] := fun _ _ _ _ _ _ us hl => match us, hl with | [_, _], _ => rfl
noncomputable def b__law_one : Fr → Rs Fl := (rtS (op2 oIx (nm 1) (bnd (avC (aIO (nm 0)) (avC (aD (callB oLen (evC (nm 1) (ret [])))) (ret []))) (callM m__law_take))))
noncomputable def m__law_one : Md := mkM 2 2 b__law_one
abbrev s_made_motion : Stmt := top 10
abbrev N_made_motion : List Str := ["thing", "index"]
theorem sc_made_motion : FnScope N_made_motion ["thing"] (defScope s_made_motion) := ⟨rfl, rfl, rfl, by decide +kernel, rfl, by decide +kernel, by decide +kernel⟩
theorem ab_made_motion : ArgsOk "made_motion" s_made_motion ["thing"] := fun _ _ _ _ _ _ us hl => match us, hl with | [_], _ => rfl
noncomputable def b_made_motion : Fr → Rs Fl := (seqS (asgS (bnd (avC (aD (nm 0)) (avC (aD (ret (.sh (.bool false)))) (ret []))) (callM m_bad_motion)) (stM 1)) (seqS (iteE (asB (op2 oNotN (nm 1) (ret (.sh .none)))) (raiseS "BadMotion" (nm 1)) nxS) (rtS (tupE (argC (op2 oIx (nm 0) (ret (.sh (.int 0)))) (argC (op2 oIx (nm 0) (ret (.sh (.int 1)))) (argC (op2 oIx (nm 0) (ret (.sh (.int 2)))) (argC (op2 oIx (nm 0) (ret (.sh (.int 3)))) (ret [])))))))))
noncomputable def m_made_motion : Md := mkM 1 2 b_made_motion
abbrev s_far_power : Stmt := top 14
abbrev N_far_power : List Str := ["motion", "n", "found", "step", "left"]
theorem sc_far_power : FnScope N_far_power ["motion", "n"] (defScope s_far_power) := ⟨rfl, rfl, rfl, by decide +kernel, rfl, by decide +kernel, by decide +kernel⟩
theorem ab_far_power : ArgsOk "far_power" s_far_power ["motion", "n"] := fun _ _ _ _ _ _ us hl => match us, hl with | [_, _], _ => rfl
noncomputable def p_far_power_1 : Fr → Rs Bool := (asB (op2 oGt (nm 4) (ret (.sh (.int 0)))))
noncomputable def p_far_power_2 : Fr → Rs Fl := (seqS (iteE (asB (op2 oEq (op2 oMod (nm 4) (ret (.sh (.int 2)))) (ret (.sh (.int 1))))) (asgS (bnd (avC (aD (nm 2)) (avC (aD (nm 3)) (ret []))) (callM m_joined)) (stM 2)) nxS) (seqS (asgS (bnd (avC (aD (nm 3)) (avC (aD (nm 3)) (ret []))) (callM m_joined)) (stM 3)) (asgS (op2 oFdiv (nm 4) (ret (.sh (.int 2)))) (stM 4))))
noncomputable def b_far_power : Fr → Rs Fl := (seqS (parS [2, 3, 4] (evC (ret (.sh (.tuple [.int 0, .int 0, .int 0, .int 0]))) (evC (nm 0) (evC (nm 1) (ret []))))) (seqS (iteE (asB (op2 oLt (nm 1) (ret (.sh (.int 0))))) (parS [3, 4] (evC (bnd (avC (aD (nm 0)) (ret [])) (callM m_backed)) (evC (bnd (nm 1) negM) (ret [])))) nxS) (seqS (whileS p_far_power_1 p_far_power_2) (rtS (nm 2)))))
noncomputable def m_far_power : Md := mkM 2 5 b_far_power
abbrev s_asked_dot : Stmt := top 17
abbrev N_asked_dot : List Str := ["dot", "index"]
theorem sc_asked_dot : FnScope N_asked_dot ["dot"] (defScope s_asked_dot) := ⟨rfl, rfl, rfl, by decide +kernel, rfl, by decide +kernel, by decide +kernel⟩
theorem ab_asked_dot : ArgsOk "asked_dot" s_asked_dot ["dot"] := fun _ _ _ _ _ _ us hl => match us, hl with | [_], _ => rfl
noncomputable def b_asked_dot : Fr → Rs Fl := (seqS (asgS (bnd (avC (aD (nm 0)) (ret [])) (callM m_bad_dot)) (stM 1)) (seqS (iteE (asB (op2 oNotN (nm 1) (ret (.sh .none)))) (raiseS "BadDot" (nm 1)) nxS) (rtS (tupE (argC (op2 oIx (nm 0) (ret (.sh (.int 0)))) (argC (op2 oIx (nm 0) (ret (.sh (.int 1)))) (ret [])))))))
noncomputable def m_asked_dot : Md := mkM 1 2 b_asked_dot
abbrev s_raw_way : Stmt := top 18
abbrev N_raw_way : List Str := ["motion", "twice"]
theorem sc_raw_way : FnScope N_raw_way ["motion"] (defScope s_raw_way) := ⟨rfl, rfl, rfl, by decide +kernel, rfl, by decide +kernel, by decide +kernel⟩
theorem ab_raw_way : ArgsOk "raw_way" s_raw_way ["motion"] := fun _ _ _ _ _ _ us hl => match us, hl with | [_], _ => rfl
noncomputable def b_raw_way : Fr → Rs Fl := (seqS (iteE (asB (op2 oEq (op2 oIx (nm 0) (ret (.sh (.int 1)))) (ret (.sh (.int 1))))) (seqS (asgS (bnd (avC (aD (nm 0)) (avC (aD (nm 0)) (ret []))) (callM m_joined)) (stM 1)) (rtS (tupE (argC (op2 oIx (nm 1) (ret (.sh (.int 2)))) (argC (op2 oIx (nm 1) (ret (.sh (.int 3)))) (ret [])))))) nxS) (rtS (iteE (asB (op2 oEq (op2 oIx (nm 0) (ret (.sh (.int 0)))) (ret (.sh (.int 0))))) (tupE (argC (op2 oIx (nm 0) (ret (.sh (.int 2)))) (argC (op2 oIx (nm 0) (ret (.sh (.int 3)))) (ret [])))) (tupE (argC (ret (.sh (.int 0))) (argC (ret (.sh (.int 0))) (ret [])))))))
noncomputable def m_raw_way : Md := mkM 1 2 b_raw_way
abbrev s__law_power_motion : Stmt := top 34
abbrev N__law_power_motion : List Str := ["g", "n", "found", "step", "left_over"]
theorem sc__law_power_motion : FnScope N__law_power_motion ["g", "n"] (defScope s__law_power_motion) := ⟨rfl, rfl, rfl, by decide +kernel, rfl, by decide +kernel, by decide +kernel⟩
theorem ab__law_power_motion : ArgsOk "_law_power_motion" s__law_power_motion ["g", "n"] := fun _ _ _ _ _ _ us hl => match us, hl with | [_, _], _ => rfl
noncomputable def p__law_power_motion_1 : Fr → Rs Bool := (asB (op2 oGt (nm 4) (ret (.sh (.int 0)))))
noncomputable def p__law_power_motion_2 : Fr → Rs Fl := (seqS (asgS (iteE (asB (op2 oEq (op2 oMod (nm 4) (ret (.sh (.int 2)))) (ret (.sh (.int 1))))) (bnd (avC (aD (nm 2)) (avC (aD (nm 3)) (ret []))) (callM m__law_then_motion)) (nm 2)) (stM 2)) (parS [3, 4] (evC (bnd (avC (aD (nm 3)) (avC (aD (nm 3)) (ret []))) (callM m__law_then_motion)) (evC (op2 oFdiv (nm 4) (ret (.sh (.int 2)))) (ret [])))))
noncomputable def b__law_power_motion : Fr → Rs Fl := (seqS (parS [2, 3, 4] (evC (tupE (argC (ret (.sh (.int 0))) (argC (ret (.sh (.int 0))) (argC (ret (.sh (.int 0))) (argC (ret (.sh (.int 0))) (ret [])))))) (evC (iteE (asB (op2 oGe (nm 1) (ret (.sh (.int 0))))) (nm 0) (bnd (avC (aD (nm 0)) (ret [])) (callM m__law_back_motion))) (evC (callB oAbs (evC (nm 1) (ret []))) (ret []))))) (seqS (whileS p__law_power_motion_1 p__law_power_motion_2) (rtS (nm 2))))
noncomputable def m__law_power_motion : Md := mkM 2 5 b__law_power_motion
abbrev s__law_motion_by : Stmt := top 40
abbrev N__law_motion_by : List Str := ["jar", "kind", "most", "a", "b", "turns", "far", "across", "along"]
theorem sc__law_motion_by : FnScope N__law_motion_by ["jar", "kind", "most"] (defScope s__law_motion_by) := ⟨rfl, rfl, rfl, by decide +kernel, rfl, by decide +kernel, by decide +kernel⟩
theorem ab__law_motion_by : ArgsOk "_law_motion_by" s__law_motion_by ["jar", "kind", "most"] := fun _ _ _ _ _ _ us hl => match us, hl with | [_, _, _], _ => rfl
noncomputable def b__law_motion_by : Fr → Rs Fl := (seqS (parS [3, 4] (evC (bnd (avC (aIO (nm 0)) (avC (aD (nm 2)) (ret []))) (callM m__law_small)) (evC (bnd (avC (aIO (nm 0)) (avC (aD (nm 2)) (ret []))) (callM m__law_small)) (ret [])))) (seqS (iteE (asB (op2 oEq (nm 1) (ret (.sh (.str "rest"))))) (rtS (tupE (argC (ret (.sh (.int 0))) (argC (ret (.sh (.int 0))) (argC (ret (.sh (.int 0))) (argC (ret (.sh (.int 0))) (ret []))))))) nxS) (seqS (iteE (asB (op2 oEq (nm 1) (ret (.sh (.str "step"))))) (rtS (iteE (asB (op2 oNe (tupE (argC (nm 3) (argC (nm 4) (ret [])))) (tupE (argC (ret (.sh (.int 0))) (argC (ret (.sh (.int 0))) (ret [])))))) (tupE (argC (ret (.sh (.int 0))) (argC (ret (.sh (.int 0))) (argC (nm 3) (argC (nm 4) (ret [])))))) (tupE (argC (ret (.sh (.int 0))) (argC (ret (.sh (.int 0))) (argC (ret (.sh (.int 1))) (argC (ret (.sh (.int 0))) (ret [])))))))) nxS) (seqS (iteE (asB (op2 oEq (nm 1) (ret (.sh (.str "turn"))))) (rtS (tupE (argC (op2 oAdd (ret (.sh (.int 1))) (bnd (avC (aIO (nm 0)) (avC (aD (ret (.sh (.int 3)))) (ret []))) (callM m__law_take))) (argC (ret (.sh (.int 0))) (argC (nm 3) (argC (nm 4) (ret []))))))) nxS) (seqS (parS [5, 6] (evC (bnd (avC (aIO (nm 0)) (avC (aD (ret (.sh (.int 4)))) (ret []))) (callM m__law_take)) (evC (iteE (asB (op2 oNe (nm 3) (ret (.sh (.int 0))))) (nm 3) (ret (.sh (.int 1)))) (ret [])))) (seqS (asgS (op2 oIx (lstE (argC (tupE (argC (ret (.sh (.int 0))) (argC (nm 4) (ret [])))) (argC (tupE (argC (nm 4) (argC (bnd (nm 4) negM) (ret [])))) (argC (tupE (argC (nm 4) (argC (ret (.sh (.int 0))) (ret [])))) (argC (tupE (argC (nm 4) (argC (nm 4) (ret [])))) (ret [])))))) (nm 5)) (stM 7)) (seqS (asgS (op2 oIx (lstE (argC (tupE (argC (nm 6) (argC (ret (.sh (.int 0))) (ret [])))) (argC (tupE (argC (nm 6) (argC (ret (.sh (.int 0))) (ret [])))) (argC (tupE (argC (ret (.sh (.int 0))) (argC (nm 6) (ret [])))) (argC (tupE (argC (nm 6) (argC (ret (.sh (.int 0))) (ret [])))) (ret [])))))) (nm 5)) (stM 8)) (rtS (op2 oAdd (tupE (argC (nm 5) (argC (ret (.sh (.int 1))) (ret [])))) (iteE (asB (op2 oEq (nm 1) (ret (.sh (.str "mirror"))))) (nm 7) (tupE (argC (op2 oAdd (op2 oIx (nm 7) (ret (.sh (.int 0)))) (op2 oIx (nm 8) (ret (.sh (.int 0))))) (argC (op2 oAdd (op2 oIx (nm 7) (ret (.sh (.int 1)))) (op2 oIx (nm 8) (ret (.sh (.int 1))))) (ret []))))))))))))))
noncomputable def m__law_motion_by : Md := mkM 3 9 b__law_motion_by
abbrev s__law_ld_running : Stmt := top 48
abbrev N__law_ld_running : List Str := ["jar", "far", "off", "some"]
theorem sc__law_ld_running : FnScope N__law_ld_running ["jar"] (defScope s__law_ld_running) := ⟨rfl, rfl, rfl, by decide +kernel, rfl, by decide +kernel, by decide +kernel⟩
theorem ab__law_ld_running : ArgsOk "_law_ld_running" s__law_ld_running ["jar"] := fun _ _ _ _ _ _ us hl => match us, hl with | [_], _ => rfl
noncomputable def b__law_ld_running : Fr → Rs Fl := (seqS (parS [1, 2] (evC (bnd (avC (aIO (nm 0)) (avC (aD (lstE (argC (ret (.sh (.int 1))) (argC (bnd (ret (.sh (.int 1))) negM) (argC (ret (.sh (.int 2))) (argC (ret (.sh (.int 3))) (argC (ret (.sh (.int 40))) (argC (ret (.sh (.int 99999))) (argC (ret (.sh (.int 500000))) (argC (ret (.sh (.int 1000000))) (argC (bnd (ret (.sh (.int 999999))) negM) (ret [])))))))))))) (ret []))) (callM m__law_one)) (evC (bnd (avC (aIO (nm 0)) (avC (aD (ret (.sh (.int 9)))) (ret []))) (callM m__law_small)) (ret [])))) (seqS (asgS (lstE (argC (tupE (argC (ret (.sh (.int 0))) (argC (ret (.sh (.int 0))) (argC (nm 1) (argC (nm 2) (ret [])))))) (argC (tupE (argC (ret (.sh (.int 0))) (argC (ret (.sh (.int 0))) (argC (nm 2) (argC (nm 1) (ret [])))))) (argC (tupE (argC (ret (.sh (.int 0))) (argC (ret (.sh (.int 1))) (argC (nm 1) (argC (nm 2) (ret [])))))) (argC (tupE (argC (ret (.sh (.int 2))) (argC (ret (.sh (.int 1))) (argC (nm 2) (argC (nm 1) (ret [])))))) (argC (tupE (argC (ret (.sh (.int 1))) (argC (ret (.sh (.int 1))) (argC (nm 1) (argC (ret (.sh (.int 0))) (ret [])))))) (argC (tupE (argC (ret (.sh (.int 3))) (argC (ret (.sh (.int 1))) (argC (nm 1) (argC (ret (.sh (.int 0))) (ret [])))))) (ret [])))))))) (stM 3)) (seqS (exS (extC (nm 3) (lstE (argC (tupE (argC (ret (.sh (.int 0))) (argC (ret (.sh (.int 0))) (argC (nm 1) (argC (nm 1) (ret [])))))) (argC (tupE (argC (ret (.sh (.int 1))) (argC (ret (.sh (.int 1))) (argC (ret (.sh (.int 0))) (argC (nm 1) (ret [])))))) (argC (tupE (argC (ret (.sh (.int 3))) (argC (ret (.sh (.int 1))) (argC (ret (.sh (.int 0))) (argC (nm 1) (ret [])))))) (argC (tupE (argC (ret (.sh (.int 0))) (argC (ret (.sh (.int 0))) (argC (nm 1) (argC (ret (.sh (.int 0))) (ret [])))))) (ret [])))))))) (rtS (bnd (avC (aIO (nm 0)) (avC (aD (nm 3)) (ret []))) (callM m__law_one))))))
noncomputable def m__law_ld_running : Md := mkM 1 4 b__law_ld_running
abbrev s_runs : Stmt := top 19
abbrev N_runs : List Str := ["motion"]
theorem sc_runs : FnScope N_runs ["motion"] (defScope s_runs) := ⟨rfl, rfl, rfl, by decide +kernel, rfl, by decide +kernel, by decide +kernel⟩
theorem ab_runs : ArgsOk "runs" s_runs ["motion"] := fun _ _ _ _ _ _ us hl => match us, hl with | [_], _ => rfl
noncomputable def b_runs : Fr → Rs Fl := (rtS (op2 oNe (bnd (avC (aD (nm 0)) (ret [])) (callM m_raw_way)) (tupE (argC (ret (.sh (.int 0))) (argC (ret (.sh (.int 0))) (ret []))))))
noncomputable def m_runs : Md := mkM 1 1 b_runs
abbrev s_running_lead : Stmt := top 25
abbrev N_running_lead : List Str := ["motion", "x", "y", "way", "many", "lead_x", "lead_y"]
theorem sc_running_lead : FnScope N_running_lead ["motion", "x", "y"] (defScope s_running_lead) := ⟨rfl, rfl, rfl, by decide +kernel, rfl, by decide +kernel, by decide +kernel⟩
theorem ab_running_lead : ArgsOk "running_lead" s_running_lead ["motion", "x", "y"] := fun _ _ _ _ _ _ us hl => match us, hl with | [_, _, _], _ => rfl
noncomputable def b_running_lead : Fr → Rs Fl := (seqS (asgS (bnd (avC (aD (nm 0)) (ret [])) (callM m_raw_way)) (stM 3)) (seqS (asgS (op2 oFdiv (bnd (avC (aD (nm 3)) (avC (aD (nm 1)) (avC (aD (nm 2)) (ret [])))) (callM m_level_of)) (bnd (avC (aD (nm 3)) (avC (aD (nm 0)) (ret []))) (callM m_rise_by))) (stM 4)) (seqS (asgS (bnd (avC (aD (bnd (avC (aD (nm 0)) (avC (aD (bnd (nm 4) negM)) (ret []))) (callM m_far_power))) (avC (aD (nm 1)) (avC (aD (nm 2)) (ret [])))) (callM m_spun)) (tgT 2 (tgC (stM 5) (tgC (stM 6) tgN)))) (rtS (tupE (argC (nm 5) (argC (nm 6) (argC (nm 4) (ret [])))))))))
noncomputable def m_running_lead : Md := mkM 3 7 b_running_lead
abbrev s__law_way_of : Stmt := top 35
abbrev N__law_way_of : List Str := ["g", "far"]
theorem sc__law_way_of : FnScope N__law_way_of ["g"] (defScope s__law_way_of) := ⟨rfl, rfl, rfl, by decide +kernel, rfl, by decide +kernel, by decide +kernel⟩
theorem ab__law_way_of : ArgsOk "_law_way_of" s__law_way_of ["g"] := fun _ _ _ _ _ _ us hl => match us, hl with | [_], _ => rfl
noncomputable def b__law_way_of : Fr → Rs Fl := (seqS (asgS (iteE (asB (op2 oEq (slE (nm 0) (ret none) (asI (ret (.sh (.int 2))))) (tupE (argC (ret (.sh (.int 0))) (argC (ret (.sh (.int 0))) (ret [])))))) (nm 0) (bnd (avC (aD (nm 0)) (avC (aD (ret (.sh (.int 2)))) (ret []))) (callM m__law_power_motion))) (stM 1)) (rtS (tupE (argC (op2 oIx (nm 1) (ret (.sh (.int 2)))) (argC (op2 oIx (nm 1) (ret (.sh (.int 3)))) (ret []))))))
noncomputable def m__law_way_of : Md := mkM 1 2 b__law_way_of
abbrev s__law_standing_motion : Stmt := top 41
abbrev N__law_standing_motion : List Str := ["jar", "most"]
theorem sc__law_standing_motion : FnScope N__law_standing_motion ["jar", "most"] (defScope s__law_standing_motion) := ⟨rfl, rfl, rfl, by decide +kernel, rfl, by decide +kernel, by decide +kernel⟩
theorem ab__law_standing_motion : ArgsOk "_law_standing_motion" s__law_standing_motion ["jar", "most"] := fun _ _ _ _ _ _ us hl => match us, hl with | [_, _], _ => rfl
noncomputable def b__law_standing_motion : Fr → Rs Fl := (rtS (bnd (avC (aIO (nm 0)) (avC (aD (bnd (avC (aIO (nm 0)) (avC (aD (lstE (argC (ret (.sh (.str "rest"))) (argC (ret (.sh (.str "turn"))) (argC (ret (.sh (.str "turn"))) (argC (ret (.sh (.str "mirror"))) (ret []))))))) (ret []))) (callM m__law_one))) (avC (aD (nm 1)) (ret [])))) (callM m__law_motion_by)))
noncomputable def m__law_standing_motion : Md := mkM 2 2 b__law_standing_motion
abbrev s_raw_order : Stmt := top 20
abbrev N_raw_order : List Str := ["motion"]
theorem sc_raw_order : FnScope N_raw_order ["motion"] (defScope s_raw_order) := ⟨rfl, rfl, rfl, by decide +kernel, rfl, by decide +kernel, by decide +kernel⟩
theorem ab_raw_order : ArgsOk "raw_order" s_raw_order ["motion"] := fun _ _ _ _ _ _ us hl => match us, hl with | [_], _ => rfl
noncomputable def b_raw_order : Fr → Rs Fl := (seqS (iteE (asB (bnd (avC (aD (nm 0)) (ret [])) (callM m_runs))) (rtS (ret (.sh (.int 0)))) nxS) (seqS (iteE (orB (asB (op2 oEq (op2 oIx (nm 0) (ret (.sh (.int 1)))) (ret (.sh (.int 1))))) (asB (op2 oEq (op2 oIx (nm 0) (ret (.sh (.int 0)))) (ret (.sh (.int 2)))))) (rtS (ret (.sh (.int 2)))) nxS) (rtS (iteE (asB (op2 oEq (op2 oIx (nm 0) (ret (.sh (.int 0)))) (ret (.sh (.int 0))))) (ret (.sh (.int 1))) (ret (.sh (.int 4)))))))
noncomputable def m_raw_order : Md := mkM 1 1 b_raw_order
abbrev s__law_level_of : Stmt := top 36
abbrev N__law_level_of : List Str := ["g", "x", "y", "way"]
theorem sc__law_level_of : FnScope N__law_level_of ["g", "x", "y"] (defScope s__law_level_of) := ⟨rfl, rfl, rfl, by decide +kernel, rfl, by decide +kernel, by decide +kernel⟩
theorem ab__law_level_of : ArgsOk "_law_level_of" s__law_level_of ["g", "x", "y"] := fun _ _ _ _ _ _ us hl => match us, hl with | [_, _, _], _ => rfl
noncomputable def b__law_level_of : Fr → Rs Fl := (seqS (asgS (bnd (avC (aD (nm 0)) (ret [])) (callM m__law_way_of)) (stM 3)) (rtS (op2 oAdd (mulE (op2 oIx (nm 3) (ret (.sh (.int 0)))) (nm 1)) (mulE (op2 oIx (nm 3) (ret (.sh (.int 1)))) (nm 2)))))
noncomputable def m__law_level_of : Md := mkM 3 4 b__law_level_of
abbrev s__law_ld_at : Stmt := top 49
abbrev N__law_ld_at : List Str := ["g", "n", "dot", "way", "there"]
theorem sc__law_ld_at : FnScope N__law_ld_at ["g", "n", "dot"] (defScope s__law_ld_at) := ⟨rfl, rfl, rfl, by decide +kernel, rfl, by decide +kernel, by decide +kernel⟩
theorem ab__law_ld_at : ArgsOk "_law_ld_at" s__law_ld_at ["g", "n", "dot"] := fun _ _ _ _ _ _ us hl => match us, hl with | [_, _, _], _ => rfl
noncomputable def b__law_ld_at : Fr → Rs Fl := (seqS (iteE (asB (op2 oEq (op2 oIx (nm 0) (ret (.sh (.int 1)))) (ret (.sh (.int 0))))) (rtS (tupE (argC (op2 oAdd (op2 oIx (nm 2) (ret (.sh (.int 0)))) (mulE (nm 1) (op2 oIx (nm 0) (ret (.sh (.int 2)))))) (argC (op2 oAdd (op2 oIx (nm 2) (ret (.sh (.int 1)))) (mulE (nm 1) (op2 oIx (nm 0) (ret (.sh (.int 3)))))) (ret []))))) nxS) (seqS (asgS (bnd (avC (aD (nm 0)) (ret [])) (callM m__law_way_of)) (stM 3)) (seqS (asgS (iteE (asB (op2 oEq (op2 oMod (nm 1) (ret (.sh (.int 2)))) (ret (.sh (.int 0))))) (nm 2) (bnd (avC (aD (nm 0)) (avC (aD (op2 oIx (nm 2) (ret (.sh (.int 0))))) (avC (aD (op2 oIx (nm 2) (ret (.sh (.int 1))))) (ret [])))) (callM m__law_moved_dot))) (stM 4)) (rtS (tupE (argC (op2 oAdd (op2 oIx (nm 4) (ret (.sh (.int 0)))) (mulE (op2 oFdiv (nm 1) (ret (.sh (.int 2)))) (op2 oIx (nm 3) (ret (.sh (.int 0)))))) (argC (op2 oAdd (op2 oIx (nm 4) (ret (.sh (.int 1)))) (mulE (op2 oFdiv (nm 1) (ret (.sh (.int 2)))) (op2 oIx (nm 3) (ret (.sh (.int 1)))))) (ret []))))))))
noncomputable def m__law_ld_at : Md := mkM 3 5 b__law_ld_at
abbrev s_lead_of : Stmt := top 26
abbrev N_lead_of : List Str := ["motion", "x", "y", "met", "here", "_", "first", "many"]
theorem sc_lead_of : FnScope N_lead_of ["motion", "x", "y"] (defScope s_lead_of) := ⟨rfl, rfl, rfl, by decide +kernel, rfl, by decide +kernel, by decide +kernel⟩
theorem ab_lead_of : ArgsOk "lead_of" s_lead_of ["motion", "x", "y"] := fun _ _ _ _ _ _ us hl => match us, hl with | [_, _, _], _ => rfl
noncomputable def p_lead_of_1 : Fr → Rs Fl := (seqS (exS (lmC fAppend (nm 3) (argC (nm 4) (ret [])))) (asgS (bnd (avC (aD (nm 0)) (avC (aD (op2 oIx (nm 4) (ret (.sh (.int 0))))) (avC (aD (op2 oIx (nm 4) (ret (.sh (.int 1))))) (ret [])))) (callM m_spun)) (stM 4)))
noncomputable def p_lead_of_2 : Fr → Rs Bool := (asB (op2 oNe (nm 4) (tupE (argC (nm 1) (argC (nm 2) (ret []))))))
noncomputable def p_lead_of_3 : Fr → Rs Fl := (parS [4, 7] (evC (bnd (avC (aD (nm 0)) (avC (aD (op2 oIx (nm 4) (ret (.sh (.int 0))))) (avC (aD (op2 oIx (nm 4) (ret (.sh (.int 1))))) (ret [])))) (callM m_spun)) (evC (op2 oAdd (nm 7) (ret (.sh (.int 1)))) (ret []))))
noncomputable def b_lead_of : Fr → Rs Fl := (seqS (iteE (asB (bnd (avC (aD (nm 0)) (ret [])) (callM m_runs))) (rtS (bnd (avC (aD (nm 0)) (avC (aD (nm 1)) (avC (aD (nm 2)) (ret [])))) (callM m_running_lead))) nxS) (seqS (parS [3, 4] (evC (lstE (ret [])) (evC (tupE (argC (nm 1) (argC (nm 2) (ret [])))) (ret [])))) (seqS (forS (srcB rng1M (evC (bnd (avC (aD (nm 0)) (ret [])) (callM m_raw_order)) (ret []))) (stM 5) p_lead_of_1) (seqS (asgS (callB oMinA (evC (nm 3) (ret []))) (stM 6)) (seqS (parS [4, 7] (evC (nm 6) (evC (ret (.sh (.int 0))) (ret [])))) (seqS (whileS p_lead_of_2 p_lead_of_3) (rtS (tupE (argC (op2 oIx (nm 6) (ret (.sh (.int 0)))) (argC (op2 oIx (nm 6) (ret (.sh (.int 1)))) (argC (nm 7) (ret []))))))))))))
noncomputable def m_lead_of : Md := mkM 3 8 b_lead_of
abbrev s__law_rise_of : Stmt := top 37
abbrev N__law_rise_of : List Str := ["g"]
theorem sc__law_rise_of : FnScope N__law_rise_of ["g"] (defScope s__law_rise_of) := ⟨rfl, rfl, rfl, by decide +kernel, rfl, by decide +kernel, by decide +kernel⟩
theorem ab__law_rise_of : ArgsOk "_law_rise_of" s__law_rise_of ["g"] := fun _ _ _ _ _ _ us hl => match us, hl with | [_], _ => rfl
noncomputable def b__law_rise_of : Fr → Rs Fl := (rtS (bnd (avC (aD (nm 0)) (avC (aD (op2 oIx (nm 0) (ret (.sh (.int 2))))) (avC (aD (op2 oIx (nm 0) (ret (.sh (.int 3))))) (ret [])))) (callM m__law_level_of)))
noncomputable def m__law_rise_of : Md := mkM 1 1 b__law_rise_of
abbrev s_lead : Stmt := top 27
abbrev N_lead : List Str := ["motion", "dot", "lead_x", "lead_y", "many"]
theorem sc_lead : FnScope N_lead ["motion", "dot"] (defScope s_lead) := ⟨rfl, rfl, rfl, by decide +kernel, rfl, by decide +kernel, by decide +kernel⟩
theorem ab_lead : ArgsOk "lead" s_lead ["motion", "dot"] := fun _ _ _ _ _ _ us hl => match us, hl with | [_, _], _ => rfl
noncomputable def b_lead : Fr → Rs Fl := (seqS (asgS (bnd (avC (aD (nm 0)) (ret [])) (callM m_made_motion)) (stM 0)) (seqS (asgS (bnd (avC (aD (nm 1)) (ret [])) (callM m_asked_dot)) (stM 1)) (seqS (asgS (bnd (avC (aD (nm 0)) (avC (aD (op2 oIx (nm 1) (ret (.sh (.int 0))))) (avC (aD (op2 oIx (nm 1) (ret (.sh (.int 1))))) (ret [])))) (callM m_lead_of)) (tgT 3 (tgC (stM 2) (tgC (stM 3) (tgC (stM 4) tgN))))) (rtS (tupE (argC (tupE (argC (nm 2) (argC (nm 3) (ret [])))) (argC (nm 4) (ret []))))))))
noncomputable def m_lead : Md := mkM 2 5 b_lead
abbrev s__law_ld_first : Stmt := top 50
abbrev N__law_ld_first : List Str := ["g", "dot", "n"]
theorem sc__law_ld_first : FnScope N__law_ld_first ["g", "dot"] (defScope s__law_ld_first) := ⟨rfl, rfl, rfl, by decide +kernel, rfl, by decide +kernel, by decide +kernel⟩
theorem ab__law_ld_first : ArgsOk "_law_ld_first" s__law_ld_first ["g", "dot"] := fun _ _ _ _ _ _ us hl => match us, hl with | [_, _], _ => rfl
noncomputable def b__law_ld_first : Fr → Rs Fl := (seqS (asgS (op2 oFdiv (bnd (avC (aD (bnd (avC (aD (nm 0)) (ret [])) (callM m__law_way_of))) (avC (aD (op2 oIx (nm 1) (ret (.sh (.int 0))))) (avC (aD (op2 oIx (nm 1) (ret (.sh (.int 1))))) (ret [])))) (callM m__law_level)) (bnd (avC (aD (nm 0)) (ret [])) (callM m__law_rise_of))) (stM 2)) (rtS (tupE (argC (bnd (avC (aD (nm 0)) (avC (aD (bnd (nm 2) negM)) (avC (aD (nm 1)) (ret [])))) (callM m__law_ld_at)) (argC (nm 2) (ret []))))))
noncomputable def m__law_ld_first : Md := mkM 2 3 b__law_ld_first
abbrev s__law_yq_same : Stmt := top 30
abbrev N__law_yq_same : List Str := ["heard_one", "owed", "at"]
theorem sc__law_yq_same : FnScope N__law_yq_same ["heard_one", "owed"] (defScope s__law_yq_same) := ⟨rfl, rfl, rfl, by decide +kernel, rfl, by decide +kernel, by decide +kernel⟩
theorem ab__law_yq_same : ArgsOk "_law_yq_same" s__law_yq_same ["heard_one", "owed"] := fun _ _ _ _ _ _ us hl => match us, hl with | [_, _], _ => rfl
noncomputable def p__law_yq_same_1 (rec : Md) : Fr → Rs Fl := (iteE (notB (asB (bnd (avC (aD (op2 oIx (nm 0) (nm 2))) (avC (aD (op2 oIx (nm 1) (nm 2))) (ret []))) (callM rec)))) (rtS (ret (.sh (.bool false)))) nxS)
noncomputable def b__law_yq_same (rec : Md) : Fr → Rs Fl := (seqS (iteE (asB (op2 oIsN (nm 1) (ret (.sh .none)))) (rtS (op2 oIsN (nm 0) (ret (.sh .none)))) nxS) (seqS (iteE (asB (isiE "bool" (nm 1))) (rtS (iteE (asB (nm 1)) (op2 oIsB (nm 0) (ret (.sh (.bool true)))) (op2 oIsB (nm 0) (ret (.sh (.bool false)))))) nxS) (seqS (iteE (asB (isiE "int" (nm 1))) (rtS (andV (bnd (avC (aD (nm 0)) (ret [])) (callM m__law_yq_is_whole)) (op2 oEq (nm 0) (nm 1)))) nxS) (seqS (iteE (asB (isiE "str" (nm 1))) (rtS (andV (isiE "str" (nm 0)) (op2 oEq (nm 0) (nm 1)))) nxS) (seqS (iteE (andB (notB (asB (isiE "tuple" (nm 1)))) (notB (asB (isiE "list" (nm 1))))) (rtS (callB oBool (evC (op2 oEq (nm 0) (nm 1)) (ret [])))) nxS) (seqS (iteE (asB (op2 oNe (isiE "tuple" (nm 1)) (isiE "tuple" (nm 0)))) (rtS (ret (.sh (.bool false)))) nxS) (seqS (iteE (asB (op2 oNe (isiE "list" (nm 1)) (isiE "list" (nm 0)))) (rtS (ret (.sh (.bool false)))) nxS) (seqS (iteE (asB (op2 oNe (callB oLen (evC (nm 0) (ret []))) (callB oLen (evC (nm 1) (ret []))))) (rtS (ret (.sh (.bool false)))) nxS) (seqS (forS (srcB rng1M (evC (callB oLen (evC (nm 1) (ret []))) (ret []))) (stM 2) (p__law_yq_same_1 rec)) (rtS (ret (.sh (.bool true)))))))))))))
noncomputable def m__law_yq_same : Nat → Md
  | 0 => fun _ => .st
  | n + 1 => mkM 2 3 (b__law_yq_same (m__law_yq_same n))
abbrev s__law_ld_lead : Stmt := top 46
abbrev N__law_ld_lead : List Str := ["g", "dot"]
theorem sc__law_ld_lead : FnScope N__law_ld_lead ["g", "dot"] (defScope s__law_ld_lead) := ⟨rfl, rfl, rfl, by decide +kernel, rfl, by decide +kernel, by decide +kernel⟩
theorem ab__law_ld_lead : ArgsOk "_law_ld_lead" s__law_ld_lead ["g", "dot"] := fun _ _ _ _ _ _ us hl => match us, hl with | [_, _], _ => rfl
noncomputable def b__law_ld_lead : Fr → Rs Fl := (rtS (heardE "told" 5 (subF subs) cl__law_ld_heard (bnd (avC (aD (nm 0)) (avC (aD (nm 1)) (ret []))) (callM m_lead))))
noncomputable def m__law_ld_lead : Md := mkM 2 2 b__law_ld_lead
abbrev s__law_ld_running_right : Stmt := top 51
abbrev N__law_ld_running_right : List Str := ["jar", "g", "some", "base", "first", "n", "ways_now", "k", "dot", "level", "h"]
theorem sc__law_ld_running_right : FnScope N__law_ld_running_right ["jar"] (defScope s__law_ld_running_right) := ⟨rfl, rfl, rfl, by decide +kernel, rfl, by decide +kernel, by decide +kernel⟩
theorem ab__law_ld_running_right : ArgsOk "_law_ld_running_right" s__law_ld_running_right ["jar"] := fun _ _ _ _ _ _ us hl => match us, hl with | [_], _ => rfl
noncomputable def p__law_ld_running_right_1 : Fr → Rs Fl := (seqS (asgS (bnd (avC (aD (nm 1)) (avC (aD (op2 oAdd (nm 5) (nm 7))) (avC (aD (nm 4)) (ret [])))) (callM m__law_ld_at)) (stM 8)) (iteE (andB (asB (bnd (avC (aD (nm 8)) (ret [])) (callM m__law_ld_in))) (notB (asB (bnd (avC (aD (bnd (avC (aD (nm 1)) (avC (aD (nm 8)) (ret []))) (callM m__law_ld_lead))) (avC (aD (tupE (argC (ret (.sh (.str "told"))) (argC (tupE (argC (nm 4) (argC (op2 oAdd (nm 5) (nm 7)) (ret [])))) (ret []))))) (ret []))) (callM (m__law_yq_same 8)))))) (rtS (ret (.sh (.bool false)))) nxS))
noncomputable def p__law_ld_running_right_2 : Fr → Rs Fl := (iteE (andB (asB (bnd (avC (aD (slE (nm 10) (asI (ret (.sh (.int 2)))) (ret none))) (ret [])) (callM m__law_ld_in))) (notB (asB (bnd (avC (aD (bnd (avC (aD (nm 10)) (avC (aD (nm 3)) (ret []))) (callM m__law_ld_lead))) (avC (aD (tupE (argC (ret (.sh (.str "told"))) (argC (bnd (avC (aD (nm 10)) (avC (aD (nm 3)) (ret []))) (callM m__law_ld_first)) (ret []))))) (ret []))) (callM (m__law_yq_same 8)))))) (rtS (ret (.sh (.bool false)))) nxS)
noncomputable def b__law_ld_running_right : Fr → Rs Fl := (seqS (asgS (bnd (avC (aIO (nm 0)) (ret [])) (callM m__law_ld_running)) (stM 1)) (seqS (asgS (lstE (argC (tupE (argC (bnd (avC (aIO (nm 0)) (avC (aD (ret (.sh (.int 9)))) (ret []))) (callM m__law_small)) (argC (bnd (avC (aIO (nm 0)) (avC (aD (ret (.sh (.int 9)))) (ret []))) (callM m__law_small)) (ret [])))) (argC (tupE (argC (ret (.sh (.int 1000000))) (argC (bnd (avC (aIO (nm 0)) (avC (aD (ret (.sh (.int 1000000)))) (ret []))) (callM m__law_small)) (ret [])))) (ret [])))) (stM 2)) (seqS (asgS (bnd (avC (aIO (nm 0)) (avC (aD (op2 oAdd (nm 2) (lstE (argC (tupE (argC (bnd (ret (.sh (.int 1000000))) negM) (argC (ret (.sh (.int 1000000))) (ret [])))) (ret []))))) (ret []))) (callM m__law_one)) (stM 3)) (seqS (asgS (bnd (avC (aD (nm 1)) (avC (aD (nm 3)) (ret []))) (callM m__law_ld_first)) (tgT 2 (tgC (stM 4) (tgC (stM 5) tgN)))) (seqS (asgS (lstE (argC (ret (.sh (.int 0))) (argC (ret (.sh (.int 1))) (argC (bnd (ret (.sh (.int 1))) negM) (argC (ret (.sh (.int 2))) (argC (bnd (avC (aIO (nm 0)) (avC (aD (ret (.sh (.int 30)))) (ret []))) (callM m__law_small)) (argC (bnd (avC (aIO (nm 0)) (avC (aD (ret (.sh (.int 1000)))) (ret []))) (callM m__law_small)) (argC (bnd (avC (aIO (nm 0)) (avC (aD (ret (.sh (.int 2000000)))) (ret []))) (callM m__law_small)) (argC (bnd (nm 5) negM) (ret [])))))))))) (stM 6)) (seqS (forS (seqI (nm 6)) (stM 7) p__law_ld_running_right_1) (seqS (asgS (bnd (avC (aD (bnd (avC (aD (nm 1)) (ret [])) (callM m__law_way_of))) (avC (aD (op2 oIx (nm 4) (ret (.sh (.int 0))))) (avC (aD (op2 oIx (nm 4) (ret (.sh (.int 1))))) (ret [])))) (callM m__law_level)) (stM 9)) (seqS (iteE (notB (asB (chainM oLe oLt (ret (.sh (.int 0))) (nm 9) (bnd (avC (aD (nm 1)) (ret [])) (callM m__law_rise_of))))) (rtS (ret (.sh (.bool false)))) nxS) (seqS (forS (seqI (lstE (argC (bnd (avC (aD (nm 1)) (ret [])) (callM m__law_back_motion)) (argC (bnd (avC (aD (nm 1)) (avC (aD (ret (.sh (.int 2)))) (ret []))) (callM m__law_power_motion)) (argC (bnd (avC (aD (nm 1)) (avC (aD (ret (.sh (.int 3)))) (ret []))) (callM m__law_power_motion)) (ret [])))))) (stM 10) p__law_ld_running_right_2) (rtS (ret (.sh (.bool true)))))))))))))
noncomputable def m__law_ld_running_right : Md := mkM 1 11 b__law_ld_running_right
abbrev s__law_ld_standing_right : Stmt := top 52
abbrev N__law_ld_standing_right : List Str := ["jar", "most", "g", "x", "y", "line", "k", "first", "at", "there", "owed", "n"]
theorem sc__law_ld_standing_right : FnScope N__law_ld_standing_right ["jar"] (defScope s__law_ld_standing_right) := ⟨rfl, rfl, rfl, by decide +kernel, rfl, by decide +kernel, by decide +kernel⟩
theorem ab__law_ld_standing_right : ArgsOk "_law_ld_standing_right" s__law_ld_standing_right ["jar"] := fun _ _ _ _ _ _ us hl => match us, hl with | [_], _ => rfl
noncomputable def p__law_ld_standing_right_1 : Fr → Rs Fl := (exS (lmC fAppend (nm 5) (argC (bnd (avC (aD (nm 2)) (avC (aD (op2 oIx (op2 oIx (nm 5) (bnd (ret (.sh (.int 1))) negM)) (ret (.sh (.int 0))))) (avC (aD (op2 oIx (op2 oIx (nm 5) (bnd (ret (.sh (.int 1))) negM)) (ret (.sh (.int 1))))) (ret [])))) (callM m__law_moved_dot)) (ret []))))
noncomputable def p__law_ld_standing_right_2 : Fr → Rs Bool := (asB (op2 oEq (op2 oIx (nm 5) (nm 6)) (nm 7)))
noncomputable def p__law_ld_standing_right_3 : Fr → Rs Bool := (asB (op2 oEq (op2 oIx (nm 5) (op2 oMod (op2 oAdd (nm 8) (nm 11)) (ret (.sh (.int 4))))) (nm 9)))
noncomputable def p__law_ld_standing_right_4 : Fr → Rs Fl := (seqS (asgS (iteE (asB (op2 oEq (bnd (avC (aD (nm 2)) (avC (aD (ret (.sh (.int 4)))) (ret []))) (callM m__law_power_motion)) (tupE (argC (ret (.sh (.int 0))) (argC (ret (.sh (.int 0))) (argC (ret (.sh (.int 0))) (argC (ret (.sh (.int 0))) (ret [])))))))) (op2 oIx (nm 5) (op2 oMod (op2 oAdd (nm 8) (nm 6)) (ret (.sh (.int 4))))) (ret (.sh .none))) (stM 9)) (seqS (asgS (op2 oIx (lcE [11] (srcB rng1M (evC (ret (.sh (.int 4))) (ret []))) (stM 11) p__law_ld_standing_right_3 (nm 11)) (ret (.sh (.int 0)))) (stM 10)) (iteE (andB (asB (bnd (avC (aD (nm 9)) (ret [])) (callM m__law_ld_in))) (notB (asB (bnd (avC (aD (bnd (avC (aD (nm 2)) (avC (aD (nm 9)) (ret []))) (callM m__law_ld_lead))) (avC (aD (tupE (argC (ret (.sh (.str "told"))) (argC (tupE (argC (nm 7) (argC (nm 10) (ret [])))) (ret []))))) (ret []))) (callM (m__law_yq_same 8)))))) (rtS (ret (.sh (.bool false)))) nxS)))
noncomputable def b__law_ld_standing_right : Fr → Rs Fl := (seqS (asgS (bnd (avC (aIO (nm 0)) (avC (aD (lstE (argC (ret (.sh (.int 3))) (argC (ret (.sh (.int 9))) (argC (ret (.sh (.int 100000))) (ret [])))))) (ret []))) (callM m__law_one)) (stM 1)) (seqS (asgS (bnd (avC (aIO (nm 0)) (avC (aD (nm 1)) (ret []))) (callM m__law_standing_motion)) (stM 2)) (seqS (parS [3, 4] (evC (bnd (avC (aIO (nm 0)) (avC (aD (nm 1)) (ret []))) (callM m__law_small)) (evC (bnd (avC (aIO (nm 0)) (avC (aD (lstE (argC (bnd (avC (aIO (nm 0)) (avC (aD (nm 1)) (ret []))) (callM m__law_small)) (argC (ret (.sh (.int 5))) (ret []))))) (ret []))) (callM m__law_one)) (ret [])))) (seqS (asgS (lstE (argC (tupE (argC (nm 3) (argC (nm 4) (ret [])))) (ret []))) (stM 5)) (seqS (forS (srcB rng1M (evC (ret (.sh (.int 3))) (ret []))) (stM 6) p__law_ld_standing_right_1) (seqS (asgS (callB oMinA (evC (nm 5) (ret []))) (stM 7)) (seqS (asgS (op2 oIx (lcE [6] (srcB rng1M (evC (ret (.sh (.int 4))) (ret []))) (stM 6) p__law_ld_standing_right_2 (nm 6)) (ret (.sh (.int 0)))) (stM 8)) (seqS (forS (srcB rng1M (evC (ret (.sh (.int 4))) (ret []))) (stM 6) p__law_ld_standing_right_4) (rtS (ret (.sh (.bool true))))))))))))
noncomputable def m__law_ld_standing_right : Md := mkM 1 12 b__law_ld_standing_right
abbrev s__law_ld_hand_right : Stmt := top 53
abbrev N__law_ld_hand_right : List Str := ["jar", "far", "asks", "said", "g", "dot", "owed", "some", "bad", "what", "odd", "wrong"]
theorem sc__law_ld_hand_right : FnScope N__law_ld_hand_right ["jar"] (defScope s__law_ld_hand_right) := ⟨rfl, rfl, rfl, by decide +kernel, rfl, by decide +kernel, by decide +kernel⟩
theorem ab__law_ld_hand_right : ArgsOk "_law_ld_hand_right" s__law_ld_hand_right ["jar"] := fun _ _ _ _ _ _ us hl => match us, hl with | [_], _ => rfl
noncomputable def p__law_ld_hand_right_1 : Fr → Rs Ev := (bnd (avC (aD (nm 4)) (avC (aD (nm 5)) (ret []))) (callM m__law_ld_lead))
noncomputable def p__law_ld_hand_right_2 : Fr → Rs Ev := (tupE (argC (ret (.sh (.str "told"))) (argC (nm 6) (ret []))))
noncomputable def b__law_ld_hand_right : Fr → Rs Fl := (seqS (asgS (ret (.sh (.int 1000000))) (stM 1)) (seqS (asgS (lstE (argC (tupE (argC (tupE (argC (ret (.sh (.int 0))) (argC (ret (.sh (.int 0))) (argC (ret (.sh (.int 2))) (argC (ret (.sh (.int 0))) (ret [])))))) (argC (tupE (argC (ret (.sh (.int 5))) (argC (ret (.sh (.int 3))) (ret [])))) (argC (tupE (argC (tupE (argC (ret (.sh (.int 1))) (argC (ret (.sh (.int 3))) (ret [])))) (argC (ret (.sh (.int 2))) (ret [])))) (ret []))))) (argC (tupE (argC (tupE (argC (ret (.sh (.int 0))) (argC (ret (.sh (.int 0))) (argC (ret (.sh (.int 2))) (argC (ret (.sh (.int 0))) (ret [])))))) (argC (tupE (argC (bnd (ret (.sh (.int 1))) negM) (argC (ret (.sh (.int 0))) (ret [])))) (argC (tupE (argC (tupE (argC (ret (.sh (.int 1))) (argC (ret (.sh (.int 0))) (ret [])))) (argC (bnd (ret (.sh (.int 1))) negM) (ret [])))) (ret []))))) (ret [])))) (stM 2)) (seqS (exS (lmC fAppend (nm 2) (argC (tupE (argC (tupE (argC (ret (.sh (.int 0))) (argC (ret (.sh (.int 1))) (argC (ret (.sh (.int 2))) (argC (ret (.sh (.int 1))) (ret [])))))) (argC (tupE (argC (ret (.sh (.int 3))) (argC (ret (.sh (.int 0))) (ret [])))) (argC (tupE (argC (tupE (argC (ret (.sh (.int 1))) (argC (ret (.sh (.int 1))) (ret [])))) (argC (ret (.sh (.int 1))) (ret [])))) (ret []))))) (ret [])))) (seqS (exS (extC (nm 2) (lstE (argC (tupE (argC (tupE (argC (ret (.sh (.int 1))) (argC (ret (.sh (.int 0))) (argC (ret (.sh (.int 0))) (argC (ret (.sh (.int 0))) (ret [])))))) (argC (tupE (argC (ret (.sh (.int 1))) (argC (ret (.sh (.int 0))) (ret [])))) (argC (tupE (argC (tupE (argC (bnd (ret (.sh (.int 1))) negM) (argC (ret (.sh (.int 0))) (ret [])))) (argC (ret (.sh (.int 2))) (ret [])))) (ret []))))) (argC (tupE (argC (tupE (argC (ret (.sh (.int 0))) (argC (ret (.sh (.int 0))) (argC (ret (.sh (.int 0))) (argC (ret (.sh (.int 0))) (ret [])))))) (argC (tupE (argC (ret (.sh (.int 4))) (argC (ret (.sh (.int 4))) (ret [])))) (argC (tupE (argC (tupE (argC (ret (.sh (.int 4))) (argC (ret (.sh (.int 4))) (ret [])))) (argC (ret (.sh (.int 0))) (ret [])))) (ret []))))) (ret [])))))) (seqS (exS (extC (nm 2) (lstE (argC (tupE (argC (tupE (argC (ret (.sh (.int 0))) (argC (ret (.sh (.int 0))) (argC (ret (.sh (.int 0))) (argC (bnd (ret (.sh (.int 1))) negM) (ret [])))))) (argC (tupE (argC (nm 1) (argC (bnd (nm 1) negM) (ret [])))) (argC (tupE (argC (tupE (argC (nm 1) (argC (ret (.sh (.int 0))) (ret [])))) (argC (nm 1) (ret [])))) (ret []))))) (argC (tupE (argC (tupE (argC (ret (.sh (.int 0))) (argC (ret (.sh (.int 0))) (argC (ret (.sh (.int 1))) (argC (ret (.sh (.int 1))) (ret [])))))) (argC (tupE (argC (nm 1) (argC (bnd (nm 1) negM) (ret [])))) (argC (tupE (argC (tupE (argC (nm 1) (argC (bnd (nm 1) negM) (ret [])))) (argC (ret (.sh (.int 0))) (ret [])))) (ret []))))) (ret [])))))) (seqS (exS (extC (nm 2) (lstE (argC (tupE (argC (tupE (argC (ret (.sh (.int 0))) (argC (ret (.sh (.int 0))) (argC (nm 1) (argC (nm 1) (ret [])))))) (argC (tupE (argC (bnd (nm 1) negM) (argC (bnd (nm 1) negM) (ret [])))) (argC (tupE (argC (tupE (argC (ret (.sh (.int 0))) (argC (ret (.sh (.int 0))) (ret [])))) (argC (bnd (ret (.sh (.int 1))) negM) (ret [])))) (ret []))))) (argC (tupE (argC (tupE (argC (ret (.sh (.int 2))) (argC (ret (.sh (.int 0))) (argC (bnd (nm 1) negM) (argC (ret (.sh (.int 0))) (ret [])))))) (argC (tupE (argC (nm 1) (argC (ret (.sh (.int 7))) (ret [])))) (argC (tupE (argC (tupE (argC (mulE (bnd (ret (.sh (.int 2))) negM) (nm 1)) (argC (bnd (ret (.sh (.int 7))) negM) (ret [])))) (argC (ret (.sh (.int 1))) (ret [])))) (ret []))))) (ret [])))))) (seqS (exS (lmC fAppend (nm 2) (argC (tupE (argC (tupE (argC (ret (.sh (.int 0))) (argC (ret (.sh (.int 1))) (argC (nm 1) (argC (nm 1) (ret [])))))) (argC (tupE (argC (bnd (ret (.sh (.int 1))) negM) (argC (bnd (nm 1) negM) (ret [])))) (argC (tupE (argC (tupE (argC (op2 oSub (nm 1) (ret (.sh (.int 1)))) (argC (mulE (ret (.sh (.int 2))) (nm 1)) (ret [])))) (argC (bnd (ret (.sh (.int 1))) negM) (ret [])))) (ret []))))) (ret [])))) (seqS (exS (lmC fAppend (nm 2) (argC (tupE (argC (tupE (argC (ret (.sh (.int 0))) (argC (ret (.sh (.int 0))) (argC (nm 1) (argC (ret (.sh (.int 0))) (ret [])))))) (argC (tupE (argC (bnd (ret (.sh (.int 1))) negM) (argC (nm 1) (ret [])))) (argC (tupE (argC (tupE (argC (op2 oSub (nm 1) (ret (.sh (.int 1)))) (argC (nm 1) (ret [])))) (argC (bnd (ret (.sh (.int 1))) negM) (ret [])))) (ret []))))) (ret [])))) (seqS (asgS (lcE [4, 5, 6] (seqI (nm 2)) (tgT 3 (tgC (stM 4) (tgC (stM 5) (tgC (stM 6) tgN)))) (ret true) p__law_ld_hand_right_1) (stM 3)) (seqS (iteE (notB (asB (bnd (avC (aD (nm 3)) (avC (aD (lcE [4, 5, 6] (seqI (nm 2)) (tgT 3 (tgC (stM 4) (tgC (stM 5) (tgC (stM 6) tgN)))) (ret true) p__law_ld_hand_right_2)) (ret []))) (callM (m__law_yq_same 8))))) (rtS (ret (.sh (.bool false)))) nxS) (seqS (asgS (lstE (argC (tupE (argC (ret (.sh .none)) (argC (bnd (ret (.sh (.int 1))) negM) (ret [])))) (argC (tupE (argC (tupE (argC (ret (.sh (.int 0))) (argC (ret (.sh (.int 0))) (argC (ret (.sh (.int 0))) (ret []))))) (argC (bnd (ret (.sh (.int 1))) negM) (ret [])))) (argC (tupE (argC (tupE (argC (ret (.sh (.int 4))) (argC (ret (.sh (.int 0))) (argC (ret (.sh (.int 0))) (argC (ret (.sh (.int 0))) (ret [])))))) (argC (ret (.sh (.int 0))) (ret [])))) (argC (tupE (argC (tupE (argC (ret (.sh (.int 0))) (argC (ret (.sh (.bool true))) (argC (ret (.sh (.int 0))) (argC (ret (.sh (.int 0))) (ret [])))))) (argC (ret (.sh (.int 1))) (ret [])))) (argC (tupE (argC (tupE (argC (ret (.sh (.int 0))) (argC (ret (.sh (.int 0))) (argC (op2 oAdd (nm 1) (ret (.sh (.int 1)))) (argC (ret (.sh (.int 0))) (ret [])))))) (argC (ret (.sh (.int 2))) (ret [])))) (ret []))))))) (stM 7)) (seqS (asgS (bnd (avC (aIO (nm 0)) (avC (aD (nm 7)) (ret []))) (callM m__law_one)) (tgT 2 (tgC (stM 8) (tgC (stM 9) tgN)))) (seqS (asgS (bnd (avC (aIO (nm 0)) (avC (aD (lstE (argC (tupE (argC (ret (.sh .none)) (argC (bnd (ret (.sh (.int 1))) negM) (ret [])))) (argC (tupE (argC (tupE (argC (ret (.sh (.int 0))) (ret []))) (argC (bnd (ret (.sh (.int 1))) negM) (ret [])))) (argC (tupE (argC (tupE (argC (op2 oAdd (nm 1) (ret (.sh (.int 1)))) (argC (ret (.sh .none)) (ret [])))) (argC (ret (.sh (.int 0))) (ret [])))) (argC (tupE (argC (tupE (argC (ret (.sh (.int 0))) (argC (ret (.sh (.bool true))) (ret [])))) (argC (ret (.sh (.int 1))) (ret [])))) (argC (tupE (argC (tupE (argC (ret (.sh (.int 0))) (argC (op2 oSub (bnd (nm 1) negM) (ret (.sh (.int 1)))) (ret [])))) (argC (ret (.sh (.int 1))) (ret [])))) (ret [])))))))) (ret []))) (callM m__law_one)) (tgT 2 (tgC (stM 10) (tgC (stM 11) tgN)))) (seqS (asgS (lstE (argC (bnd (avC (aD (nm 8)) (avC (aD (nm 10)) (ret []))) (callM m__law_ld_lead)) (argC (bnd (avC (aD (tupE (argC (ret (.sh (.int 0))) (argC (ret (.sh (.int 0))) (argC (ret (.sh (.int 1))) (argC (ret (.sh (.int 0))) (ret []))))))) (avC (aD (nm 10)) (ret []))) (callM m__law_ld_lead)) (argC (bnd (avC (aD (nm 8)) (avC (aD (tupE (argC (ret (.sh (.int 0))) (argC (ret (.sh (.int 0))) (ret []))))) (ret []))) (callM m__law_ld_lead)) (ret []))))) (stM 3)) (rtS (bnd (avC (aD (nm 3)) (avC (aD (lstE (argC (tupE (argC (ret (.sh (.str "BadMotion"))) (argC (nm 9) (ret [])))) (argC (tupE (argC (ret (.sh (.str "BadDot"))) (argC (nm 11) (ret [])))) (argC (tupE (argC (ret (.sh (.str "BadMotion"))) (argC (nm 9) (ret [])))) (ret [])))))) (ret []))) (callM (m__law_yq_same 8))))))))))))))))))
noncomputable def m__law_ld_hand_right : Md := mkM 1 12 b__law_ld_hand_right
abbrev s_law : Stmt := top 54
abbrev N_law : List Str := ["script", "jar", "go"]
theorem sc_law : FnScope N_law ["script"] (defScope s_law) := ⟨rfl, rfl, rfl, by decide +kernel, rfl, by decide +kernel, by decide +kernel⟩
theorem ab_law : ArgsOk "law" s_law ["script"] := fun _ _ _ _ _ _ us hl => match us, hl with | [_], _ => rfl
noncomputable def p_law_1 : Fr → Rs Bool := (orB (notB (asB (bnd (avC (aIO (nm 1)) (ret [])) (callM m__law_ld_running_right)))) (notB (asB (bnd (avC (aIO (nm 1)) (ret [])) (callM m__law_ld_standing_right)))))
noncomputable def b_law : Fr → Rs Fl := (seqS (asgS (bnd (avC (aD (nm 0)) (ret [])) (callM m__law_pool)) (stM 1)) (seqS (iteE (notB (asB (bnd (avC (aIO (nm 1)) (ret [])) (callM m__law_ld_hand_right)))) (rtS (ret (.sh (.bool false)))) nxS) (rtS (op2 oEq (lcE [2] (srcB rng1M (evC (ret (.sh (.int 12))) (ret []))) (stM 2) p_law_1 (nm 2)) (lstE (ret []))))))
noncomputable def m_law : Md := mkM 1 3 b_law
structure Bn (mg : Str → Option Value) : Prop where
  b_abs : mg "abs" = none
  b_bool : mg "bool" = none
  b_enumerate : mg "enumerate" = none
  b_int : mg "int" = none
  b_isinstance : mg "isinstance" = none
  b_len : mg "len" = none
  b_list : mg "list" = none
  b_max : mg "max" = none
  b_min : mg "min" = none
  b_range : mg "range" = none
  b_str : mg "str" = none
  b_tuple : mg "tuple" = none
structure Ct (K : PySem.W.Frag) (mg : Str → Option Value) : Prop where
  c_0 : True
  c_FAR : ∃ t, mg "FAR" = some (.int 1000000 t)
  c_REST : ∃ a : Addr, mg "REST" = some (.ref a) ∧ ktB K (.tuple [.int 0, .int 0, .int 0, .int 0]) (.ref a) = true
section
variable {P : Program} {w : World} {K : PySem.W.Frag} {mg : Str → Option Value} {base : Heap} {tb : List (Addr × Str)}
theorem gh__law_ld_heard (B : Bn mg) (S : SubT K mg subs) (XF : ∀ p ∈ subs, Cls P w K mg base p.1) (KT : KitT K mg subs) (IG : IxG K) (g : Addr) (cdv : Value) (A : Around) (stack : List Env) (s : Shared) (H : Hp) : GH (hCx P w K mg base N__law_ld_heard "_law_ld_heard" (defScope s__law_ld_heard) g cdv A stack s H) (noTh tb) subs hd__law_ld_heard cl__law_ld_heard := by
  have xf := xft_of XF
  exact (gh_as S (XF ("Refused", "Refused", true) (by decide +kernel)) rfl rfl (by rfl) (fun a oe cls d pn hz hf => (gss_cons (gs_set (ps_set (i := 2) sc__law_ld_heard.nd rfl (Or.inl rfl) (ge_lst ga_nil)))
  (gss_cons (gs_expr (ge_extend (ge_nm (pv 2)) (ge_lst (ga_cons (ge_tup (ga_cons ge_str (ga_cons (ge_isX noTh_xc IG KT hz hf (pv 1) (by rfl) B.b_isinstance (by rfl) (kit_mg KT (c := "BadDot") (b := true) (by decide +kernel))) ga_nil))) (ga_cons (ge_tup (ga_cons ge_str (ga_cons (ge_isX noTh_xc IG KT hz hf (pv 1) (by rfl) B.b_isinstance (by rfl) (kit_mg KT (c := "BadMotion") (b := true) (by decide +kernel))) ga_nil))) ga_nil)))))
  (gss_one (gs_ret (ge_tup (ga_cons (ge_join (ge_lcQ (own := [("name", 3), ("is_one", 4)]) (vs := [3, 4]) rfl (HotI.hot_suite hz hf) sc__law_ld_heard.nd (giQ_seq (ge_nm (pv 2))) (blkOk_by (N := N__law_ld_heard) (sc := defScope s__law_ld_heard) (by decide +kernel)) (fun _ _ _ _ _ hot' => (ggv_tupH hot' (ggvs_cons (ggv_name (pg_name (i := 3) sc__law_ld_heard.nd rfl (Or.inl rfl))) (ggvs_cons (ggv_name (pg_name (i := 4) sc__law_ld_heard.nd rfl (Or.inl rfl))) ggvs_nil)))) (fun _ _ _ _ _ => (gts_one (gt_val (ge_nm (pv 4))))) (fun _ _ _ _ _ => (ge_nm (pv 3))))) (ga_cons (ge_what noTh_xc xf hz hf (pv 1)) ga_nil)))))))) gh_nil)
theorem g_whole (B : Bn mg) (C : Ct K mg) (D : Df K mg "whole" s_whole)  : Gd P w K mg base tb 1 "whole" ["thing", "low", "high"] m_whole :=
  gd_of (N := N_whole) (ps := ["thing", "low", "high"]) (body := b_whole) D sc_whole ab_whole fun f cdv A outer s H E hr tk => by
  exact (gss_one (gs_ret (ge_and (ge_isi (ge_nm (pv 0)) (by rfl) B.b_isinstance (by rfl) B.b_int rfl) (ge_and (ge_not (ge_isi (ge_nm (pv 0)) (by rfl) B.b_isinstance (by rfl) B.b_bool rfl)) (ge_one (ge_chain op_le op_le (opm_cmp _) (opm_cmp _) oCmp_bool (ge_nm (pv 1)) (ge_nm (pv 0)) (ge_nm (pv 2))))))))
theorem g_is_free_number (B : Bn mg) (C : Ct K mg) (D : Df K mg "is_free_number" s_is_free_number)  : Gd P w K mg base tb 1 "is_free_number" ["thing"] m_is_free_number :=
  gd_of (N := N_is_free_number) (ps := ["thing"]) (body := b_is_free_number) D sc_is_free_number ab_is_free_number fun f cdv A outer s H E hr tk => by
  exact (gss_one (gs_ret (ge_and (ge_isi (ge_nm (pv 0)) (by rfl) B.b_isinstance (by rfl) B.b_int rfl) (ge_one (ge_not (ge_isi (ge_nm (pv 0)) (by rfl) B.b_isinstance (by rfl) B.b_bool rfl))))))
theorem g_spun (B : Bn mg) (C : Ct K mg) (D : Df K mg "spun" s_spun)  : Gd P w K mg base tb 1 "spun" ["motion", "x", "y"] m_spun :=
  gd_of (N := N_spun) (ps := ["motion", "x", "y"]) (body := b_spun) D sc_spun ab_spun fun f cdv A outer s H E hr tk => by
  exact (gss_cons (gs_asg (ge_nm (pv 0)) (gg_tup rfl (ggs_cons (gg_name (pg_name (i := 3) sc_spun.nd rfl (Or.inl rfl))) (ggs_cons (gg_name (pg_name (i := 4) sc_spun.nd rfl (Or.inl rfl))) (ggs_cons (gg_name (pg_name (i := 5) sc_spun.nd rfl (Or.inl rfl))) (ggs_cons (gg_name (pg_name (i := 6) sc_spun.nd rfl (Or.inl rfl))) ggs_nil))))) (nox_tup (noxs_cons nox_name (noxs_cons nox_name (noxs_cons nox_name (noxs_cons nox_name noxs_nil))))))
  (gss_cons (gs_if (gt_cmp (op_eqD (Room.h64 hr)) opm_eq (nomark _) (ge_nm (pv 4)) ge_int)
  (gss_one (gs_set (ps_set (i := 2) sc_spun.nd rfl (Or.inl rfl) (ge_neg (ge_nm (pv 2))))))
  gss_nil)
  (gss_cons (gs_for (passes_of rfl) rfl (gi_rng1 (by rfl) B.b_range (gx_cons (ge_nm (pv 3)) gx_nil)) (gg_name (pg_name (i := 7) sc_spun.nd rfl (Or.inl rfl))) nox_name
  (gss_one (gs_par (i := 1) (j := 2) rfl sc_spun.nd rfl rfl (by decide) rfl rfl (gp_cons (ge_neg (ge_nm (pv 2))) (gp_cons (ge_nm (pv 1)) gp_nil)))))
  (gss_one (gs_ret (ge_tup (ga_cons (ge_bin op_addA opm_add (ge_nm (pv 1)) (ge_nm (pv 5))) (ga_cons (ge_bin op_addA opm_add (ge_nm (pv 2)) (ge_nm (pv 6))) ga_nil))))))))
theorem g_rise_by (B : Bn mg) (C : Ct K mg) (D : Df K mg "rise_by" s_rise_by)  : Gd P w K mg base tb 1 "rise_by" ["way", "motion"] m_rise_by :=
  gd_of (N := N_rise_by) (ps := ["way", "motion"]) (body := b_rise_by) D sc_rise_by ab_rise_by fun f cdv A outer s H E hr tk => by
  exact (gss_one (gs_ret (ge_bin op_addA opm_add (ge_mul (ge_ix (ge_nm (pv 0)) ge_int) (ge_ix (ge_nm (pv 1)) ge_int)) (ge_mul (ge_ix (ge_nm (pv 0)) ge_int) (ge_ix (ge_nm (pv 1)) ge_int)))))
theorem g_level_of (B : Bn mg) (C : Ct K mg) (D : Df K mg "level_of" s_level_of)  : Gd P w K mg base tb 1 "level_of" ["way", "x", "y"] m_level_of :=
  gd_of (N := N_level_of) (ps := ["way", "x", "y"]) (body := b_level_of) D sc_level_of ab_level_of fun f cdv A outer s H E hr tk => by
  exact (gss_one (gs_ret (ge_bin op_addA opm_add (ge_mul (ge_ix (ge_nm (pv 0)) ge_int) (ge_nm (pv 1))) (ge_mul (ge_ix (ge_nm (pv 0)) ge_int) (ge_nm (pv 2))))))
theorem g__law_yq_is_whole (B : Bn mg) (C : Ct K mg) (D : Df K mg "_law_yq_is_whole" s__law_yq_is_whole)  : Gd P w K mg base tb 1 "_law_yq_is_whole" ["thing"] m__law_yq_is_whole :=
  gd_of (N := N__law_yq_is_whole) (ps := ["thing"]) (body := b__law_yq_is_whole) D sc__law_yq_is_whole ab__law_yq_is_whole fun f cdv A outer s H E hr tk => by
  exact (gss_one (gs_ret (ge_and (ge_isi (ge_nm (pv 0)) (by rfl) B.b_isinstance (by rfl) B.b_int rfl) (ge_one (ge_not (ge_isi (ge_nm (pv 0)) (by rfl) B.b_isinstance (by rfl) B.b_bool rfl))))))
theorem g__law_moved_dot (B : Bn mg) (C : Ct K mg) (D : Df K mg "_law_moved_dot" s__law_moved_dot)  : Gd P w K mg base tb 1 "_law_moved_dot" ["g", "x", "y"] m__law_moved_dot :=
  gd_of (N := N__law_moved_dot) (ps := ["g", "x", "y"]) (body := b__law_moved_dot) D sc__law_moved_dot ab__law_moved_dot fun f cdv A outer s H E hr tk => by
  exact (gss_cons (gs_asg (ge_nm (pv 0)) (gg_tup rfl (ggs_cons (gg_name (pg_name (i := 3) sc__law_moved_dot.nd rfl (Or.inl rfl))) (ggs_cons (gg_name (pg_name (i := 4) sc__law_moved_dot.nd rfl (Or.inl rfl))) (ggs_cons (gg_name (pg_name (i := 5) sc__law_moved_dot.nd rfl (Or.inl rfl))) (ggs_cons (gg_name (pg_name (i := 6) sc__law_moved_dot.nd rfl (Or.inl rfl))) ggs_nil))))) (nox_tup (noxs_cons nox_name (noxs_cons nox_name (noxs_cons nox_name (noxs_cons nox_name noxs_nil))))))
  (gss_cons (gs_set (ps_set (i := 2) sc__law_moved_dot.nd rfl (Or.inl rfl) (ge_if (gt_cmp (op_eqD (Room.h64 hr)) opm_eq (nomark _) (ge_nm (pv 4)) ge_int) (ge_neg (ge_nm (pv 2))) (ge_nm (pv 2)))))
  (gss_cons (gs_for (passes_of rfl) rfl (gi_rng1 (by rfl) B.b_range (gx_cons (ge_nm (pv 3)) gx_nil)) (gg_name (pg_name (i := 7) sc__law_moved_dot.nd rfl (Or.inl rfl))) nox_name
  (gss_one (gs_par (i := 1) (j := 2) rfl sc__law_moved_dot.nd rfl rfl (by decide) rfl rfl (gp_cons (ge_neg (ge_nm (pv 2))) (gp_cons (ge_nm (pv 1)) gp_nil)))))
  (gss_one (gs_ret (ge_tup (ga_cons (ge_bin op_addA opm_add (ge_nm (pv 1)) (ge_nm (pv 5))) (ga_cons (ge_bin op_addA opm_add (ge_nm (pv 2)) (ge_nm (pv 6))) ga_nil))))))))
theorem g__law_level (B : Bn mg) (C : Ct K mg) (D : Df K mg "_law_level" s__law_level)  : Gd P w K mg base tb 1 "_law_level" ["way", "x", "y"] m__law_level :=
  gd_of (N := N__law_level) (ps := ["way", "x", "y"]) (body := b__law_level) D sc__law_level ab__law_level fun f cdv A outer s H E hr tk => by
  exact (gss_one (gs_ret (ge_bin op_addA opm_add (ge_mul (ge_ix (ge_nm (pv 0)) ge_int) (ge_nm (pv 1))) (ge_mul (ge_ix (ge_nm (pv 0)) ge_int) (ge_nm (pv 2))))))
theorem g__law_pool (B : Bn mg) (C : Ct K mg) (D : Df K mg "_law_pool" s__law_pool)  : Gd P w K mg base tb 1 "_law_pool" ["script"] m__law_pool :=
  gd_of (N := N__law_pool) (ps := ["script"]) (body := b__law_pool) D sc__law_pool ab__law_pool fun f cdv A outer s H E hr tk => by
  exact (gss_cons (gs_asg (ge_tup (ga_cons ge_int (ga_cons ge_int ga_nil))) (gg_tup rfl (ggs_cons (gg_name (pg_name (i := 1) sc__law_pool.nd rfl (Or.inl rfl))) (ggs_cons (gg_name (pg_name (i := 2) sc__law_pool.nd rfl (Or.inl rfl))) ggs_nil))) (nox_tup (noxs_cons nox_name (noxs_cons nox_name noxs_nil))))
  (gss_cons (gs_for (passes_of rfl) rfl (gi_rng1 (by rfl) B.b_range (gx_cons (ge_blt call_len crm_len (by rfl) B.b_len rfl (gx_cons (ge_nm (pv 0)) gx_nil)) gx_nil)) (gg_name (pg_name (i := 3) sc__law_pool.nd rfl (Or.inl rfl))) nox_name
  (gss_cons (gs_set (ps_set (i := 4) sc__law_pool.nd rfl (Or.inl rfl) (ge_bty call_int1 crm_int (by rfl) B.b_int rfl (gx_cons (ge_blt (call_max2 rfl) crm_max2 (by rfl) B.b_max rfl (gx_cons (ge_ix (ge_nm (pv 0)) (ge_nm (pv 3))) (gx_cons (ge_bin op_sub opm_sub (ge_neg ge_int) (ge_ix (ge_nm (pv 0)) (ge_nm (pv 3)))) gx_nil))) gx_nil))))
  (gss_cons (gs_set (ps_set (i := 2) sc__law_pool.nd rfl (Or.inl rfl) (ge_bin op_modN opm_mod (ge_bty call_int1 crm_int (by rfl) B.b_int rfl (gx_cons (ge_bin op_addA opm_add (ge_bin op_addA opm_add (ge_mul (ge_nm (pv 2)) ge_int) (ge_bin op_modN opm_mod (ge_nm (pv 4)) ge_int)) ge_int) gx_nil)) ge_int)))
  (gss_one (gs_set (ps_set (i := 1) sc__law_pool.nd rfl (Or.inl rfl) (ge_if (PW.pt (gw_and (gt_cmp op_ge (opm_cmp _) (nomark _) (ge_nm (pv 4)) (ge_bin op_pow opm_pow ge_int ge_int)) (gw_and1 (gt_cmp op_lt (opm_cmp _) (nomark _) (ge_nm (pv 1)) (ge_bin op_pow opm_pow ge_int ge_int))))) (ge_bty call_int1 crm_int (by rfl) B.b_int rfl (gx_cons (ge_bin op_addA opm_add (ge_mul (ge_nm (pv 1)) (ge_bin op_pow opm_pow ge_int ge_int)) (ge_bin op_modN opm_mod (ge_nm (pv 4)) (ge_bin op_pow opm_pow ge_int ge_int))) gx_nil)) (ge_nm (pv 1)))))))))
  (gss_one (gs_ret (ge_lst (ga_cons (ge_nm (pv 1)) (ga_cons (ge_nm (pv 2)) (ga_cons ge_int ga_nil))))))))
theorem g__law_take (B : Bn mg) (C : Ct K mg) (D : Df K mg "_law_take" s__law_take)  : Gd P w K mg base tb 1 "_law_take" ["jar", "many"] m__law_take :=
  gd_of (N := N__law_take) (ps := ["jar", "many"]) (body := b__law_take) D sc__law_take ab__law_take fun f cdv A outer s H E hr tk => by
  exact (gss_cons (gs_if (gt_cmp op_gt (opm_cmp _) (nomark _) (ge_ix (ge_nm (pv 0)) ge_int) ge_int)
  (gss_cons (gs_set (ps_set (i := 2) sc__law_take.nd rfl (Or.inl rfl) (ge_bin op_modN opm_mod (ge_bty call_int1 crm_int (by rfl) B.b_int rfl (gx_cons (ge_ix (ge_nm (pv 0)) ge_int) gx_nil)) (ge_nm (pv 1)))))
  (gss_cons (gs_asg (ge_bin op_fdivA opm_fdiv (ge_ix (ge_nm (pv 0)) ge_int) (ge_nm (pv 1))) (gg_sub (W := fun _ _ _ _ => False) (ge_nm (pv 0)) ge_int) nox_sub)
  (gss_one (gs_ret (ge_nm (pv 2))))))
  gss_nil)
  (gss_cons (gs_asg (ge_bin op_addA opm_add (ge_ix (ge_nm (pv 0)) ge_int) ge_int) (gg_sub (W := fun _ _ _ _ => False) (ge_nm (pv 0)) ge_int) nox_sub)
  (gss_cons (gs_asg (ge_bin op_modN opm_mod (ge_bty call_int1 crm_int (by rfl) B.b_int rfl (gx_cons (ge_bin op_addA opm_add (ge_bin op_addA opm_add (ge_mul (ge_ix (ge_nm (pv 0)) ge_int) ge_int) (ge_mul ge_int (ge_ix (ge_nm (pv 0)) ge_int))) ge_int) gx_nil)) ge_int) (gg_sub (W := fun _ _ _ _ => False) (ge_nm (pv 0)) ge_int) nox_sub)
  (gss_one (gs_ret (ge_bin op_modN opm_mod (ge_bty call_int1 crm_int (by rfl) B.b_int rfl (gx_cons (ge_bin op_fdivA opm_fdiv (ge_bin op_modN opm_mod (ge_bty call_int1 crm_int (by rfl) B.b_int rfl (gx_cons (ge_mul (ge_ix (ge_nm (pv 0)) ge_int) (ge_ix (ge_nm (pv 0)) ge_int)) gx_nil)) ge_int) ge_int) gx_nil)) (ge_nm (pv 1))))))))
theorem g__law_ld_in (B : Bn mg) (C : Ct K mg) (D : Df K mg "_law_ld_in" s__law_ld_in)  : Gd P w K mg base tb 1 "_law_ld_in" ["dot"] m__law_ld_in :=
  gd_of (N := N__law_ld_in) (ps := ["dot"]) (body := b__law_ld_in) D sc__law_ld_in ab__law_ld_in fun f cdv A outer s H E hr tk => by
  exact (gss_one (gs_ret (ge_cmp op_le (opm_cmp _) (nomark _) (ge_blt (call_max2 rfl) crm_max2 (by rfl) B.b_max rfl (gx_cons (ge_blt call_abs crm_abs (by rfl) B.b_abs rfl (gx_cons (ge_ix (ge_nm (pv 0)) ge_int) gx_nil)) (gx_cons (ge_blt call_abs crm_abs (by rfl) B.b_abs rfl (gx_cons (ge_ix (ge_nm (pv 0)) ge_int) gx_nil)) gx_nil))) ge_int)))
theorem g_bad_motion (B : Bn mg) (C : Ct K mg) (D : Df K mg "bad_motion" s_bad_motion) (G_whole : Gd P w K mg base tb 1 "whole" ["thing", "low", "high"] m_whole) (G_is_free_number : Gd P w K mg base tb 1 "is_free_number" ["thing"] m_is_free_number) : Gd P w K mg base tb 2 "bad_motion" ["thing", "is_free"] m_bad_motion :=
  gd_of (N := N_bad_motion) (ps := ["thing", "is_free"]) (body := b_bad_motion) D sc_bad_motion ab_bad_motion fun f cdv A outer s H E hr tk => by
  exact (gss_cons (gs_if (PW.pt (gw_or (gt_not (gt_val (ge_isi (ge_nm (pv 0)) (by rfl) B.b_isinstance (by rfl) B.b_tuple rfl))) (gw_or1 (gt_cmp (op_neD (Room.h64 hr)) opm_ne (nomark _) (ge_blt call_len crm_len (by rfl) B.b_len rfl (gx_cons (ge_nm (pv 0)) gx_nil)) ge_int))))
  (gss_one (gs_ret (ge_neg ge_int)))
  gss_nil)
  (gss_cons (gs_for (passes_of rfl) rfl (gi_enum (by rfl) B.b_enumerate (ge_tup (ga_cons ge_int (ga_cons ge_int ga_nil)))) (gg_tup rfl (ggs_cons (gg_name (pg_name (i := 2) sc_bad_motion.nd rfl (Or.inl rfl))) (ggs_cons (gg_name (pg_name (i := 3) sc_bad_motion.nd rfl (Or.inl rfl))) ggs_nil))) (nox_tup (noxs_cons nox_name (noxs_cons nox_name noxs_nil)))
  (gss_one (gs_if (gt_not (gt_val (ge_callG tk G_whole (hr.mono (by omega)) (by rfl) (gv_d (ge_ix (ge_nm (pv 0)) (ge_nm (pv 2))) (gv_d ge_int (gv_d (ge_nm (pv 3)) gv_nil))))))
  (gss_one (gs_ret (ge_nm (pv 2))))
  gss_nil)))
  (gss_cons (gs_for (passes_of rfl) rfl (gi_seq (ge_tup (ga_cons ge_int (ga_cons ge_int ga_nil)))) (gg_name (pg_name (i := 2) sc_bad_motion.nd rfl (Or.inl rfl))) nox_name
  (gss_one (gs_if (gt_not (gt_ifE (gt_val (ge_nm (pv 1))) (gt_val (ge_callG tk G_is_free_number (hr.mono (by omega)) (by rfl) (gv_d (ge_ix (ge_nm (pv 0)) (ge_nm (pv 2))) gv_nil))) (gt_val (ge_callG tk G_whole (hr.mono (by omega)) (by rfl) (gv_d (ge_ix (ge_nm (pv 0)) (ge_nm (pv 2))) (gv_d (ge_neg (ge_cint (by rfl) C.c_FAR)) (gv_d (ge_cint (by rfl) C.c_FAR) gv_nil)))))))
  (gss_one (gs_ret (ge_nm (pv 2))))
  gss_nil)))
  (gss_one (gs_ret ge_none)))))
theorem g_joined (B : Bn mg) (C : Ct K mg) (D : Df K mg "joined" s_joined) (G_spun : Gd P w K mg base tb 1 "spun" ["motion", "x", "y"] m_spun) : Gd P w K mg base tb 2 "joined" ["one", "two"] m_joined :=
  gd_of (N := N_joined) (ps := ["one", "two"]) (body := b_joined) D sc_joined ab_joined fun f cdv A outer s H E hr tk => by
  exact (gss_cons (gs_set (ps_set (i := 2) sc_joined.nd rfl (Or.inl rfl) (ge_if (gt_cmp (op_eqD (Room.h64 hr)) opm_eq (nomark _) (ge_ix (ge_nm (pv 0)) ge_int) ge_int) (ge_bin op_sub opm_sub (ge_ix (ge_nm (pv 0)) ge_int) (ge_ix (ge_nm (pv 1)) ge_int)) (ge_bin op_addA opm_add (ge_ix (ge_nm (pv 0)) ge_int) (ge_ix (ge_nm (pv 1)) ge_int)))))
  (gss_cons (gs_asg (ge_callG tk G_spun (hr.mono (by omega)) (by rfl) (gv_d (ge_nm (pv 0)) (gv_d (ge_ix (ge_nm (pv 1)) ge_int) (gv_d (ge_ix (ge_nm (pv 1)) ge_int) gv_nil)))) (gg_tup rfl (ggs_cons (gg_name (pg_name (i := 3) sc_joined.nd rfl (Or.inl rfl))) (ggs_cons (gg_name (pg_name (i := 4) sc_joined.nd rfl (Or.inl rfl))) ggs_nil))) (nox_tup (noxs_cons nox_name (noxs_cons nox_name noxs_nil))))
  (gss_one (gs_ret (ge_tup (ga_cons (ge_bin op_modN opm_mod (ge_nm (pv 2)) ge_int) (ga_cons (ge_bin op_modN opm_mod (ge_bin op_addA opm_add (ge_ix (ge_nm (pv 0)) ge_int) (ge_ix (ge_nm (pv 1)) ge_int)) ge_int) (ga_cons (ge_nm (pv 3)) (ga_cons (ge_nm (pv 4)) ga_nil)))))))))
theorem g_backed (B : Bn mg) (C : Ct K mg) (D : Df K mg "backed" s_backed) (G_spun : Gd P w K mg base tb 1 "spun" ["motion", "x", "y"] m_spun) : Gd P w K mg base tb 2 "backed" ["motion"] m_backed :=
  gd_of (N := N_backed) (ps := ["motion"]) (body := b_backed) D sc_backed ab_backed fun f cdv A outer s H E hr tk => by
  exact (gss_cons (gs_asg (ge_nm (pv 0)) (gg_tup rfl (ggs_cons (gg_name (pg_name (i := 1) sc_backed.nd rfl (Or.inl rfl))) (ggs_cons (gg_name (pg_name (i := 2) sc_backed.nd rfl (Or.inl rfl))) (ggs_cons (gg_name (pg_name (i := 3) sc_backed.nd rfl (Or.inl rfl))) (ggs_cons (gg_name (pg_name (i := 4) sc_backed.nd rfl (Or.inl rfl))) ggs_nil))))) (nox_tup (noxs_cons nox_name (noxs_cons nox_name (noxs_cons nox_name (noxs_cons nox_name noxs_nil))))))
  (gss_cons (gs_set (ps_set (i := 5) sc_backed.nd rfl (Or.inl rfl) (ge_if (gt_cmp (op_eqD (Room.h64 hr)) opm_eq (nomark _) (ge_nm (pv 2)) ge_int) (ge_nm (pv 1)) (ge_bin op_modN opm_mod (ge_neg (ge_nm (pv 1))) ge_int))))
  (gss_cons (gs_asg (ge_callG tk G_spun (hr.mono (by omega)) (by rfl) (gv_d (ge_tup (ga_cons (ge_nm (pv 5)) (ga_cons (ge_nm (pv 2)) (ga_cons ge_int (ga_cons ge_int ga_nil))))) (gv_d (ge_nm (pv 3)) (gv_d (ge_nm (pv 4)) gv_nil)))) (gg_tup rfl (ggs_cons (gg_name (pg_name (i := 6) sc_backed.nd rfl (Or.inl rfl))) (ggs_cons (gg_name (pg_name (i := 7) sc_backed.nd rfl (Or.inl rfl))) ggs_nil))) (nox_tup (noxs_cons nox_name (noxs_cons nox_name noxs_nil))))
  (gss_one (gs_ret (ge_tup (ga_cons (ge_nm (pv 5)) (ga_cons (ge_nm (pv 2)) (ga_cons (ge_neg (ge_nm (pv 6))) (ga_cons (ge_neg (ge_nm (pv 7))) ga_nil))))))))))
theorem g_bad_dot (B : Bn mg) (C : Ct K mg) (D : Df K mg "bad_dot" s_bad_dot) (G_whole : Gd P w K mg base tb 1 "whole" ["thing", "low", "high"] m_whole) : Gd P w K mg base tb 2 "bad_dot" ["dot"] m_bad_dot :=
  gd_of (N := N_bad_dot) (ps := ["dot"]) (body := b_bad_dot) D sc_bad_dot ab_bad_dot fun f cdv A outer s H E hr tk => by
  exact (gss_cons (gs_if (PW.pt (gw_or (gt_not (gt_val (ge_isi (ge_nm (pv 0)) (by rfl) B.b_isinstance (by rfl) B.b_tuple rfl))) (gw_or1 (gt_cmp (op_neD (Room.h64 hr)) opm_ne (nomark _) (ge_blt call_len crm_len (by rfl) B.b_len rfl (gx_cons (ge_nm (pv 0)) gx_nil)) ge_int))))
  (gss_one (gs_ret (ge_neg ge_int)))
  gss_nil)
  (gss_cons (gs_for (passes_of rfl) rfl (gi_seq (ge_tup (ga_cons ge_int (ga_cons ge_int ga_nil)))) (gg_name (pg_name (i := 1) sc_bad_dot.nd rfl (Or.inl rfl))) nox_name
  (gss_one (gs_if (gt_not (gt_val (ge_callG tk G_whole (hr.mono (by omega)) (by rfl) (gv_d (ge_ix (ge_nm (pv 0)) (ge_nm (pv 1))) (gv_d (ge_neg (ge_cint (by rfl) C.c_FAR)) (gv_d (ge_cint (by rfl) C.c_FAR) gv_nil))))))
  (gss_one (gs_ret (ge_nm (pv 1))))
  gss_nil)))
  (gss_one (gs_ret ge_none))))
theorem g__law_then_motion (B : Bn mg) (C : Ct K mg) (D : Df K mg "_law_then_motion" s__law_then_motion) (G__law_moved_dot : Gd P w K mg base tb 1 "_law_moved_dot" ["g", "x", "y"] m__law_moved_dot) : Gd P w K mg base tb 2 "_law_then_motion" ["one", "two"] m__law_then_motion :=
  gd_of (N := N__law_then_motion) (ps := ["one", "two"]) (body := b__law_then_motion) D sc__law_then_motion ab__law_then_motion fun f cdv A outer s H E hr tk => by
  exact (gss_cons (gs_asg (ge_callG tk G__law_moved_dot (hr.mono (by omega)) (by rfl) (gv_d (ge_nm (pv 0)) (gv_d (ge_ix (ge_nm (pv 1)) ge_int) (gv_d (ge_ix (ge_nm (pv 1)) ge_int) gv_nil)))) (gg_tup rfl (ggs_cons (gg_name (pg_name (i := 2) sc__law_then_motion.nd rfl (Or.inl rfl))) (ggs_cons (gg_name (pg_name (i := 3) sc__law_then_motion.nd rfl (Or.inl rfl))) ggs_nil))) (nox_tup (noxs_cons nox_name (noxs_cons nox_name noxs_nil))))
  (gss_cons (gs_set (ps_set (i := 4) sc__law_then_motion.nd rfl (Or.inl rfl) (ge_bin op_addA opm_add (ge_ix (ge_nm (pv 0)) ge_int) (ge_if (gt_cmp (op_eqD (Room.h64 hr)) opm_eq (nomark _) (ge_ix (ge_nm (pv 0)) ge_int) ge_int) (ge_neg (ge_ix (ge_nm (pv 1)) ge_int)) (ge_ix (ge_nm (pv 1)) ge_int)))))
  (gss_one (gs_ret (ge_tup (ga_cons (ge_bin op_modN opm_mod (ge_nm (pv 4)) ge_int) (ga_cons (ge_bin op_modN opm_mod (ge_bin op_addA opm_add (ge_ix (ge_nm (pv 0)) ge_int) (ge_ix (ge_nm (pv 1)) ge_int)) ge_int) (ga_cons (ge_nm (pv 2)) (ga_cons (ge_nm (pv 3)) ga_nil)))))))))
theorem g__law_back_motion (B : Bn mg) (C : Ct K mg) (D : Df K mg "_law_back_motion" s__law_back_motion) (G__law_moved_dot : Gd P w K mg base tb 1 "_law_moved_dot" ["g", "x", "y"] m__law_moved_dot) : Gd P w K mg base tb 2 "_law_back_motion" ["g"] m__law_back_motion :=
  gd_of (N := N__law_back_motion) (ps := ["g"]) (body := b__law_back_motion) D sc__law_back_motion ab__law_back_motion fun f cdv A outer s H E hr tk => by
  exact (gss_cons (gs_set (ps_set (i := 1) sc__law_back_motion.nd rfl (Or.inl rfl) (ge_if (gt_cmp (op_eqD (Room.h64 hr)) opm_eq (nomark _) (ge_ix (ge_nm (pv 0)) ge_int) ge_int) (ge_ix (ge_nm (pv 0)) ge_int) (ge_bin op_modN opm_mod (ge_neg (ge_ix (ge_nm (pv 0)) ge_int)) ge_int))))
  (gss_cons (gs_asg (ge_callG tk G__law_moved_dot (hr.mono (by omega)) (by rfl) (gv_d (ge_tup (ga_cons (ge_nm (pv 1)) (ga_cons (ge_ix (ge_nm (pv 0)) ge_int) (ga_cons ge_int (ga_cons ge_int ga_nil))))) (gv_d (ge_ix (ge_nm (pv 0)) ge_int) (gv_d (ge_ix (ge_nm (pv 0)) ge_int) gv_nil)))) (gg_tup rfl (ggs_cons (gg_name (pg_name (i := 2) sc__law_back_motion.nd rfl (Or.inl rfl))) (ggs_cons (gg_name (pg_name (i := 3) sc__law_back_motion.nd rfl (Or.inl rfl))) ggs_nil))) (nox_tup (noxs_cons nox_name (noxs_cons nox_name noxs_nil))))
  (gss_one (gs_ret (ge_tup (ga_cons (ge_nm (pv 1)) (ga_cons (ge_ix (ge_nm (pv 0)) ge_int) (ga_cons (ge_neg (ge_nm (pv 2))) (ga_cons (ge_neg (ge_nm (pv 3))) ga_nil)))))))))
theorem g__law_small (B : Bn mg) (C : Ct K mg) (D : Df K mg "_law_small" s__law_small) (G__law_take : Gd P w K mg base tb 1 "_law_take" ["jar", "many"] m__law_take) : Gd P w K mg base tb 2 "_law_small" ["jar", "most"] m__law_small :=
  gd_of (N := N__law_small) (ps := ["jar", "most"]) (body := b__law_small) D sc__law_small ab__law_small fun f cdv A outer s H E hr tk => by
  exact (gss_one (gs_ret (ge_bin op_sub opm_sub (ge_callG tk G__law_take (hr.mono (by omega)) (by rfl) (gv_io (ge_nm (pv 0)) (gv_d (ge_bin op_addA opm_add (ge_mul ge_int (ge_nm (pv 1))) ge_int) gv_nil))) (ge_nm (pv 1)))))
theorem g__law_one (B : Bn mg) (C : Ct K mg) (D : Df K mg "_law_one" s__law_one) (G__law_take : Gd P w K mg base tb 1 "_law_take" ["jar", "many"] m__law_take) : Gd P w K mg base tb 2 "_law_one" ["jar", "things"] m__law_one :=
  gd_of (N := N__law_one) (ps := ["jar", "things"]) (body := b__law_one) D sc__law_one ab__law_one fun f cdv A outer s H E hr tk => by
  exact (gss_one (gs_ret (ge_ix (ge_nm (pv 1)) (ge_callG tk G__law_take (hr.mono (by omega)) (by rfl) (gv_io (ge_nm (pv 0)) (gv_d (ge_blt call_len crm_len (by rfl) B.b_len rfl (gx_cons (ge_nm (pv 1)) gx_nil)) gv_nil))))))
theorem g_made_motion (B : Bn mg) (C : Ct K mg) (D : Df K mg "made_motion" s_made_motion) (G_bad_motion : Gd P w K mg base tb 2 "bad_motion" ["thing", "is_free"] m_bad_motion) (X_BadMotion : Cls P w K mg base "BadMotion") : Gd P w K mg base tb 3 "made_motion" ["thing"] m_made_motion :=
  gd_of (N := N_made_motion) (ps := ["thing"]) (body := b_made_motion) D sc_made_motion ab_made_motion fun f cdv A outer s H E hr tk => by
  exact (gss_cons (gs_set (ps_set (i := 1) sc_made_motion.nd rfl (Or.inl rfl) (ge_callG tk G_bad_motion (hr.mono (by omega)) (by rfl) (gv_d (ge_nm (pv 0)) (gv_d ge_bool gv_nil)))))
  (gss_cons (gs_if (gt_cmp op_notN opm_notN (nomark _) (ge_nm (pv 1)) ge_none)
  (gss_one (gs_raise rfl tk (X_BadMotion.excT) (hr.mono (by omega)) (by rfl) (ge_nm (pv 1))))
  gss_nil)
  (gss_one (gs_ret (ge_tup (ga_cons (ge_ix (ge_nm (pv 0)) ge_int) (ga_cons (ge_ix (ge_nm (pv 0)) ge_int) (ga_cons (ge_ix (ge_nm (pv 0)) ge_int) (ga_cons (ge_ix (ge_nm (pv 0)) ge_int) ga_nil)))))))))
theorem g_far_power (B : Bn mg) (C : Ct K mg) (D : Df K mg "far_power" s_far_power) (G_joined : Gd P w K mg base tb 2 "joined" ["one", "two"] m_joined) (G_backed : Gd P w K mg base tb 2 "backed" ["motion"] m_backed) : Gd P w K mg base tb 3 "far_power" ["motion", "n"] m_far_power :=
  gd_of (N := N_far_power) (ps := ["motion", "n"]) (body := b_far_power) D sc_far_power ab_far_power fun f cdv A outer s H E hr tk => by
  exact (gss_cons (gs_par3 (i := 2) (j := 3) (l := 4) rfl sc_far_power.nd rfl rfl rfl (by decide) (by decide) (by decide) rfl rfl rfl (gp_cons (ge_ctd (by rfl) C.c_REST) (gp_cons (ge_nm (pv 0)) (gp_cons (ge_nm (pv 1)) gp_nil))))
  (gss_cons (gs_if (gt_cmp op_lt (opm_cmp _) (nomark _) (ge_nm (pv 1)) ge_int)
  (gss_one (gs_par (i := 3) (j := 4) rfl sc_far_power.nd rfl rfl (by decide) rfl rfl (gp_cons (ge_callG tk G_backed (hr.mono (by omega)) (by rfl) (gv_d (ge_nm (pv 0)) gv_nil)) (gp_cons (ge_neg (ge_nm (pv 1))) gp_nil))))
  gss_nil)
  (gss_cons (gs_while (passes_of rfl) (gt_cmp op_gt (opm_cmp _) (nomark _) (ge_nm (pv 4)) ge_int)
  (gss_cons (gs_if (gt_cmp (op_eqD (Room.h64 hr)) opm_eq (nomark _) (ge_bin op_modN opm_mod (ge_nm (pv 4)) ge_int) ge_int)
  (gss_one (gs_set (ps_set (i := 2) sc_far_power.nd rfl (Or.inl rfl) (ge_callG tk G_joined (hr.mono (by omega)) (by rfl) (gv_d (ge_nm (pv 2)) (gv_d (ge_nm (pv 3)) gv_nil))))))
  gss_nil)
  (gss_cons (gs_set (ps_set (i := 3) sc_far_power.nd rfl (Or.inl rfl) (ge_callG tk G_joined (hr.mono (by omega)) (by rfl) (gv_d (ge_nm (pv 3)) (gv_d (ge_nm (pv 3)) gv_nil)))))
  (gss_one (gs_set (ps_set (i := 4) sc_far_power.nd rfl (Or.inl rfl) (ge_bin op_fdivA opm_fdiv (ge_nm (pv 4)) ge_int)))))))
  (gss_one (gs_ret (ge_nm (pv 2)))))))
theorem g_asked_dot (B : Bn mg) (C : Ct K mg) (D : Df K mg "asked_dot" s_asked_dot) (G_bad_dot : Gd P w K mg base tb 2 "bad_dot" ["dot"] m_bad_dot) (X_BadDot : Cls P w K mg base "BadDot") : Gd P w K mg base tb 3 "asked_dot" ["dot"] m_asked_dot :=
  gd_of (N := N_asked_dot) (ps := ["dot"]) (body := b_asked_dot) D sc_asked_dot ab_asked_dot fun f cdv A outer s H E hr tk => by
  exact (gss_cons (gs_set (ps_set (i := 1) sc_asked_dot.nd rfl (Or.inl rfl) (ge_callG tk G_bad_dot (hr.mono (by omega)) (by rfl) (gv_d (ge_nm (pv 0)) gv_nil))))
  (gss_cons (gs_if (gt_cmp op_notN opm_notN (nomark _) (ge_nm (pv 1)) ge_none)
  (gss_one (gs_raise rfl tk (X_BadDot.excT) (hr.mono (by omega)) (by rfl) (ge_nm (pv 1))))
  gss_nil)
  (gss_one (gs_ret (ge_tup (ga_cons (ge_ix (ge_nm (pv 0)) ge_int) (ga_cons (ge_ix (ge_nm (pv 0)) ge_int) ga_nil)))))))
theorem g_raw_way (B : Bn mg) (C : Ct K mg) (D : Df K mg "raw_way" s_raw_way) (G_joined : Gd P w K mg base tb 2 "joined" ["one", "two"] m_joined) : Gd P w K mg base tb 3 "raw_way" ["motion"] m_raw_way :=
  gd_of (N := N_raw_way) (ps := ["motion"]) (body := b_raw_way) D sc_raw_way ab_raw_way fun f cdv A outer s H E hr tk => by
  exact (gss_cons (gs_if (gt_cmp (op_eqD (Room.h64 hr)) opm_eq (nomark _) (ge_ix (ge_nm (pv 0)) ge_int) ge_int)
  (gss_cons (gs_set (ps_set (i := 1) sc_raw_way.nd rfl (Or.inl rfl) (ge_callG tk G_joined (hr.mono (by omega)) (by rfl) (gv_d (ge_nm (pv 0)) (gv_d (ge_nm (pv 0)) gv_nil)))))
  (gss_one (gs_ret (ge_tup (ga_cons (ge_ix (ge_nm (pv 1)) ge_int) (ga_cons (ge_ix (ge_nm (pv 1)) ge_int) ga_nil))))))
  gss_nil)
  (gss_one (gs_ret (ge_if (gt_cmp (op_eqD (Room.h64 hr)) opm_eq (nomark _) (ge_ix (ge_nm (pv 0)) ge_int) ge_int) (ge_tup (ga_cons (ge_ix (ge_nm (pv 0)) ge_int) (ga_cons (ge_ix (ge_nm (pv 0)) ge_int) ga_nil))) (ge_tup (ga_cons ge_int (ga_cons ge_int ga_nil)))))))
theorem g__law_power_motion (B : Bn mg) (C : Ct K mg) (D : Df K mg "_law_power_motion" s__law_power_motion) (G__law_then_motion : Gd P w K mg base tb 2 "_law_then_motion" ["one", "two"] m__law_then_motion) (G__law_back_motion : Gd P w K mg base tb 2 "_law_back_motion" ["g"] m__law_back_motion) : Gd P w K mg base tb 3 "_law_power_motion" ["g", "n"] m__law_power_motion :=
  gd_of (N := N__law_power_motion) (ps := ["g", "n"]) (body := b__law_power_motion) D sc__law_power_motion ab__law_power_motion fun f cdv A outer s H E hr tk => by
  exact (gss_cons (gs_par3 (i := 2) (j := 3) (l := 4) rfl sc__law_power_motion.nd rfl rfl rfl (by decide) (by decide) (by decide) rfl rfl rfl (gp_cons (ge_tup (ga_cons ge_int (ga_cons ge_int (ga_cons ge_int (ga_cons ge_int ga_nil))))) (gp_cons (ge_if (gt_cmp op_ge (opm_cmp _) (nomark _) (ge_nm (pv 1)) ge_int) (ge_nm (pv 0)) (ge_callG tk G__law_back_motion (hr.mono (by omega)) (by rfl) (gv_d (ge_nm (pv 0)) gv_nil))) (gp_cons (ge_blt call_abs crm_abs (by rfl) B.b_abs rfl (gx_cons (ge_nm (pv 1)) gx_nil)) gp_nil))))
  (gss_cons (gs_while (passes_of rfl) (gt_cmp op_gt (opm_cmp _) (nomark _) (ge_nm (pv 4)) ge_int)
  (gss_cons (gs_set (ps_set (i := 2) sc__law_power_motion.nd rfl (Or.inl rfl) (ge_if (gt_cmp (op_eqD (Room.h64 hr)) opm_eq (nomark _) (ge_bin op_modN opm_mod (ge_nm (pv 4)) ge_int) ge_int) (ge_callG tk G__law_then_motion (hr.mono (by omega)) (by rfl) (gv_d (ge_nm (pv 2)) (gv_d (ge_nm (pv 3)) gv_nil))) (ge_nm (pv 2)))))
  (gss_one (gs_par (i := 3) (j := 4) rfl sc__law_power_motion.nd rfl rfl (by decide) rfl rfl (gp_cons (ge_callG tk G__law_then_motion (hr.mono (by omega)) (by rfl) (gv_d (ge_nm (pv 3)) (gv_d (ge_nm (pv 3)) gv_nil))) (gp_cons (ge_bin op_fdivA opm_fdiv (ge_nm (pv 4)) ge_int) gp_nil))))))
  (gss_one (gs_ret (ge_nm (pv 2))))))
theorem g__law_motion_by (B : Bn mg) (C : Ct K mg) (D : Df K mg "_law_motion_by" s__law_motion_by) (G__law_take : Gd P w K mg base tb 1 "_law_take" ["jar", "many"] m__law_take) (G__law_small : Gd P w K mg base tb 2 "_law_small" ["jar", "most"] m__law_small) : Gd P w K mg base tb 3 "_law_motion_by" ["jar", "kind", "most"] m__law_motion_by :=
  gd_of (N := N__law_motion_by) (ps := ["jar", "kind", "most"]) (body := b__law_motion_by) D sc__law_motion_by ab__law_motion_by fun f cdv A outer s H E hr tk => by
  exact (gss_cons (gs_par (i := 3) (j := 4) rfl sc__law_motion_by.nd rfl rfl (by decide) rfl rfl (gp_cons (ge_callG tk G__law_small (hr.mono (by omega)) (by rfl) (gv_io (ge_nm (pv 0)) (gv_d (ge_nm (pv 2)) gv_nil))) (gp_cons (ge_callG tk G__law_small (hr.mono (by omega)) (by rfl) (gv_io (ge_nm (pv 0)) (gv_d (ge_nm (pv 2)) gv_nil))) gp_nil)))
  (gss_cons (gs_if (gt_cmp (op_eqD (Room.h64 hr)) opm_eq (nomark _) (ge_nm (pv 1)) ge_str)
  (gss_one (gs_ret (ge_tup (ga_cons ge_int (ga_cons ge_int (ga_cons ge_int (ga_cons ge_int ga_nil)))))))
  gss_nil)
  (gss_cons (gs_if (gt_cmp (op_eqD (Room.h64 hr)) opm_eq (nomark _) (ge_nm (pv 1)) ge_str)
  (gss_one (gs_ret (ge_if (gt_cmp (op_neD (Room.h64 hr)) opm_ne (nomark _) (ge_tup (ga_cons (ge_nm (pv 3)) (ga_cons (ge_nm (pv 4)) ga_nil))) (ge_tup (ga_cons ge_int (ga_cons ge_int ga_nil)))) (ge_tup (ga_cons ge_int (ga_cons ge_int (ga_cons (ge_nm (pv 3)) (ga_cons (ge_nm (pv 4)) ga_nil))))) (ge_tup (ga_cons ge_int (ga_cons ge_int (ga_cons ge_int (ga_cons ge_int ga_nil))))))))
  gss_nil)
  (gss_cons (gs_if (gt_cmp (op_eqD (Room.h64 hr)) opm_eq (nomark _) (ge_nm (pv 1)) ge_str)
  (gss_one (gs_ret (ge_tup (ga_cons (ge_bin op_addA opm_add ge_int (ge_callG tk G__law_take (hr.mono (by omega)) (by rfl) (gv_io (ge_nm (pv 0)) (gv_d ge_int gv_nil)))) (ga_cons ge_int (ga_cons (ge_nm (pv 3)) (ga_cons (ge_nm (pv 4)) ga_nil)))))))
  gss_nil)
  (gss_cons (gs_par (i := 5) (j := 6) rfl sc__law_motion_by.nd rfl rfl (by decide) rfl rfl (gp_cons (ge_callG tk G__law_take (hr.mono (by omega)) (by rfl) (gv_io (ge_nm (pv 0)) (gv_d ge_int gv_nil))) (gp_cons (ge_if (gt_cmp (op_neD (Room.h64 hr)) opm_ne (nomark _) (ge_nm (pv 3)) ge_int) (ge_nm (pv 3)) ge_int) gp_nil)))
  (gss_cons (gs_set (ps_set (i := 7) sc__law_motion_by.nd rfl (Or.inl rfl) (ge_ix (ge_lst (ga_cons (ge_tup (ga_cons ge_int (ga_cons (ge_nm (pv 4)) ga_nil))) (ga_cons (ge_tup (ga_cons (ge_nm (pv 4)) (ga_cons (ge_neg (ge_nm (pv 4))) ga_nil))) (ga_cons (ge_tup (ga_cons (ge_nm (pv 4)) (ga_cons ge_int ga_nil))) (ga_cons (ge_tup (ga_cons (ge_nm (pv 4)) (ga_cons (ge_nm (pv 4)) ga_nil))) ga_nil))))) (ge_nm (pv 5)))))
  (gss_cons (gs_set (ps_set (i := 8) sc__law_motion_by.nd rfl (Or.inl rfl) (ge_ix (ge_lst (ga_cons (ge_tup (ga_cons (ge_nm (pv 6)) (ga_cons ge_int ga_nil))) (ga_cons (ge_tup (ga_cons (ge_nm (pv 6)) (ga_cons ge_int ga_nil))) (ga_cons (ge_tup (ga_cons ge_int (ga_cons (ge_nm (pv 6)) ga_nil))) (ga_cons (ge_tup (ga_cons (ge_nm (pv 6)) (ga_cons ge_int ga_nil))) ga_nil))))) (ge_nm (pv 5)))))
  (gss_one (gs_ret (ge_bin op_addA opm_add (ge_tup (ga_cons (ge_nm (pv 5)) (ga_cons ge_int ga_nil))) (ge_if (gt_cmp (op_eqD (Room.h64 hr)) opm_eq (nomark _) (ge_nm (pv 1)) ge_str) (ge_nm (pv 7)) (ge_tup (ga_cons (ge_bin op_addA opm_add (ge_ix (ge_nm (pv 7)) ge_int) (ge_ix (ge_nm (pv 8)) ge_int)) (ga_cons (ge_bin op_addA opm_add (ge_ix (ge_nm (pv 7)) ge_int) (ge_ix (ge_nm (pv 8)) ge_int)) ga_nil))))))))))))))
theorem g__law_ld_running (B : Bn mg) (C : Ct K mg) (D : Df K mg "_law_ld_running" s__law_ld_running) (G__law_small : Gd P w K mg base tb 2 "_law_small" ["jar", "most"] m__law_small) (G__law_one : Gd P w K mg base tb 2 "_law_one" ["jar", "things"] m__law_one) : Gd P w K mg base tb 3 "_law_ld_running" ["jar"] m__law_ld_running :=
  gd_of (N := N__law_ld_running) (ps := ["jar"]) (body := b__law_ld_running) D sc__law_ld_running ab__law_ld_running fun f cdv A outer s H E hr tk => by
  exact (gss_cons (gs_par (i := 1) (j := 2) rfl sc__law_ld_running.nd rfl rfl (by decide) rfl rfl (gp_cons (ge_callG tk G__law_one (hr.mono (by omega)) (by rfl) (gv_io (ge_nm (pv 0)) (gv_d (ge_lst (ga_cons ge_int (ga_cons (ge_neg ge_int) (ga_cons ge_int (ga_cons ge_int (ga_cons ge_int (ga_cons ge_int (ga_cons ge_int (ga_cons ge_int (ga_cons (ge_neg ge_int) ga_nil)))))))))) gv_nil))) (gp_cons (ge_callG tk G__law_small (hr.mono (by omega)) (by rfl) (gv_io (ge_nm (pv 0)) (gv_d ge_int gv_nil))) gp_nil)))
  (gss_cons (gs_set (ps_set (i := 3) sc__law_ld_running.nd rfl (Or.inl rfl) (ge_lst (ga_cons (ge_tup (ga_cons ge_int (ga_cons ge_int (ga_cons (ge_nm (pv 1)) (ga_cons (ge_nm (pv 2)) ga_nil))))) (ga_cons (ge_tup (ga_cons ge_int (ga_cons ge_int (ga_cons (ge_nm (pv 2)) (ga_cons (ge_nm (pv 1)) ga_nil))))) (ga_cons (ge_tup (ga_cons ge_int (ga_cons ge_int (ga_cons (ge_nm (pv 1)) (ga_cons (ge_nm (pv 2)) ga_nil))))) (ga_cons (ge_tup (ga_cons ge_int (ga_cons ge_int (ga_cons (ge_nm (pv 2)) (ga_cons (ge_nm (pv 1)) ga_nil))))) (ga_cons (ge_tup (ga_cons ge_int (ga_cons ge_int (ga_cons (ge_nm (pv 1)) (ga_cons ge_int ga_nil))))) (ga_cons (ge_tup (ga_cons ge_int (ga_cons ge_int (ga_cons (ge_nm (pv 1)) (ga_cons ge_int ga_nil))))) ga_nil)))))))))
  (gss_cons (gs_expr (ge_extend (ge_nm (pv 3)) (ge_lst (ga_cons (ge_tup (ga_cons ge_int (ga_cons ge_int (ga_cons (ge_nm (pv 1)) (ga_cons (ge_nm (pv 1)) ga_nil))))) (ga_cons (ge_tup (ga_cons ge_int (ga_cons ge_int (ga_cons ge_int (ga_cons (ge_nm (pv 1)) ga_nil))))) (ga_cons (ge_tup (ga_cons ge_int (ga_cons ge_int (ga_cons ge_int (ga_cons (ge_nm (pv 1)) ga_nil))))) (ga_cons (ge_tup (ga_cons ge_int (ga_cons ge_int (ga_cons (ge_nm (pv 1)) (ga_cons ge_int ga_nil))))) ga_nil)))))))
  (gss_one (gs_ret (ge_callG tk G__law_one (hr.mono (by omega)) (by rfl) (gv_io (ge_nm (pv 0)) (gv_d (ge_nm (pv 3)) gv_nil))))))))
theorem g_runs (B : Bn mg) (C : Ct K mg) (D : Df K mg "runs" s_runs) (G_raw_way : Gd P w K mg base tb 3 "raw_way" ["motion"] m_raw_way) : Gd P w K mg base tb 4 "runs" ["motion"] m_runs :=
  gd_of (N := N_runs) (ps := ["motion"]) (body := b_runs) D sc_runs ab_runs fun f cdv A outer s H E hr tk => by
  exact (gss_one (gs_ret (ge_cmp (op_neD (Room.h64 hr)) opm_ne (nomark _) (ge_callG tk G_raw_way (hr.mono (by omega)) (by rfl) (gv_d (ge_nm (pv 0)) gv_nil)) (ge_tup (ga_cons ge_int (ga_cons ge_int ga_nil))))))
theorem g_running_lead (B : Bn mg) (C : Ct K mg) (D : Df K mg "running_lead" s_running_lead) (G_spun : Gd P w K mg base tb 1 "spun" ["motion", "x", "y"] m_spun) (G_rise_by : Gd P w K mg base tb 1 "rise_by" ["way", "motion"] m_rise_by) (G_level_of : Gd P w K mg base tb 1 "level_of" ["way", "x", "y"] m_level_of) (G_far_power : Gd P w K mg base tb 3 "far_power" ["motion", "n"] m_far_power) (G_raw_way : Gd P w K mg base tb 3 "raw_way" ["motion"] m_raw_way) : Gd P w K mg base tb 4 "running_lead" ["motion", "x", "y"] m_running_lead :=
  gd_of (N := N_running_lead) (ps := ["motion", "x", "y"]) (body := b_running_lead) D sc_running_lead ab_running_lead fun f cdv A outer s H E hr tk => by
  exact (gss_cons (gs_set (ps_set (i := 3) sc_running_lead.nd rfl (Or.inl rfl) (ge_callG tk G_raw_way (hr.mono (by omega)) (by rfl) (gv_d (ge_nm (pv 0)) gv_nil))))
  (gss_cons (gs_set (ps_set (i := 4) sc_running_lead.nd rfl (Or.inl rfl) (ge_bin op_fdivA opm_fdiv (ge_callG tk G_level_of (hr.mono (by omega)) (by rfl) (gv_d (ge_nm (pv 3)) (gv_d (ge_nm (pv 1)) (gv_d (ge_nm (pv 2)) gv_nil)))) (ge_callG tk G_rise_by (hr.mono (by omega)) (by rfl) (gv_d (ge_nm (pv 3)) (gv_d (ge_nm (pv 0)) gv_nil))))))
  (gss_cons (gs_asg (ge_callG tk G_spun (hr.mono (by omega)) (by rfl) (gv_d (ge_callG tk G_far_power (hr.mono (by omega)) (by rfl) (gv_d (ge_nm (pv 0)) (gv_d (ge_neg (ge_nm (pv 4))) gv_nil))) (gv_d (ge_nm (pv 1)) (gv_d (ge_nm (pv 2)) gv_nil)))) (gg_tup rfl (ggs_cons (gg_name (pg_name (i := 5) sc_running_lead.nd rfl (Or.inl rfl))) (ggs_cons (gg_name (pg_name (i := 6) sc_running_lead.nd rfl (Or.inl rfl))) ggs_nil))) (nox_tup (noxs_cons nox_name (noxs_cons nox_name noxs_nil))))
  (gss_one (gs_ret (ge_tup (ga_cons (ge_nm (pv 5)) (ga_cons (ge_nm (pv 6)) (ga_cons (ge_nm (pv 4)) ga_nil)))))))))
theorem g__law_way_of (B : Bn mg) (C : Ct K mg) (D : Df K mg "_law_way_of" s__law_way_of) (G__law_power_motion : Gd P w K mg base tb 3 "_law_power_motion" ["g", "n"] m__law_power_motion) : Gd P w K mg base tb 4 "_law_way_of" ["g"] m__law_way_of :=
  gd_of (N := N__law_way_of) (ps := ["g"]) (body := b__law_way_of) D sc__law_way_of ab__law_way_of fun f cdv A outer s H E hr tk => by
  exact (gss_cons (gs_set (ps_set (i := 1) sc__law_way_of.nd rfl (Or.inl rfl) (ge_if (gt_cmp (op_eqD (Room.h64 hr)) opm_eq (nomark _) (ge_sl (ge_nm (pv 0)) go_none (go_some ge_int)) (ge_tup (ga_cons ge_int (ga_cons ge_int ga_nil)))) (ge_nm (pv 0)) (ge_callG tk G__law_power_motion (hr.mono (by omega)) (by rfl) (gv_d (ge_nm (pv 0)) (gv_d ge_int gv_nil))))))
  (gss_one (gs_ret (ge_tup (ga_cons (ge_ix (ge_nm (pv 1)) ge_int) (ga_cons (ge_ix (ge_nm (pv 1)) ge_int) ga_nil))))))
theorem g__law_standing_motion (B : Bn mg) (C : Ct K mg) (D : Df K mg "_law_standing_motion" s__law_standing_motion) (G__law_one : Gd P w K mg base tb 2 "_law_one" ["jar", "things"] m__law_one) (G__law_motion_by : Gd P w K mg base tb 3 "_law_motion_by" ["jar", "kind", "most"] m__law_motion_by) : Gd P w K mg base tb 4 "_law_standing_motion" ["jar", "most"] m__law_standing_motion :=
  gd_of (N := N__law_standing_motion) (ps := ["jar", "most"]) (body := b__law_standing_motion) D sc__law_standing_motion ab__law_standing_motion fun f cdv A outer s H E hr tk => by
  exact (gss_one (gs_ret (ge_callG tk G__law_motion_by (hr.mono (by omega)) (by rfl) (gv_io (ge_nm (pv 0)) (gv_d (ge_callG tk G__law_one (hr.mono (by omega)) (by rfl) (gv_io (ge_nm (pv 0)) (gv_d (ge_lst (ga_cons ge_str (ga_cons ge_str (ga_cons ge_str (ga_cons ge_str ga_nil))))) gv_nil))) (gv_d (ge_nm (pv 1)) gv_nil))))))
theorem g_raw_order (B : Bn mg) (C : Ct K mg) (D : Df K mg "raw_order" s_raw_order) (G_runs : Gd P w K mg base tb 4 "runs" ["motion"] m_runs) : Gd P w K mg base tb 5 "raw_order" ["motion"] m_raw_order :=
  gd_of (N := N_raw_order) (ps := ["motion"]) (body := b_raw_order) D sc_raw_order ab_raw_order fun f cdv A outer s H E hr tk => by
  exact (gss_cons (gs_if (gt_val (ge_callG tk G_runs (hr.mono (by omega)) (by rfl) (gv_d (ge_nm (pv 0)) gv_nil)))
  (gss_one (gs_ret ge_int))
  gss_nil)
  (gss_cons (gs_if (PW.pt (gw_or (gt_cmp (op_eqD (Room.h64 hr)) opm_eq (nomark _) (ge_ix (ge_nm (pv 0)) ge_int) ge_int) (gw_or1 (gt_cmp (op_eqD (Room.h64 hr)) opm_eq (nomark _) (ge_ix (ge_nm (pv 0)) ge_int) ge_int))))
  (gss_one (gs_ret ge_int))
  gss_nil)
  (gss_one (gs_ret (ge_if (gt_cmp (op_eqD (Room.h64 hr)) opm_eq (nomark _) (ge_ix (ge_nm (pv 0)) ge_int) ge_int) ge_int ge_int)))))
theorem g__law_level_of (B : Bn mg) (C : Ct K mg) (D : Df K mg "_law_level_of" s__law_level_of) (G__law_way_of : Gd P w K mg base tb 4 "_law_way_of" ["g"] m__law_way_of) : Gd P w K mg base tb 5 "_law_level_of" ["g", "x", "y"] m__law_level_of :=
  gd_of (N := N__law_level_of) (ps := ["g", "x", "y"]) (body := b__law_level_of) D sc__law_level_of ab__law_level_of fun f cdv A outer s H E hr tk => by
  exact (gss_cons (gs_set (ps_set (i := 3) sc__law_level_of.nd rfl (Or.inl rfl) (ge_callG tk G__law_way_of (hr.mono (by omega)) (by rfl) (gv_d (ge_nm (pv 0)) gv_nil))))
  (gss_one (gs_ret (ge_bin op_addA opm_add (ge_mul (ge_ix (ge_nm (pv 3)) ge_int) (ge_nm (pv 1))) (ge_mul (ge_ix (ge_nm (pv 3)) ge_int) (ge_nm (pv 2)))))))
theorem g__law_ld_at (B : Bn mg) (C : Ct K mg) (D : Df K mg "_law_ld_at" s__law_ld_at) (G__law_moved_dot : Gd P w K mg base tb 1 "_law_moved_dot" ["g", "x", "y"] m__law_moved_dot) (G__law_way_of : Gd P w K mg base tb 4 "_law_way_of" ["g"] m__law_way_of) : Gd P w K mg base tb 5 "_law_ld_at" ["g", "n", "dot"] m__law_ld_at :=
  gd_of (N := N__law_ld_at) (ps := ["g", "n", "dot"]) (body := b__law_ld_at) D sc__law_ld_at ab__law_ld_at fun f cdv A outer s H E hr tk => by
  exact (gss_cons (gs_if (gt_cmp (op_eqD (Room.h64 hr)) opm_eq (nomark _) (ge_ix (ge_nm (pv 0)) ge_int) ge_int)
  (gss_one (gs_ret (ge_tup (ga_cons (ge_bin op_addA opm_add (ge_ix (ge_nm (pv 2)) ge_int) (ge_mul (ge_nm (pv 1)) (ge_ix (ge_nm (pv 0)) ge_int))) (ga_cons (ge_bin op_addA opm_add (ge_ix (ge_nm (pv 2)) ge_int) (ge_mul (ge_nm (pv 1)) (ge_ix (ge_nm (pv 0)) ge_int))) ga_nil)))))
  gss_nil)
  (gss_cons (gs_set (ps_set (i := 3) sc__law_ld_at.nd rfl (Or.inl rfl) (ge_callG tk G__law_way_of (hr.mono (by omega)) (by rfl) (gv_d (ge_nm (pv 0)) gv_nil))))
  (gss_cons (gs_set (ps_set (i := 4) sc__law_ld_at.nd rfl (Or.inl rfl) (ge_if (gt_cmp (op_eqD (Room.h64 hr)) opm_eq (nomark _) (ge_bin op_modN opm_mod (ge_nm (pv 1)) ge_int) ge_int) (ge_nm (pv 2)) (ge_callG tk G__law_moved_dot (hr.mono (by omega)) (by rfl) (gv_d (ge_nm (pv 0)) (gv_d (ge_ix (ge_nm (pv 2)) ge_int) (gv_d (ge_ix (ge_nm (pv 2)) ge_int) gv_nil)))))))
  (gss_one (gs_ret (ge_tup (ga_cons (ge_bin op_addA opm_add (ge_ix (ge_nm (pv 4)) ge_int) (ge_mul (ge_bin op_fdivA opm_fdiv (ge_nm (pv 1)) ge_int) (ge_ix (ge_nm (pv 3)) ge_int))) (ga_cons (ge_bin op_addA opm_add (ge_ix (ge_nm (pv 4)) ge_int) (ge_mul (ge_bin op_fdivA opm_fdiv (ge_nm (pv 1)) ge_int) (ge_ix (ge_nm (pv 3)) ge_int))) ga_nil))))))))
theorem g_lead_of (B : Bn mg) (C : Ct K mg) (D : Df K mg "lead_of" s_lead_of) (G_spun : Gd P w K mg base tb 1 "spun" ["motion", "x", "y"] m_spun) (G_runs : Gd P w K mg base tb 4 "runs" ["motion"] m_runs) (G_running_lead : Gd P w K mg base tb 4 "running_lead" ["motion", "x", "y"] m_running_lead) (G_raw_order : Gd P w K mg base tb 5 "raw_order" ["motion"] m_raw_order) : Gd P w K mg base tb 6 "lead_of" ["motion", "x", "y"] m_lead_of :=
  gd_of (N := N_lead_of) (ps := ["motion", "x", "y"]) (body := b_lead_of) D sc_lead_of ab_lead_of fun f cdv A outer s H E hr tk => by
  exact (gss_cons (gs_if (gt_val (ge_callG tk G_runs (hr.mono (by omega)) (by rfl) (gv_d (ge_nm (pv 0)) gv_nil)))
  (gss_one (gs_ret (ge_callG tk G_running_lead (hr.mono (by omega)) (by rfl) (gv_d (ge_nm (pv 0)) (gv_d (ge_nm (pv 1)) (gv_d (ge_nm (pv 2)) gv_nil))))))
  gss_nil)
  (gss_cons (gs_par (i := 3) (j := 4) rfl sc_lead_of.nd rfl rfl (by decide) rfl rfl (gp_cons (ge_lst ga_nil) (gp_cons (ge_tup (ga_cons (ge_nm (pv 1)) (ga_cons (ge_nm (pv 2)) ga_nil))) gp_nil)))
  (gss_cons (gs_for (passes_of rfl) rfl (gi_rng1 (by rfl) B.b_range (gx_cons (ge_callG tk G_raw_order (hr.mono (by omega)) (by rfl) (gv_d (ge_nm (pv 0)) gv_nil)) gx_nil)) (gg_name (pg_name (i := 5) sc_lead_of.nd rfl (Or.inl rfl))) nox_name
  (gss_cons (gs_expr (ge_append (ge_nm (pv 3)) (ga_cons (ge_nm (pv 4)) ga_nil)))
  (gss_one (gs_set (ps_set (i := 4) sc_lead_of.nd rfl (Or.inl rfl) (ge_callG tk G_spun (hr.mono (by omega)) (by rfl) (gv_d (ge_nm (pv 0)) (gv_d (ge_ix (ge_nm (pv 4)) ge_int) (gv_d (ge_ix (ge_nm (pv 4)) ge_int) gv_nil)))))))))
  (gss_cons (gs_set (ps_set (i := 6) sc_lead_of.nd rfl (Or.inl rfl) (ge_blt (cr_minA rfl (Room.h64 hr)) crm_minA (by rfl) B.b_min rfl (gx_cons (ge_nm (pv 3)) gx_nil))))
  (gss_cons (gs_par (i := 4) (j := 7) rfl sc_lead_of.nd rfl rfl (by decide) rfl rfl (gp_cons (ge_nm (pv 6)) (gp_cons ge_int gp_nil)))
  (gss_cons (gs_while (passes_of rfl) (gt_cmp (op_neD (Room.h64 hr)) opm_ne (nomark _) (ge_nm (pv 4)) (ge_tup (ga_cons (ge_nm (pv 1)) (ga_cons (ge_nm (pv 2)) ga_nil))))
  (gss_one (gs_par (i := 4) (j := 7) rfl sc_lead_of.nd rfl rfl (by decide) rfl rfl (gp_cons (ge_callG tk G_spun (hr.mono (by omega)) (by rfl) (gv_d (ge_nm (pv 0)) (gv_d (ge_ix (ge_nm (pv 4)) ge_int) (gv_d (ge_ix (ge_nm (pv 4)) ge_int) gv_nil)))) (gp_cons (ge_bin op_addA opm_add (ge_nm (pv 7)) ge_int) gp_nil)))))
  (gss_one (gs_ret (ge_tup (ga_cons (ge_ix (ge_nm (pv 6)) ge_int) (ga_cons (ge_ix (ge_nm (pv 6)) ge_int) (ga_cons (ge_nm (pv 7)) ga_nil))))))))))))
theorem g__law_rise_of (B : Bn mg) (C : Ct K mg) (D : Df K mg "_law_rise_of" s__law_rise_of) (G__law_level_of : Gd P w K mg base tb 5 "_law_level_of" ["g", "x", "y"] m__law_level_of) : Gd P w K mg base tb 6 "_law_rise_of" ["g"] m__law_rise_of :=
  gd_of (N := N__law_rise_of) (ps := ["g"]) (body := b__law_rise_of) D sc__law_rise_of ab__law_rise_of fun f cdv A outer s H E hr tk => by
  exact (gss_one (gs_ret (ge_callG tk G__law_level_of (hr.mono (by omega)) (by rfl) (gv_d (ge_nm (pv 0)) (gv_d (ge_ix (ge_nm (pv 0)) ge_int) (gv_d (ge_ix (ge_nm (pv 0)) ge_int) gv_nil))))))
theorem g_lead (B : Bn mg) (C : Ct K mg) (D : Df K mg "lead" s_lead) (G_made_motion : Gd P w K mg base tb 3 "made_motion" ["thing"] m_made_motion) (G_asked_dot : Gd P w K mg base tb 3 "asked_dot" ["dot"] m_asked_dot) (G_lead_of : Gd P w K mg base tb 6 "lead_of" ["motion", "x", "y"] m_lead_of) : Gd P w K mg base tb 7 "lead" ["motion", "dot"] m_lead :=
  gd_of (N := N_lead) (ps := ["motion", "dot"]) (body := b_lead) D sc_lead ab_lead fun f cdv A outer s H E hr tk => by
  exact (gss_cons (gs_set (ps_set (i := 0) sc_lead.nd rfl (Or.inl rfl) (ge_callG tk G_made_motion (hr.mono (by omega)) (by rfl) (gv_d (ge_nm (pv 0)) gv_nil))))
  (gss_cons (gs_set (ps_set (i := 1) sc_lead.nd rfl (Or.inl rfl) (ge_callG tk G_asked_dot (hr.mono (by omega)) (by rfl) (gv_d (ge_nm (pv 1)) gv_nil))))
  (gss_cons (gs_asg (ge_callG tk G_lead_of (hr.mono (by omega)) (by rfl) (gv_d (ge_nm (pv 0)) (gv_d (ge_ix (ge_nm (pv 1)) ge_int) (gv_d (ge_ix (ge_nm (pv 1)) ge_int) gv_nil)))) (gg_tup rfl (ggs_cons (gg_name (pg_name (i := 2) sc_lead.nd rfl (Or.inl rfl))) (ggs_cons (gg_name (pg_name (i := 3) sc_lead.nd rfl (Or.inl rfl))) (ggs_cons (gg_name (pg_name (i := 4) sc_lead.nd rfl (Or.inl rfl))) ggs_nil)))) (nox_tup (noxs_cons nox_name (noxs_cons nox_name (noxs_cons nox_name noxs_nil)))))
  (gss_one (gs_ret (ge_tup (ga_cons (ge_tup (ga_cons (ge_nm (pv 2)) (ga_cons (ge_nm (pv 3)) ga_nil))) (ga_cons (ge_nm (pv 4)) ga_nil))))))))
theorem g__law_ld_first (B : Bn mg) (C : Ct K mg) (D : Df K mg "_law_ld_first" s__law_ld_first) (G__law_level : Gd P w K mg base tb 1 "_law_level" ["way", "x", "y"] m__law_level) (G__law_way_of : Gd P w K mg base tb 4 "_law_way_of" ["g"] m__law_way_of) (G__law_ld_at : Gd P w K mg base tb 5 "_law_ld_at" ["g", "n", "dot"] m__law_ld_at) (G__law_rise_of : Gd P w K mg base tb 6 "_law_rise_of" ["g"] m__law_rise_of) : Gd P w K mg base tb 7 "_law_ld_first" ["g", "dot"] m__law_ld_first :=
  gd_of (N := N__law_ld_first) (ps := ["g", "dot"]) (body := b__law_ld_first) D sc__law_ld_first ab__law_ld_first fun f cdv A outer s H E hr tk => by
  exact (gss_cons (gs_set (ps_set (i := 2) sc__law_ld_first.nd rfl (Or.inl rfl) (ge_bin op_fdivA opm_fdiv (ge_callG tk G__law_level (hr.mono (by omega)) (by rfl) (gv_d (ge_callG tk G__law_way_of (hr.mono (by omega)) (by rfl) (gv_d (ge_nm (pv 0)) gv_nil)) (gv_d (ge_ix (ge_nm (pv 1)) ge_int) (gv_d (ge_ix (ge_nm (pv 1)) ge_int) gv_nil)))) (ge_callG tk G__law_rise_of (hr.mono (by omega)) (by rfl) (gv_d (ge_nm (pv 0)) gv_nil)))))
  (gss_one (gs_ret (ge_tup (ga_cons (ge_callG tk G__law_ld_at (hr.mono (by omega)) (by rfl) (gv_d (ge_nm (pv 0)) (gv_d (ge_neg (ge_nm (pv 2))) (gv_d (ge_nm (pv 1)) gv_nil)))) (ga_cons (ge_nm (pv 2)) ga_nil))))))
theorem g__law_yq_same (B : Bn mg) (C : Ct K mg) (D : Df K mg "_law_yq_same" s__law_yq_same) (G__law_yq_is_whole : Gd P w K mg base tb 1 "_law_yq_is_whole" ["thing"] m__law_yq_is_whole) : ∀ n, Gd P w K mg base tb (1 + n) "_law_yq_same" ["heard_one", "owed"] (m__law_yq_same n)
  | 0 => (gd_dead D ab__law_yq_same).mono (Nat.zero_le _)
  | n + 1 => by
    have G_rec := g__law_yq_same B C D G__law_yq_is_whole n
    exact gd_of (N := N__law_yq_same) (ps := ["heard_one", "owed"]) (body := b__law_yq_same (m__law_yq_same n)) D sc__law_yq_same ab__law_yq_same fun f cdv A outer s H E hr tk => by
      have hr : Room (1 + n) _ := hr
      exact (gss_cons (gs_if (gt_cmp op_isN opm_isN (nomark _) (ge_nm (pv 1)) ge_none)
  (gss_one (gs_ret (ge_cmp op_isN opm_isN (nomark _) (ge_nm (pv 0)) ge_none)))
  gss_nil)
  (gss_cons (gs_if (gt_val (ge_isi (ge_nm (pv 1)) (by rfl) B.b_isinstance (by rfl) B.b_bool rfl))
  (gss_one (gs_ret (ge_if (gt_val (ge_nm (pv 1))) (ge_cmp op_isBl opm_isB (nomark _) (ge_nm (pv 0)) ge_bool) (ge_cmp op_isBl opm_isB (nomark _) (ge_nm (pv 0)) ge_bool))))
  gss_nil)
  (gss_cons (gs_if (gt_val (ge_isi (ge_nm (pv 1)) (by rfl) B.b_isinstance (by rfl) B.b_int rfl))
  (gss_one (gs_ret (ge_and (ge_callG tk G__law_yq_is_whole (hr.mono (by omega)) (by rfl) (gv_d (ge_nm (pv 0)) gv_nil)) (ge_one (ge_cmp (op_eqD (Room.h64 hr)) opm_eq (nomark _) (ge_nm (pv 0)) (ge_nm (pv 1)))))))
  gss_nil)
  (gss_cons (gs_if (gt_val (ge_isi (ge_nm (pv 1)) (by rfl) B.b_isinstance (by rfl) B.b_str rfl))
  (gss_one (gs_ret (ge_and (ge_isi (ge_nm (pv 0)) (by rfl) B.b_isinstance (by rfl) B.b_str rfl) (ge_one (ge_cmp (op_eqD (Room.h64 hr)) opm_eq (nomark _) (ge_nm (pv 0)) (ge_nm (pv 1)))))))
  gss_nil)
  (gss_cons (gs_if (PW.pt (gw_and (gt_not (gt_val (ge_isi (ge_nm (pv 1)) (by rfl) B.b_isinstance (by rfl) B.b_tuple rfl))) (gw_and1 (gt_not (gt_val (ge_isi (ge_nm (pv 1)) (by rfl) B.b_isinstance (by rfl) B.b_list rfl))))))
  (gss_one (gs_ret (ge_bty call_bool1 crm_bool (by rfl) B.b_bool rfl (gx_cons (ge_cmp (op_eqD (Room.h64 hr)) opm_eq (nomark _) (ge_nm (pv 0)) (ge_nm (pv 1))) gx_nil))))
  gss_nil)
  (gss_cons (gs_if (gt_cmp (op_neD (Room.h64 hr)) opm_ne (nomark _) (ge_isi (ge_nm (pv 1)) (by rfl) B.b_isinstance (by rfl) B.b_tuple rfl) (ge_isi (ge_nm (pv 0)) (by rfl) B.b_isinstance (by rfl) B.b_tuple rfl))
  (gss_one (gs_ret ge_bool))
  gss_nil)
  (gss_cons (gs_if (gt_cmp (op_neD (Room.h64 hr)) opm_ne (nomark _) (ge_isi (ge_nm (pv 1)) (by rfl) B.b_isinstance (by rfl) B.b_list rfl) (ge_isi (ge_nm (pv 0)) (by rfl) B.b_isinstance (by rfl) B.b_list rfl))
  (gss_one (gs_ret ge_bool))
  gss_nil)
  (gss_cons (gs_if (gt_cmp (op_neD (Room.h64 hr)) opm_ne (nomark _) (ge_blt call_len crm_len (by rfl) B.b_len rfl (gx_cons (ge_nm (pv 0)) gx_nil)) (ge_blt call_len crm_len (by rfl) B.b_len rfl (gx_cons (ge_nm (pv 1)) gx_nil)))
  (gss_one (gs_ret ge_bool))
  gss_nil)
  (gss_cons (gs_for (passes_of rfl) rfl (gi_rng1 (by rfl) B.b_range (gx_cons (ge_blt call_len crm_len (by rfl) B.b_len rfl (gx_cons (ge_nm (pv 1)) gx_nil)) gx_nil)) (gg_name (pg_name (i := 2) sc__law_yq_same.nd rfl (Or.inl rfl))) nox_name
  (gss_one (gs_if (gt_not (gt_val (ge_callG tk G_rec (hr.mono (by omega)) (by rfl) (gv_d (ge_ix (ge_nm (pv 0)) (ge_nm (pv 2))) (gv_d (ge_ix (ge_nm (pv 1)) (ge_nm (pv 2))) gv_nil)))))
  (gss_one (gs_ret ge_bool))
  gss_nil)))
  (gss_one (gs_ret ge_bool)))))))))))
theorem g__law_ld_lead (B : Bn mg) (C : Ct K mg) (D__law_ld_heard : Df K mg "_law_ld_heard" s__law_ld_heard) (G_lead : Gd P w K mg base tb 7 "lead" ["motion", "dot"] m_lead) {c Pt : Addr} (TB : TabB base mg c Pt) (hmT : (Pt, lamQ "_law_ld_lead") ∈ tb) (hu : ∀ p ∈ tb, p.1 = Pt → p.2 = lamQ "_law_ld_lead") (S : SubT K mg subs) (XF : ∀ p ∈ subs, Cls P w K mg base p.1) (KT : KitT K mg subs) (IG : IxG K) (D : DfC K mg "_law_ld_lead" s__law_ld_lead c) : Gd P w K mg base tb 10 "_law_ld_lead" ["g", "dot"] m__law_ld_lead :=
  gd_ofC (N := N__law_ld_lead) (ps := ["g", "dot"]) (body := b__law_ld_lead) D sc__law_ld_lead ab__law_ld_lead fun f A outer s H E hr tk => by
  exact (gss_one (gs_ret (ge_heardD (k := 7) (Ng := N__law_ld_heard) D__law_ld_heard rfl ab__law_ld_heard sc__law_ld_heard rfl (Or.inl rfl) (gh__law_ld_heard B S XF KT IG) (by rfl) TB rfl hmT hu (hr.mono (by omega)) (lamS_by (sc := defScope s__law_ld_lead) (by decide +kernel)) rfl (fun _ _ _ _ _ => rfl) (fun A' outer' s' H' E' f' c' hr' tk' => (ge_callG tk' G_lead (hr'.mono (by omega)) (by rfl) (gv_d (ge_nm (pv 0)) (gv_d (ge_nm (pv 1)) gv_nil)))))))
theorem g__law_ld_running_right (B : Bn mg) (C : Ct K mg) (D : Df K mg "_law_ld_running_right" s__law_ld_running_right) (G__law_level : Gd P w K mg base tb 1 "_law_level" ["way", "x", "y"] m__law_level) (G__law_ld_in : Gd P w K mg base tb 1 "_law_ld_in" ["dot"] m__law_ld_in) (G__law_back_motion : Gd P w K mg base tb 2 "_law_back_motion" ["g"] m__law_back_motion) (G__law_small : Gd P w K mg base tb 2 "_law_small" ["jar", "most"] m__law_small) (G__law_one : Gd P w K mg base tb 2 "_law_one" ["jar", "things"] m__law_one) (G__law_power_motion : Gd P w K mg base tb 3 "_law_power_motion" ["g", "n"] m__law_power_motion) (G__law_ld_running : Gd P w K mg base tb 3 "_law_ld_running" ["jar"] m__law_ld_running) (G__law_way_of : Gd P w K mg base tb 4 "_law_way_of" ["g"] m__law_way_of) (G__law_ld_at : Gd P w K mg base tb 5 "_law_ld_at" ["g", "n", "dot"] m__law_ld_at) (G__law_rise_of : Gd P w K mg base tb 6 "_law_rise_of" ["g"] m__law_rise_of) (G__law_ld_first : Gd P w K mg base tb 7 "_law_ld_first" ["g", "dot"] m__law_ld_first) (G__law_yq_same : ∀ n, Gd P w K mg base tb (1 + n) "_law_yq_same" ["heard_one", "owed"] (m__law_yq_same n)) (G__law_ld_lead : Gd P w K mg base tb 10 "_law_ld_lead" ["g", "dot"] m__law_ld_lead) : Gd P w K mg base tb 11 "_law_ld_running_right" ["jar"] m__law_ld_running_right :=
  gd_of (N := N__law_ld_running_right) (ps := ["jar"]) (body := b__law_ld_running_right) D sc__law_ld_running_right ab__law_ld_running_right fun f cdv A outer s H E hr tk => by
  exact (gss_cons (gs_set (ps_set (i := 1) sc__law_ld_running_right.nd rfl (Or.inl rfl) (ge_callG tk G__law_ld_running (hr.mono (by omega)) (by rfl) (gv_io (ge_nm (pv 0)) gv_nil))))
  (gss_cons (gs_set (ps_set (i := 2) sc__law_ld_running_right.nd rfl (Or.inl rfl) (ge_lst (ga_cons (ge_tup (ga_cons (ge_callG tk G__law_small (hr.mono (by omega)) (by rfl) (gv_io (ge_nm (pv 0)) (gv_d ge_int gv_nil))) (ga_cons (ge_callG tk G__law_small (hr.mono (by omega)) (by rfl) (gv_io (ge_nm (pv 0)) (gv_d ge_int gv_nil))) ga_nil))) (ga_cons (ge_tup (ga_cons ge_int (ga_cons (ge_callG tk G__law_small (hr.mono (by omega)) (by rfl) (gv_io (ge_nm (pv 0)) (gv_d ge_int gv_nil))) ga_nil))) ga_nil)))))
  (gss_cons (gs_set (ps_set (i := 3) sc__law_ld_running_right.nd rfl (Or.inl rfl) (ge_callG tk G__law_one (hr.mono (by omega)) (by rfl) (gv_io (ge_nm (pv 0)) (gv_d (ge_bin op_addA opm_add (ge_nm (pv 2)) (ge_lst (ga_cons (ge_tup (ga_cons (ge_neg ge_int) (ga_cons ge_int ga_nil))) ga_nil))) gv_nil)))))
  (gss_cons (gs_asg (ge_callG tk G__law_ld_first (hr.mono (by omega)) (by rfl) (gv_d (ge_nm (pv 1)) (gv_d (ge_nm (pv 3)) gv_nil))) (gg_tup rfl (ggs_cons (gg_name (pg_name (i := 4) sc__law_ld_running_right.nd rfl (Or.inl rfl))) (ggs_cons (gg_name (pg_name (i := 5) sc__law_ld_running_right.nd rfl (Or.inl rfl))) ggs_nil))) (nox_tup (noxs_cons nox_name (noxs_cons nox_name noxs_nil))))
  (gss_cons (gs_set (ps_set (i := 6) sc__law_ld_running_right.nd rfl (Or.inl rfl) (ge_lst (ga_cons ge_int (ga_cons ge_int (ga_cons (ge_neg ge_int) (ga_cons ge_int (ga_cons (ge_callG tk G__law_small (hr.mono (by omega)) (by rfl) (gv_io (ge_nm (pv 0)) (gv_d ge_int gv_nil))) (ga_cons (ge_callG tk G__law_small (hr.mono (by omega)) (by rfl) (gv_io (ge_nm (pv 0)) (gv_d ge_int gv_nil))) (ga_cons (ge_callG tk G__law_small (hr.mono (by omega)) (by rfl) (gv_io (ge_nm (pv 0)) (gv_d ge_int gv_nil))) (ga_cons (ge_neg (ge_nm (pv 5))) ga_nil)))))))))))
  (gss_cons (gs_for (passes_of rfl) rfl (gi_seq (ge_nm (pv 6))) (gg_name (pg_name (i := 7) sc__law_ld_running_right.nd rfl (Or.inl rfl))) nox_name
  (gss_cons (gs_set (ps_set (i := 8) sc__law_ld_running_right.nd rfl (Or.inl rfl) (ge_callG tk G__law_ld_at (hr.mono (by omega)) (by rfl) (gv_d (ge_nm (pv 1)) (gv_d (ge_bin op_addA opm_add (ge_nm (pv 5)) (ge_nm (pv 7))) (gv_d (ge_nm (pv 4)) gv_nil))))))
  (gss_one (gs_if (PW.pt (gw_and (gt_val (ge_callG tk G__law_ld_in (hr.mono (by omega)) (by rfl) (gv_d (ge_nm (pv 8)) gv_nil))) (gw_and1 (gt_not (gt_val (ge_callG tk (G__law_yq_same 8) (hr.mono (by omega)) (by rfl) (gv_d (ge_callG tk G__law_ld_lead (hr.mono (by omega)) (by rfl) (gv_d (ge_nm (pv 1)) (gv_d (ge_nm (pv 8)) gv_nil))) (gv_d (ge_tup (ga_cons ge_str (ga_cons (ge_tup (ga_cons (ge_nm (pv 4)) (ga_cons (ge_bin op_addA opm_add (ge_nm (pv 5)) (ge_nm (pv 7))) ga_nil))) ga_nil))) gv_nil))))))))
  (gss_one (gs_ret ge_bool))
  gss_nil))))
  (gss_cons (gs_set (ps_set (i := 9) sc__law_ld_running_right.nd rfl (Or.inl rfl) (ge_callG tk G__law_level (hr.mono (by omega)) (by rfl) (gv_d (ge_callG tk G__law_way_of (hr.mono (by omega)) (by rfl) (gv_d (ge_nm (pv 1)) gv_nil)) (gv_d (ge_ix (ge_nm (pv 4)) ge_int) (gv_d (ge_ix (ge_nm (pv 4)) ge_int) gv_nil))))))
  (gss_cons (gs_if (gt_not (gt_chain op_le op_lt (opm_cmp _) (opm_cmp _) oCmp_bool ge_int (ge_nm (pv 9)) (ge_callG tk G__law_rise_of (hr.mono (by omega)) (by rfl) (gv_d (ge_nm (pv 1)) gv_nil))))
  (gss_one (gs_ret ge_bool))
  gss_nil)
  (gss_cons (gs_for (passes_of rfl) rfl (gi_seq (ge_lst (ga_cons (ge_callG tk G__law_back_motion (hr.mono (by omega)) (by rfl) (gv_d (ge_nm (pv 1)) gv_nil)) (ga_cons (ge_callG tk G__law_power_motion (hr.mono (by omega)) (by rfl) (gv_d (ge_nm (pv 1)) (gv_d ge_int gv_nil))) (ga_cons (ge_callG tk G__law_power_motion (hr.mono (by omega)) (by rfl) (gv_d (ge_nm (pv 1)) (gv_d ge_int gv_nil))) ga_nil))))) (gg_name (pg_name (i := 10) sc__law_ld_running_right.nd rfl (Or.inl rfl))) nox_name
  (gss_one (gs_if (PW.pt (gw_and (gt_val (ge_callG tk G__law_ld_in (hr.mono (by omega)) (by rfl) (gv_d (ge_sl (ge_nm (pv 10)) (go_some ge_int) go_none) gv_nil))) (gw_and1 (gt_not (gt_val (ge_callG tk (G__law_yq_same 8) (hr.mono (by omega)) (by rfl) (gv_d (ge_callG tk G__law_ld_lead (hr.mono (by omega)) (by rfl) (gv_d (ge_nm (pv 10)) (gv_d (ge_nm (pv 3)) gv_nil))) (gv_d (ge_tup (ga_cons ge_str (ga_cons (ge_callG tk G__law_ld_first (hr.mono (by omega)) (by rfl) (gv_d (ge_nm (pv 10)) (gv_d (ge_nm (pv 3)) gv_nil))) ga_nil))) gv_nil))))))))
  (gss_one (gs_ret ge_bool))
  gss_nil)))
  (gss_one (gs_ret ge_bool)))))))))))
theorem g__law_ld_standing_right (B : Bn mg) (C : Ct K mg) (D : Df K mg "_law_ld_standing_right" s__law_ld_standing_right) (G__law_moved_dot : Gd P w K mg base tb 1 "_law_moved_dot" ["g", "x", "y"] m__law_moved_dot) (G__law_ld_in : Gd P w K mg base tb 1 "_law_ld_in" ["dot"] m__law_ld_in) (G__law_small : Gd P w K mg base tb 2 "_law_small" ["jar", "most"] m__law_small) (G__law_one : Gd P w K mg base tb 2 "_law_one" ["jar", "things"] m__law_one) (G__law_power_motion : Gd P w K mg base tb 3 "_law_power_motion" ["g", "n"] m__law_power_motion) (G__law_standing_motion : Gd P w K mg base tb 4 "_law_standing_motion" ["jar", "most"] m__law_standing_motion) (G__law_yq_same : ∀ n, Gd P w K mg base tb (1 + n) "_law_yq_same" ["heard_one", "owed"] (m__law_yq_same n)) (G__law_ld_lead : Gd P w K mg base tb 10 "_law_ld_lead" ["g", "dot"] m__law_ld_lead) : Gd P w K mg base tb 11 "_law_ld_standing_right" ["jar"] m__law_ld_standing_right :=
  gd_of (N := N__law_ld_standing_right) (ps := ["jar"]) (body := b__law_ld_standing_right) D sc__law_ld_standing_right ab__law_ld_standing_right fun f cdv A outer s H E hr tk => by
  exact (gss_cons (gs_set (ps_set (i := 1) sc__law_ld_standing_right.nd rfl (Or.inl rfl) (ge_callG tk G__law_one (hr.mono (by omega)) (by rfl) (gv_io (ge_nm (pv 0)) (gv_d (ge_lst (ga_cons ge_int (ga_cons ge_int (ga_cons ge_int ga_nil)))) gv_nil)))))
  (gss_cons (gs_set (ps_set (i := 2) sc__law_ld_standing_right.nd rfl (Or.inl rfl) (ge_callG tk G__law_standing_motion (hr.mono (by omega)) (by rfl) (gv_io (ge_nm (pv 0)) (gv_d (ge_nm (pv 1)) gv_nil)))))
  (gss_cons (gs_par (i := 3) (j := 4) rfl sc__law_ld_standing_right.nd rfl rfl (by decide) rfl rfl (gp_cons (ge_callG tk G__law_small (hr.mono (by omega)) (by rfl) (gv_io (ge_nm (pv 0)) (gv_d (ge_nm (pv 1)) gv_nil))) (gp_cons (ge_callG tk G__law_one (hr.mono (by omega)) (by rfl) (gv_io (ge_nm (pv 0)) (gv_d (ge_lst (ga_cons (ge_callG tk G__law_small (hr.mono (by omega)) (by rfl) (gv_io (ge_nm (pv 0)) (gv_d (ge_nm (pv 1)) gv_nil))) (ga_cons ge_int ga_nil))) gv_nil))) gp_nil)))
  (gss_cons (gs_set (ps_set (i := 5) sc__law_ld_standing_right.nd rfl (Or.inr rfl) (ge_lst (ga_cons (ge_tup (ga_cons (ge_nm (pv 3)) (ga_cons (ge_nm (pv 4)) ga_nil))) ga_nil))))
  (gss_cons (gs_for (passes_of rfl) rfl (gi_rng1 (by rfl) B.b_range (gx_cons ge_int gx_nil)) (gg_name (pg_name (i := 6) sc__law_ld_standing_right.nd rfl (Or.inl rfl))) nox_name
  (gss_one (gs_expr (ge_append (ge_nm (pv 5)) (ga_cons (ge_callG tk G__law_moved_dot (hr.mono (by omega)) (by rfl) (gv_d (ge_nm (pv 2)) (gv_d (ge_ix (ge_ix (ge_nm (pv 5)) (ge_neg ge_int)) ge_int) (gv_d (ge_ix (ge_ix (ge_nm (pv 5)) (ge_neg ge_int)) ge_int) gv_nil)))) ga_nil)))))
  (gss_cons (gs_set (ps_set (i := 7) sc__law_ld_standing_right.nd rfl (Or.inr rfl) (ge_blt (cr_minA rfl (Room.h64 hr)) crm_minA (by rfl) B.b_min rfl (gx_cons (ge_nm (pv 5)) gx_nil))))
  (gss_cons (gs_set (ps_set (i := 8) sc__law_ld_standing_right.nd rfl (Or.inr rfl) (ge_ix (ge_lc (own := [("k", 6)]) (vs := [6]) rfl rfl sc__law_ld_standing_right.nd (gi_rng1 (by rfl) B.b_range (gx_cons ge_int gx_nil)) (blkOk_by (N := N__law_ld_standing_right) (sc := defScope s__law_ld_standing_right) (by decide +kernel)) (fun _ _ _ _ _ => (ggv_name (pg_name (i := 6) sc__law_ld_standing_right.nd rfl (Or.inl rfl)))) (fun _ _ _ _ _ => (gts_one (gt_cmp (op_eqD (Room.h64 hr)) opm_eq (nomark _) (ge_ix (ge_nm (pv 5)) (ge_nm (pv 6))) (ge_nm (pv 7))))) (fun _ _ _ _ _ => (ge_nm (pv 6)))) ge_int)))
  (gss_cons (gs_for (passes_of rfl) rfl (gi_rng1 (by rfl) B.b_range (gx_cons ge_int gx_nil)) (gg_name (pg_name (i := 6) sc__law_ld_standing_right.nd rfl (Or.inl rfl))) nox_name
  (gss_cons (gs_set (ps_set (i := 9) sc__law_ld_standing_right.nd rfl (Or.inr rfl) (ge_if (gt_cmp (op_eqD (Room.h64 hr)) opm_eq (nomark _) (ge_callG tk G__law_power_motion (hr.mono (by omega)) (by rfl) (gv_d (ge_nm (pv 2)) (gv_d ge_int gv_nil))) (ge_tup (ga_cons ge_int (ga_cons ge_int (ga_cons ge_int (ga_cons ge_int ga_nil)))))) (ge_ix (ge_nm (pv 5)) (ge_bin op_modN opm_mod (ge_bin op_addA opm_add (ge_nm (pv 8)) (ge_nm (pv 6))) ge_int)) ge_none)))
  (gss_cons (gs_set (ps_set (i := 10) sc__law_ld_standing_right.nd rfl (Or.inl rfl) (ge_ix (ge_lc (own := [("n", 11)]) (vs := [11]) rfl rfl sc__law_ld_standing_right.nd (gi_rng1 (by rfl) B.b_range (gx_cons ge_int gx_nil)) (blkOk_by (N := N__law_ld_standing_right) (sc := defScope s__law_ld_standing_right) (by decide +kernel)) (fun _ _ _ _ _ => (ggv_name (pg_name (i := 11) sc__law_ld_standing_right.nd rfl (Or.inl rfl)))) (fun _ _ _ _ _ => (gts_one (gt_cmp (op_eqD (Room.h64 hr)) opm_eq (nomark _) (ge_ix (ge_nm (pv 5)) (ge_bin op_modN opm_mod (ge_bin op_addA opm_add (ge_nm (pv 8)) (ge_nm (pv 11))) ge_int)) (ge_nm (pv 9))))) (fun _ _ _ _ _ => (ge_nm (pv 11)))) ge_int)))
  (gss_one (gs_if (PW.pt (gw_and (gt_val (ge_callG tk G__law_ld_in (hr.mono (by omega)) (by rfl) (gv_d (ge_nm (pv 9)) gv_nil))) (gw_and1 (gt_not (gt_val (ge_callG tk (G__law_yq_same 8) (hr.mono (by omega)) (by rfl) (gv_d (ge_callG tk G__law_ld_lead (hr.mono (by omega)) (by rfl) (gv_d (ge_nm (pv 2)) (gv_d (ge_nm (pv 9)) gv_nil))) (gv_d (ge_tup (ga_cons ge_str (ga_cons (ge_tup (ga_cons (ge_nm (pv 7)) (ga_cons (ge_nm (pv 10)) ga_nil))) ga_nil))) gv_nil))))))))
  (gss_one (gs_ret ge_bool))
  gss_nil)))))
  (gss_one (gs_ret ge_bool))))))))))
theorem g__law_ld_hand_right (B : Bn mg) (C : Ct K mg) (D : Df K mg "_law_ld_hand_right" s__law_ld_hand_right) (G__law_one : Gd P w K mg base tb 2 "_law_one" ["jar", "things"] m__law_one) (G__law_yq_same : ∀ n, Gd P w K mg base tb (1 + n) "_law_yq_same" ["heard_one", "owed"] (m__law_yq_same n)) (G__law_ld_lead : Gd P w K mg base tb 10 "_law_ld_lead" ["g", "dot"] m__law_ld_lead) : Gd P w K mg base tb 11 "_law_ld_hand_right" ["jar"] m__law_ld_hand_right :=
  gd_of (N := N__law_ld_hand_right) (ps := ["jar"]) (body := b__law_ld_hand_right) D sc__law_ld_hand_right ab__law_ld_hand_right fun f cdv A outer s H E hr tk => by
  exact (gss_cons (gs_set (ps_set (i := 1) sc__law_ld_hand_right.nd rfl (Or.inl rfl) ge_int))
  (gss_cons (gs_set (ps_set (i := 2) sc__law_ld_hand_right.nd rfl (Or.inl rfl) (ge_lst (ga_cons (ge_tup (ga_cons (ge_tup (ga_cons ge_int (ga_cons ge_int (ga_cons ge_int (ga_cons ge_int ga_nil))))) (ga_cons (ge_tup (ga_cons ge_int (ga_cons ge_int ga_nil))) (ga_cons (ge_tup (ga_cons (ge_tup (ga_cons ge_int (ga_cons ge_int ga_nil))) (ga_cons ge_int ga_nil))) ga_nil)))) (ga_cons (ge_tup (ga_cons (ge_tup (ga_cons ge_int (ga_cons ge_int (ga_cons ge_int (ga_cons ge_int ga_nil))))) (ga_cons (ge_tup (ga_cons (ge_neg ge_int) (ga_cons ge_int ga_nil))) (ga_cons (ge_tup (ga_cons (ge_tup (ga_cons ge_int (ga_cons ge_int ga_nil))) (ga_cons (ge_neg ge_int) ga_nil))) ga_nil)))) ga_nil)))))
  (gss_cons (gs_expr (ge_append (ge_nm (pv 2)) (ga_cons (ge_tup (ga_cons (ge_tup (ga_cons ge_int (ga_cons ge_int (ga_cons ge_int (ga_cons ge_int ga_nil))))) (ga_cons (ge_tup (ga_cons ge_int (ga_cons ge_int ga_nil))) (ga_cons (ge_tup (ga_cons (ge_tup (ga_cons ge_int (ga_cons ge_int ga_nil))) (ga_cons ge_int ga_nil))) ga_nil)))) ga_nil)))
  (gss_cons (gs_expr (ge_extend (ge_nm (pv 2)) (ge_lst (ga_cons (ge_tup (ga_cons (ge_tup (ga_cons ge_int (ga_cons ge_int (ga_cons ge_int (ga_cons ge_int ga_nil))))) (ga_cons (ge_tup (ga_cons ge_int (ga_cons ge_int ga_nil))) (ga_cons (ge_tup (ga_cons (ge_tup (ga_cons (ge_neg ge_int) (ga_cons ge_int ga_nil))) (ga_cons ge_int ga_nil))) ga_nil)))) (ga_cons (ge_tup (ga_cons (ge_tup (ga_cons ge_int (ga_cons ge_int (ga_cons ge_int (ga_cons ge_int ga_nil))))) (ga_cons (ge_tup (ga_cons ge_int (ga_cons ge_int ga_nil))) (ga_cons (ge_tup (ga_cons (ge_tup (ga_cons ge_int (ga_cons ge_int ga_nil))) (ga_cons ge_int ga_nil))) ga_nil)))) ga_nil)))))
  (gss_cons (gs_expr (ge_extend (ge_nm (pv 2)) (ge_lst (ga_cons (ge_tup (ga_cons (ge_tup (ga_cons ge_int (ga_cons ge_int (ga_cons ge_int (ga_cons (ge_neg ge_int) ga_nil))))) (ga_cons (ge_tup (ga_cons (ge_nm (pv 1)) (ga_cons (ge_neg (ge_nm (pv 1))) ga_nil))) (ga_cons (ge_tup (ga_cons (ge_tup (ga_cons (ge_nm (pv 1)) (ga_cons ge_int ga_nil))) (ga_cons (ge_nm (pv 1)) ga_nil))) ga_nil)))) (ga_cons (ge_tup (ga_cons (ge_tup (ga_cons ge_int (ga_cons ge_int (ga_cons ge_int (ga_cons ge_int ga_nil))))) (ga_cons (ge_tup (ga_cons (ge_nm (pv 1)) (ga_cons (ge_neg (ge_nm (pv 1))) ga_nil))) (ga_cons (ge_tup (ga_cons (ge_tup (ga_cons (ge_nm (pv 1)) (ga_cons (ge_neg (ge_nm (pv 1))) ga_nil))) (ga_cons ge_int ga_nil))) ga_nil)))) ga_nil)))))
  (gss_cons (gs_expr (ge_extend (ge_nm (pv 2)) (ge_lst (ga_cons (ge_tup (ga_cons (ge_tup (ga_cons ge_int (ga_cons ge_int (ga_cons (ge_nm (pv 1)) (ga_cons (ge_nm (pv 1)) ga_nil))))) (ga_cons (ge_tup (ga_cons (ge_neg (ge_nm (pv 1))) (ga_cons (ge_neg (ge_nm (pv 1))) ga_nil))) (ga_cons (ge_tup (ga_cons (ge_tup (ga_cons ge_int (ga_cons ge_int ga_nil))) (ga_cons (ge_neg ge_int) ga_nil))) ga_nil)))) (ga_cons (ge_tup (ga_cons (ge_tup (ga_cons ge_int (ga_cons ge_int (ga_cons (ge_neg (ge_nm (pv 1))) (ga_cons ge_int ga_nil))))) (ga_cons (ge_tup (ga_cons (ge_nm (pv 1)) (ga_cons ge_int ga_nil))) (ga_cons (ge_tup (ga_cons (ge_tup (ga_cons (ge_mul (ge_neg ge_int) (ge_nm (pv 1))) (ga_cons (ge_neg ge_int) ga_nil))) (ga_cons ge_int ga_nil))) ga_nil)))) ga_nil)))))
  (gss_cons (gs_expr (ge_append (ge_nm (pv 2)) (ga_cons (ge_tup (ga_cons (ge_tup (ga_cons ge_int (ga_cons ge_int (ga_cons (ge_nm (pv 1)) (ga_cons (ge_nm (pv 1)) ga_nil))))) (ga_cons (ge_tup (ga_cons (ge_neg ge_int) (ga_cons (ge_neg (ge_nm (pv 1))) ga_nil))) (ga_cons (ge_tup (ga_cons (ge_tup (ga_cons (ge_bin op_sub opm_sub (ge_nm (pv 1)) ge_int) (ga_cons (ge_mul ge_int (ge_nm (pv 1))) ga_nil))) (ga_cons (ge_neg ge_int) ga_nil))) ga_nil)))) ga_nil)))
  (gss_cons (gs_expr (ge_append (ge_nm (pv 2)) (ga_cons (ge_tup (ga_cons (ge_tup (ga_cons ge_int (ga_cons ge_int (ga_cons (ge_nm (pv 1)) (ga_cons ge_int ga_nil))))) (ga_cons (ge_tup (ga_cons (ge_neg ge_int) (ga_cons (ge_nm (pv 1)) ga_nil))) (ga_cons (ge_tup (ga_cons (ge_tup (ga_cons (ge_bin op_sub opm_sub (ge_nm (pv 1)) ge_int) (ga_cons (ge_nm (pv 1)) ga_nil))) (ga_cons (ge_neg ge_int) ga_nil))) ga_nil)))) ga_nil)))
  (gss_cons (gs_setLc (i := 3) (own := [("g", 4), ("dot", 5), ("owed", 6)]) (vs := [4, 5, 6]) rfl rfl sc__law_ld_hand_right.nd rfl rfl (sw_true rfl rfl rfl (by decide +kernel)) (gi_seq (ge_nm (pv 2))) (blkOk_by (N := N__law_ld_hand_right) (sc := defScope s__law_ld_hand_right) (by decide +kernel)) (fun _ _ _ _ _ => (ggv_tup rfl (ggvs_cons (ggv_name (pg_name (i := 4) sc__law_ld_hand_right.nd rfl (Or.inl rfl))) (ggvs_cons (ggv_name (pg_name (i := 5) sc__law_ld_hand_right.nd rfl (Or.inl rfl))) (ggvs_cons (ggv_name (pg_name (i := 6) sc__law_ld_hand_right.nd rfl (Or.inl rfl))) ggvs_nil))))) (fun _ _ _ _ _ => gts_nil) (fun _ _ _ _ _ => (ge_callG takes0N G__law_ld_lead (hr.mono (by omega)) (by rfl) (gv_d (ge_nm (pv 4)) (gv_d (ge_nm (pv 5)) gv_nil)))))
  (gss_cons (gs_if (gt_not (gt_val (ge_callG tk (G__law_yq_same 8) (hr.mono (by omega)) (by rfl) (gv_d (ge_nm (pv 3)) (gv_d (ge_lc (own := [("g", 4), ("dot", 5), ("owed", 6)]) (vs := [4, 5, 6]) rfl rfl sc__law_ld_hand_right.nd (gi_seq (ge_nm (pv 2))) (blkOk_by (N := N__law_ld_hand_right) (sc := defScope s__law_ld_hand_right) (by decide +kernel)) (fun _ _ _ _ _ => (ggv_tup rfl (ggvs_cons (ggv_name (pg_name (i := 4) sc__law_ld_hand_right.nd rfl (Or.inl rfl))) (ggvs_cons (ggv_name (pg_name (i := 5) sc__law_ld_hand_right.nd rfl (Or.inl rfl))) (ggvs_cons (ggv_name (pg_name (i := 6) sc__law_ld_hand_right.nd rfl (Or.inl rfl))) ggvs_nil))))) (fun _ _ _ _ _ => gts_nil) (fun _ _ _ _ _ => (ge_tup (ga_cons ge_str (ga_cons (ge_nm (pv 6)) ga_nil))))) gv_nil)))))
  (gss_one (gs_ret ge_bool))
  gss_nil)
  (gss_cons (gs_set (ps_set (i := 7) sc__law_ld_hand_right.nd rfl (Or.inl rfl) (ge_lst (ga_cons (ge_tup (ga_cons ge_none (ga_cons (ge_neg ge_int) ga_nil))) (ga_cons (ge_tup (ga_cons (ge_tup (ga_cons ge_int (ga_cons ge_int (ga_cons ge_int ga_nil)))) (ga_cons (ge_neg ge_int) ga_nil))) (ga_cons (ge_tup (ga_cons (ge_tup (ga_cons ge_int (ga_cons ge_int (ga_cons ge_int (ga_cons ge_int ga_nil))))) (ga_cons ge_int ga_nil))) (ga_cons (ge_tup (ga_cons (ge_tup (ga_cons ge_int (ga_cons ge_bool (ga_cons ge_int (ga_cons ge_int ga_nil))))) (ga_cons ge_int ga_nil))) (ga_cons (ge_tup (ga_cons (ge_tup (ga_cons ge_int (ga_cons ge_int (ga_cons (ge_bin op_addA opm_add (ge_nm (pv 1)) ge_int) (ga_cons ge_int ga_nil))))) (ga_cons ge_int ga_nil))) ga_nil))))))))
  (gss_cons (gs_asg (ge_callG tk G__law_one (hr.mono (by omega)) (by rfl) (gv_io (ge_nm (pv 0)) (gv_d (ge_nm (pv 7)) gv_nil))) (gg_tup rfl (ggs_cons (gg_name (pg_name (i := 8) sc__law_ld_hand_right.nd rfl (Or.inl rfl))) (ggs_cons (gg_name (pg_name (i := 9) sc__law_ld_hand_right.nd rfl (Or.inl rfl))) ggs_nil))) (nox_tup (noxs_cons nox_name (noxs_cons nox_name noxs_nil))))
  (gss_cons (gs_asg (ge_callG tk G__law_one (hr.mono (by omega)) (by rfl) (gv_io (ge_nm (pv 0)) (gv_d (ge_lst (ga_cons (ge_tup (ga_cons ge_none (ga_cons (ge_neg ge_int) ga_nil))) (ga_cons (ge_tup (ga_cons (ge_tup (ga_cons ge_int ga_nil)) (ga_cons (ge_neg ge_int) ga_nil))) (ga_cons (ge_tup (ga_cons (ge_tup (ga_cons (ge_bin op_addA opm_add (ge_nm (pv 1)) ge_int) (ga_cons ge_none ga_nil))) (ga_cons ge_int ga_nil))) (ga_cons (ge_tup (ga_cons (ge_tup (ga_cons ge_int (ga_cons ge_bool ga_nil))) (ga_cons ge_int ga_nil))) (ga_cons (ge_tup (ga_cons (ge_tup (ga_cons ge_int (ga_cons (ge_bin op_sub opm_sub (ge_neg (ge_nm (pv 1))) ge_int) ga_nil))) (ga_cons ge_int ga_nil))) ga_nil)))))) gv_nil))) (gg_tup rfl (ggs_cons (gg_name (pg_name (i := 10) sc__law_ld_hand_right.nd rfl (Or.inl rfl))) (ggs_cons (gg_name (pg_name (i := 11) sc__law_ld_hand_right.nd rfl (Or.inl rfl))) ggs_nil))) (nox_tup (noxs_cons nox_name (noxs_cons nox_name noxs_nil))))
  (gss_cons (gs_set (ps_set (i := 3) sc__law_ld_hand_right.nd rfl (Or.inl rfl) (ge_lst (ga_cons (ge_callG tk G__law_ld_lead (hr.mono (by omega)) (by rfl) (gv_d (ge_nm (pv 8)) (gv_d (ge_nm (pv 10)) gv_nil))) (ga_cons (ge_callG tk G__law_ld_lead (hr.mono (by omega)) (by rfl) (gv_d (ge_tup (ga_cons ge_int (ga_cons ge_int (ga_cons ge_int (ga_cons ge_int ga_nil))))) (gv_d (ge_nm (pv 10)) gv_nil))) (ga_cons (ge_callG tk G__law_ld_lead (hr.mono (by omega)) (by rfl) (gv_d (ge_nm (pv 8)) (gv_d (ge_tup (ga_cons ge_int (ga_cons ge_int ga_nil))) gv_nil))) ga_nil))))))
  (gss_one (gs_ret (ge_callG tk (G__law_yq_same 8) (hr.mono (by omega)) (by rfl) (gv_d (ge_nm (pv 3)) (gv_d (ge_lst (ga_cons (ge_tup (ga_cons ge_str (ga_cons (ge_nm (pv 9)) ga_nil))) (ga_cons (ge_tup (ga_cons ge_str (ga_cons (ge_nm (pv 11)) ga_nil))) (ga_cons (ge_tup (ga_cons ge_str (ga_cons (ge_nm (pv 9)) ga_nil))) ga_nil)))) gv_nil)))))))))))))))))))
theorem f_law (B : Bn mg) (C : Ct K mg) (G__law_pool : Gd P w K mg base tb 1 "_law_pool" ["script"] m__law_pool) (G__law_ld_running_right : Gd P w K mg base tb 11 "_law_ld_running_right" ["jar"] m__law_ld_running_right) (G__law_ld_standing_right : Gd P w K mg base tb 11 "_law_ld_standing_right" ["jar"] m__law_ld_standing_right) (G__law_ld_hand_right : Gd P w K mg base tb 11 "_law_ld_hand_right" ["jar"] m__law_ld_hand_right) {f : Addr} {fd : FuncData} (F : Fun K "law" "law" s_law f fd) : FnOk P w K mg base (L2N.CX P w) 12 f fd ["script"] (spD K mg tb m_law) :=
  fn_ok (N := N_law) (ps := ["script"]) (body := b_law) F sc_law fun cdv A outer s H E hr tk => by
  exact (gss_cons (gs_set (ps_set (i := 1) sc_law.nd rfl (Or.inr rfl) (ge_callG tk G__law_pool (hr.mono (by omega)) (by rfl) (gv_d (ge_nm (pv 0)) gv_nil))))
  (gss_cons (gs_if (gt_not (gt_val (ge_callG tk G__law_ld_hand_right (hr.mono (by omega)) (by rfl) (gv_io (ge_nm (pv 1)) gv_nil))))
  (gss_one (gs_ret ge_bool))
  gss_nil)
  (gss_one (gs_ret (ge_cmp (op_eqD (Room.h64 hr)) opm_eq (nomark _) (ge_lc (own := [("go", 2)]) (vs := [2]) rfl rfl sc_law.nd (gi_rng1 (by rfl) B.b_range (gx_cons ge_int gx_nil)) (blkOk_by (N := N_law) (sc := defScope s_law) (by decide +kernel)) (fun _ _ _ _ _ => (ggv_name (pg_name (i := 2) sc_law.nd rfl (Or.inl rfl)))) (fun _ _ _ _ _ => (gts_one (PW.pt (gw_or (gt_not (gt_val (ge_callG takes0N G__law_ld_running_right (hr.mono (by omega)) (by rfl) (gv_io (ge_nm (pv 1)) gv_nil)))) (gw_or1 (gt_not (gt_val (ge_callG takes0N G__law_ld_standing_right (hr.mono (by omega)) (by rfl) (gv_io (ge_nm (pv 1)) gv_nil))))))))) (fun _ _ _ _ _ => (ge_nm (pv 2)))) (ge_lst ga_nil))))))
end
/-- the top, all together -/
theorem law_at {w : World} {K : PySem.W.Frag} {h : Heap} {mg : Str → Option Value} {fa : Addr} (X : K.In h) (G : h.Ns mainGlobals mg) (hfa : mg "law" = some (.ref fa))
    {f_whole : Addr} {oc_whole : Value} {od_whole an_whole : Option Addr} {sl_whole : Array (Option Value)} {kV_whole dc_whole pm_whole ct_whole : Value}
    {cv_whole : Value}
    {f_is_free_number : Addr} {oc_is_free_number : Value} {od_is_free_number an_is_free_number : Option Addr} {sl_is_free_number : Array (Option Value)} {kV_is_free_number dc_is_free_number pm_is_free_number ct_is_free_number : Value}
    {cv_is_free_number : Value}
    {f_spun : Addr} {oc_spun : Value} {od_spun an_spun : Option Addr} {sl_spun : Array (Option Value)} {kV_spun dc_spun pm_spun ct_spun : Value}
    {cv_spun : Value}
    {f_rise_by : Addr} {oc_rise_by : Value} {od_rise_by an_rise_by : Option Addr} {sl_rise_by : Array (Option Value)} {kV_rise_by dc_rise_by pm_rise_by ct_rise_by : Value}
    {cv_rise_by : Value}
    {f_level_of : Addr} {oc_level_of : Value} {od_level_of an_level_of : Option Addr} {sl_level_of : Array (Option Value)} {kV_level_of dc_level_of pm_level_of ct_level_of : Value}
    {cv_level_of : Value}
    {f__law_yq_is_whole : Addr} {oc__law_yq_is_whole : Value} {od__law_yq_is_whole an__law_yq_is_whole : Option Addr} {sl__law_yq_is_whole : Array (Option Value)} {kV__law_yq_is_whole dc__law_yq_is_whole pm__law_yq_is_whole ct__law_yq_is_whole : Value}
    {cv__law_yq_is_whole : Value}
    {f__law_moved_dot : Addr} {oc__law_moved_dot : Value} {od__law_moved_dot an__law_moved_dot : Option Addr} {sl__law_moved_dot : Array (Option Value)} {kV__law_moved_dot dc__law_moved_dot pm__law_moved_dot ct__law_moved_dot : Value}
    {cv__law_moved_dot : Value}
    {f__law_level : Addr} {oc__law_level : Value} {od__law_level an__law_level : Option Addr} {sl__law_level : Array (Option Value)} {kV__law_level dc__law_level pm__law_level ct__law_level : Value}
    {cv__law_level : Value}
    {f__law_pool : Addr} {oc__law_pool : Value} {od__law_pool an__law_pool : Option Addr} {sl__law_pool : Array (Option Value)} {kV__law_pool dc__law_pool pm__law_pool ct__law_pool : Value}
    {cv__law_pool : Value}
    {f__law_take : Addr} {oc__law_take : Value} {od__law_take an__law_take : Option Addr} {sl__law_take : Array (Option Value)} {kV__law_take dc__law_take pm__law_take ct__law_take : Value}
    {cv__law_take : Value}
    {f__law_ld_heard : Addr} {oc__law_ld_heard : Value} {od__law_ld_heard an__law_ld_heard : Option Addr} {sl__law_ld_heard : Array (Option Value)} {kV__law_ld_heard dc__law_ld_heard pm__law_ld_heard ct__law_ld_heard : Value}
    {cv__law_ld_heard : Value}
    {f__law_ld_in : Addr} {oc__law_ld_in : Value} {od__law_ld_in an__law_ld_in : Option Addr} {sl__law_ld_in : Array (Option Value)} {kV__law_ld_in dc__law_ld_in pm__law_ld_in ct__law_ld_in : Value}
    {cv__law_ld_in : Value}
    {f_bad_motion : Addr} {oc_bad_motion : Value} {od_bad_motion an_bad_motion : Option Addr} {sl_bad_motion : Array (Option Value)} {kV_bad_motion dc_bad_motion pm_bad_motion ct_bad_motion : Value}
    {cv_bad_motion : Value}
    {f_joined : Addr} {oc_joined : Value} {od_joined an_joined : Option Addr} {sl_joined : Array (Option Value)} {kV_joined dc_joined pm_joined ct_joined : Value}
    {cv_joined : Value}
    {f_backed : Addr} {oc_backed : Value} {od_backed an_backed : Option Addr} {sl_backed : Array (Option Value)} {kV_backed dc_backed pm_backed ct_backed : Value}
    {cv_backed : Value}
    {f_bad_dot : Addr} {oc_bad_dot : Value} {od_bad_dot an_bad_dot : Option Addr} {sl_bad_dot : Array (Option Value)} {kV_bad_dot dc_bad_dot pm_bad_dot ct_bad_dot : Value}
    {cv_bad_dot : Value}
    {f__law_then_motion : Addr} {oc__law_then_motion : Value} {od__law_then_motion an__law_then_motion : Option Addr} {sl__law_then_motion : Array (Option Value)} {kV__law_then_motion dc__law_then_motion pm__law_then_motion ct__law_then_motion : Value}
    {cv__law_then_motion : Value}
    {f__law_back_motion : Addr} {oc__law_back_motion : Value} {od__law_back_motion an__law_back_motion : Option Addr} {sl__law_back_motion : Array (Option Value)} {kV__law_back_motion dc__law_back_motion pm__law_back_motion ct__law_back_motion : Value}
    {cv__law_back_motion : Value}
    {f__law_small : Addr} {oc__law_small : Value} {od__law_small an__law_small : Option Addr} {sl__law_small : Array (Option Value)} {kV__law_small dc__law_small pm__law_small ct__law_small : Value}
    {cv__law_small : Value}
    {f__law_one : Addr} {oc__law_one : Value} {od__law_one an__law_one : Option Addr} {sl__law_one : Array (Option Value)} {kV__law_one dc__law_one pm__law_one ct__law_one : Value}
    {cv__law_one : Value}
    {f_made_motion : Addr} {oc_made_motion : Value} {od_made_motion an_made_motion : Option Addr} {sl_made_motion : Array (Option Value)} {kV_made_motion dc_made_motion pm_made_motion ct_made_motion : Value}
    {cv_made_motion : Value}
    {f_far_power : Addr} {oc_far_power : Value} {od_far_power an_far_power : Option Addr} {sl_far_power : Array (Option Value)} {kV_far_power dc_far_power pm_far_power ct_far_power : Value}
    {cv_far_power : Value}
    {f_asked_dot : Addr} {oc_asked_dot : Value} {od_asked_dot an_asked_dot : Option Addr} {sl_asked_dot : Array (Option Value)} {kV_asked_dot dc_asked_dot pm_asked_dot ct_asked_dot : Value}
    {cv_asked_dot : Value}
    {f_raw_way : Addr} {oc_raw_way : Value} {od_raw_way an_raw_way : Option Addr} {sl_raw_way : Array (Option Value)} {kV_raw_way dc_raw_way pm_raw_way ct_raw_way : Value}
    {cv_raw_way : Value}
    {f__law_power_motion : Addr} {oc__law_power_motion : Value} {od__law_power_motion an__law_power_motion : Option Addr} {sl__law_power_motion : Array (Option Value)} {kV__law_power_motion dc__law_power_motion pm__law_power_motion ct__law_power_motion : Value}
    {cv__law_power_motion : Value}
    {f__law_motion_by : Addr} {oc__law_motion_by : Value} {od__law_motion_by an__law_motion_by : Option Addr} {sl__law_motion_by : Array (Option Value)} {kV__law_motion_by dc__law_motion_by pm__law_motion_by ct__law_motion_by : Value}
    {cv__law_motion_by : Value}
    {f__law_ld_running : Addr} {oc__law_ld_running : Value} {od__law_ld_running an__law_ld_running : Option Addr} {sl__law_ld_running : Array (Option Value)} {kV__law_ld_running dc__law_ld_running pm__law_ld_running ct__law_ld_running : Value}
    {cv__law_ld_running : Value}
    {f_runs : Addr} {oc_runs : Value} {od_runs an_runs : Option Addr} {sl_runs : Array (Option Value)} {kV_runs dc_runs pm_runs ct_runs : Value}
    {cv_runs : Value}
    {f_running_lead : Addr} {oc_running_lead : Value} {od_running_lead an_running_lead : Option Addr} {sl_running_lead : Array (Option Value)} {kV_running_lead dc_running_lead pm_running_lead ct_running_lead : Value}
    {cv_running_lead : Value}
    {f__law_way_of : Addr} {oc__law_way_of : Value} {od__law_way_of an__law_way_of : Option Addr} {sl__law_way_of : Array (Option Value)} {kV__law_way_of dc__law_way_of pm__law_way_of ct__law_way_of : Value}
    {cv__law_way_of : Value}
    {f__law_standing_motion : Addr} {oc__law_standing_motion : Value} {od__law_standing_motion an__law_standing_motion : Option Addr} {sl__law_standing_motion : Array (Option Value)} {kV__law_standing_motion dc__law_standing_motion pm__law_standing_motion ct__law_standing_motion : Value}
    {cv__law_standing_motion : Value}
    {f_raw_order : Addr} {oc_raw_order : Value} {od_raw_order an_raw_order : Option Addr} {sl_raw_order : Array (Option Value)} {kV_raw_order dc_raw_order pm_raw_order ct_raw_order : Value}
    {cv_raw_order : Value}
    {f__law_level_of : Addr} {oc__law_level_of : Value} {od__law_level_of an__law_level_of : Option Addr} {sl__law_level_of : Array (Option Value)} {kV__law_level_of dc__law_level_of pm__law_level_of ct__law_level_of : Value}
    {cv__law_level_of : Value}
    {f__law_ld_at : Addr} {oc__law_ld_at : Value} {od__law_ld_at an__law_ld_at : Option Addr} {sl__law_ld_at : Array (Option Value)} {kV__law_ld_at dc__law_ld_at pm__law_ld_at ct__law_ld_at : Value}
    {cv__law_ld_at : Value}
    {f_lead_of : Addr} {oc_lead_of : Value} {od_lead_of an_lead_of : Option Addr} {sl_lead_of : Array (Option Value)} {kV_lead_of dc_lead_of pm_lead_of ct_lead_of : Value}
    {cv_lead_of : Value}
    {f__law_rise_of : Addr} {oc__law_rise_of : Value} {od__law_rise_of an__law_rise_of : Option Addr} {sl__law_rise_of : Array (Option Value)} {kV__law_rise_of dc__law_rise_of pm__law_rise_of ct__law_rise_of : Value}
    {cv__law_rise_of : Value}
    {f_lead : Addr} {oc_lead : Value} {od_lead an_lead : Option Addr} {sl_lead : Array (Option Value)} {kV_lead dc_lead pm_lead ct_lead : Value}
    {cv_lead : Value}
    {f__law_ld_first : Addr} {oc__law_ld_first : Value} {od__law_ld_first an__law_ld_first : Option Addr} {sl__law_ld_first : Array (Option Value)} {kV__law_ld_first dc__law_ld_first pm__law_ld_first ct__law_ld_first : Value}
    {cv__law_ld_first : Value}
    {f__law_yq_same : Addr} {oc__law_yq_same : Value} {od__law_yq_same an__law_yq_same : Option Addr} {sl__law_yq_same : Array (Option Value)} {kV__law_yq_same dc__law_yq_same pm__law_yq_same ct__law_yq_same : Value}
    {cv__law_yq_same : Value}
    {f__law_ld_lead : Addr} {oc__law_ld_lead : Value} {od__law_ld_lead an__law_ld_lead : Option Addr} {sl__law_ld_lead : Array (Option Value)} {kV__law_ld_lead dc__law_ld_lead pm__law_ld_lead ct__law_ld_lead : Value}
    {cc__law_ld_lead pt__law_ld_lead : Addr} {vs__law_ld_lead : Array Value} {cd__law_ld_lead : Option Addr} {cs__law_ld_lead : Array (Option Value)}
    {f__law_ld_running_right : Addr} {oc__law_ld_running_right : Value} {od__law_ld_running_right an__law_ld_running_right : Option Addr} {sl__law_ld_running_right : Array (Option Value)} {kV__law_ld_running_right dc__law_ld_running_right pm__law_ld_running_right ct__law_ld_running_right : Value}
    {cv__law_ld_running_right : Value}
    {f__law_ld_standing_right : Addr} {oc__law_ld_standing_right : Value} {od__law_ld_standing_right an__law_ld_standing_right : Option Addr} {sl__law_ld_standing_right : Array (Option Value)} {kV__law_ld_standing_right dc__law_ld_standing_right pm__law_ld_standing_right ct__law_ld_standing_right : Value}
    {cv__law_ld_standing_right : Value}
    {f__law_ld_hand_right : Addr} {oc__law_ld_hand_right : Value} {od__law_ld_hand_right an__law_ld_hand_right : Option Addr} {sl__law_ld_hand_right : Array (Option Value)} {kV__law_ld_hand_right dc__law_ld_hand_right pm__law_ld_hand_right ct__law_ld_hand_right : Value}
    {cv__law_ld_hand_right : Value}
    {f_law : Addr} {oc_law : Value} {od_law an_law : Option Addr} {sl_law : Array (Option Value)} {kV_law dc_law pm_law ct_law : Value}
    {cv_law : Value}
    {tk_FAR : Tok}
    {ca_REST : Addr}
    {fI : Addr} {oI : Value} {dI aI : Option Addr} {sI : Array (Option Value)} {kI eI mI cI tI : Value} {i1 i2 i3 i4 i5 i6 i7 i8 i9 i10 i11 i12 : Pos}
    {C_Refused N_Refused : Addr} {nm_Refused qn_Refused : Str} {bs_Refused bm_Refused : List Value} {sn_Refused : List Str} {sub_Refused : List Value} {ab_Refused : Bool} {col_Refused : Option Bool} {dd_Refused : Option Addr} {k0_Refused k1_Refused k2_Refused k3_Refused k5_Refused : Option Value}
    {C_BadMotion N_BadMotion : Addr} {nm_BadMotion qn_BadMotion : Str} {bs_BadMotion bm_BadMotion : List Value} {sn_BadMotion : List Str} {sub_BadMotion : List Value} {ab_BadMotion : Bool} {col_BadMotion : Option Bool} {dd_BadMotion : Option Addr} {k0_BadMotion k1_BadMotion k2_BadMotion k3_BadMotion k5_BadMotion : Option Value}
    {C_BadDot N_BadDot : Addr} {nm_BadDot qn_BadDot : Str} {bs_BadDot bm_BadDot : List Value} {sn_BadDot : List Str} {sub_BadDot : List Value} {ab_BadDot : Bool} {col_BadDot : Option Bool} {dd_BadDot : Option Addr} {k0_BadDot k1_BadDot k2_BadDot k3_BadDot k5_BadDot : Option Value}
    (a_whole : PySem.W.nsIn K mainGlobals "whole" = some (some (.ref f_whole)))
    (l_whole : K.lookup f_whole = some ⟨oc_whole, od_whole, .func (PySem.W.fnOf "whole" "whole" (defArgs s_whole) (defBody s_whole) (defScope s_whole) .none kV_whole dc_whole pm_whole an_whole cv_whole ct_whole), sl_whole⟩)
    (c_whole : PySem.W.codeIn K cv_whole "whole" = true)
    (k_whole : PySem.W.keepIn K (.ref f_whole) = true)
    (a_is_free_number : PySem.W.nsIn K mainGlobals "is_free_number" = some (some (.ref f_is_free_number)))
    (l_is_free_number : K.lookup f_is_free_number = some ⟨oc_is_free_number, od_is_free_number, .func (PySem.W.fnOf "is_free_number" "is_free_number" (defArgs s_is_free_number) (defBody s_is_free_number) (defScope s_is_free_number) .none kV_is_free_number dc_is_free_number pm_is_free_number an_is_free_number cv_is_free_number ct_is_free_number), sl_is_free_number⟩)
    (c_is_free_number : PySem.W.codeIn K cv_is_free_number "is_free_number" = true)
    (k_is_free_number : PySem.W.keepIn K (.ref f_is_free_number) = true)
    (a_spun : PySem.W.nsIn K mainGlobals "spun" = some (some (.ref f_spun)))
    (l_spun : K.lookup f_spun = some ⟨oc_spun, od_spun, .func (PySem.W.fnOf "spun" "spun" (defArgs s_spun) (defBody s_spun) (defScope s_spun) .none kV_spun dc_spun pm_spun an_spun cv_spun ct_spun), sl_spun⟩)
    (c_spun : PySem.W.codeIn K cv_spun "spun" = true)
    (k_spun : PySem.W.keepIn K (.ref f_spun) = true)
    (a_rise_by : PySem.W.nsIn K mainGlobals "rise_by" = some (some (.ref f_rise_by)))
    (l_rise_by : K.lookup f_rise_by = some ⟨oc_rise_by, od_rise_by, .func (PySem.W.fnOf "rise_by" "rise_by" (defArgs s_rise_by) (defBody s_rise_by) (defScope s_rise_by) .none kV_rise_by dc_rise_by pm_rise_by an_rise_by cv_rise_by ct_rise_by), sl_rise_by⟩)
    (c_rise_by : PySem.W.codeIn K cv_rise_by "rise_by" = true)
    (k_rise_by : PySem.W.keepIn K (.ref f_rise_by) = true)
    (a_level_of : PySem.W.nsIn K mainGlobals "level_of" = some (some (.ref f_level_of)))
    (l_level_of : K.lookup f_level_of = some ⟨oc_level_of, od_level_of, .func (PySem.W.fnOf "level_of" "level_of" (defArgs s_level_of) (defBody s_level_of) (defScope s_level_of) .none kV_level_of dc_level_of pm_level_of an_level_of cv_level_of ct_level_of), sl_level_of⟩)
    (c_level_of : PySem.W.codeIn K cv_level_of "level_of" = true)
    (k_level_of : PySem.W.keepIn K (.ref f_level_of) = true)
    (a__law_yq_is_whole : PySem.W.nsIn K mainGlobals "_law_yq_is_whole" = some (some (.ref f__law_yq_is_whole)))
    (l__law_yq_is_whole : K.lookup f__law_yq_is_whole = some ⟨oc__law_yq_is_whole, od__law_yq_is_whole, .func (PySem.W.fnOf "_law_yq_is_whole" "_law_yq_is_whole" (defArgs s__law_yq_is_whole) (defBody s__law_yq_is_whole) (defScope s__law_yq_is_whole) .none kV__law_yq_is_whole dc__law_yq_is_whole pm__law_yq_is_whole an__law_yq_is_whole cv__law_yq_is_whole ct__law_yq_is_whole), sl__law_yq_is_whole⟩)
    (c__law_yq_is_whole : PySem.W.codeIn K cv__law_yq_is_whole "_law_yq_is_whole" = true)
    (k__law_yq_is_whole : PySem.W.keepIn K (.ref f__law_yq_is_whole) = true)
    (a__law_moved_dot : PySem.W.nsIn K mainGlobals "_law_moved_dot" = some (some (.ref f__law_moved_dot)))
    (l__law_moved_dot : K.lookup f__law_moved_dot = some ⟨oc__law_moved_dot, od__law_moved_dot, .func (PySem.W.fnOf "_law_moved_dot" "_law_moved_dot" (defArgs s__law_moved_dot) (defBody s__law_moved_dot) (defScope s__law_moved_dot) .none kV__law_moved_dot dc__law_moved_dot pm__law_moved_dot an__law_moved_dot cv__law_moved_dot ct__law_moved_dot), sl__law_moved_dot⟩)
    (c__law_moved_dot : PySem.W.codeIn K cv__law_moved_dot "_law_moved_dot" = true)
    (k__law_moved_dot : PySem.W.keepIn K (.ref f__law_moved_dot) = true)
    (a__law_level : PySem.W.nsIn K mainGlobals "_law_level" = some (some (.ref f__law_level)))
    (l__law_level : K.lookup f__law_level = some ⟨oc__law_level, od__law_level, .func (PySem.W.fnOf "_law_level" "_law_level" (defArgs s__law_level) (defBody s__law_level) (defScope s__law_level) .none kV__law_level dc__law_level pm__law_level an__law_level cv__law_level ct__law_level), sl__law_level⟩)
    (c__law_level : PySem.W.codeIn K cv__law_level "_law_level" = true)
    (k__law_level : PySem.W.keepIn K (.ref f__law_level) = true)
    (a__law_pool : PySem.W.nsIn K mainGlobals "_law_pool" = some (some (.ref f__law_pool)))
    (l__law_pool : K.lookup f__law_pool = some ⟨oc__law_pool, od__law_pool, .func (PySem.W.fnOf "_law_pool" "_law_pool" (defArgs s__law_pool) (defBody s__law_pool) (defScope s__law_pool) .none kV__law_pool dc__law_pool pm__law_pool an__law_pool cv__law_pool ct__law_pool), sl__law_pool⟩)
    (c__law_pool : PySem.W.codeIn K cv__law_pool "_law_pool" = true)
    (k__law_pool : PySem.W.keepIn K (.ref f__law_pool) = true)
    (a__law_take : PySem.W.nsIn K mainGlobals "_law_take" = some (some (.ref f__law_take)))
    (l__law_take : K.lookup f__law_take = some ⟨oc__law_take, od__law_take, .func (PySem.W.fnOf "_law_take" "_law_take" (defArgs s__law_take) (defBody s__law_take) (defScope s__law_take) .none kV__law_take dc__law_take pm__law_take an__law_take cv__law_take ct__law_take), sl__law_take⟩)
    (c__law_take : PySem.W.codeIn K cv__law_take "_law_take" = true)
    (k__law_take : PySem.W.keepIn K (.ref f__law_take) = true)
    (a__law_ld_heard : PySem.W.nsIn K mainGlobals "_law_ld_heard" = some (some (.ref f__law_ld_heard)))
    (l__law_ld_heard : K.lookup f__law_ld_heard = some ⟨oc__law_ld_heard, od__law_ld_heard, .func (PySem.W.fnOf "_law_ld_heard" "_law_ld_heard" (defArgs s__law_ld_heard) (defBody s__law_ld_heard) (defScope s__law_ld_heard) .none kV__law_ld_heard dc__law_ld_heard pm__law_ld_heard an__law_ld_heard cv__law_ld_heard ct__law_ld_heard), sl__law_ld_heard⟩)
    (c__law_ld_heard : PySem.W.codeIn K cv__law_ld_heard "_law_ld_heard" = true)
    (k__law_ld_heard : PySem.W.keepIn K (.ref f__law_ld_heard) = true)
    (a__law_ld_in : PySem.W.nsIn K mainGlobals "_law_ld_in" = some (some (.ref f__law_ld_in)))
    (l__law_ld_in : K.lookup f__law_ld_in = some ⟨oc__law_ld_in, od__law_ld_in, .func (PySem.W.fnOf "_law_ld_in" "_law_ld_in" (defArgs s__law_ld_in) (defBody s__law_ld_in) (defScope s__law_ld_in) .none kV__law_ld_in dc__law_ld_in pm__law_ld_in an__law_ld_in cv__law_ld_in ct__law_ld_in), sl__law_ld_in⟩)
    (c__law_ld_in : PySem.W.codeIn K cv__law_ld_in "_law_ld_in" = true)
    (k__law_ld_in : PySem.W.keepIn K (.ref f__law_ld_in) = true)
    (a_bad_motion : PySem.W.nsIn K mainGlobals "bad_motion" = some (some (.ref f_bad_motion)))
    (l_bad_motion : K.lookup f_bad_motion = some ⟨oc_bad_motion, od_bad_motion, .func (PySem.W.fnOf "bad_motion" "bad_motion" (defArgs s_bad_motion) (defBody s_bad_motion) (defScope s_bad_motion) .none kV_bad_motion dc_bad_motion pm_bad_motion an_bad_motion cv_bad_motion ct_bad_motion), sl_bad_motion⟩)
    (c_bad_motion : PySem.W.codeIn K cv_bad_motion "bad_motion" = true)
    (k_bad_motion : PySem.W.keepIn K (.ref f_bad_motion) = true)
    (a_joined : PySem.W.nsIn K mainGlobals "joined" = some (some (.ref f_joined)))
    (l_joined : K.lookup f_joined = some ⟨oc_joined, od_joined, .func (PySem.W.fnOf "joined" "joined" (defArgs s_joined) (defBody s_joined) (defScope s_joined) .none kV_joined dc_joined pm_joined an_joined cv_joined ct_joined), sl_joined⟩)
    (c_joined : PySem.W.codeIn K cv_joined "joined" = true)
    (k_joined : PySem.W.keepIn K (.ref f_joined) = true)
    (a_backed : PySem.W.nsIn K mainGlobals "backed" = some (some (.ref f_backed)))
    (l_backed : K.lookup f_backed = some ⟨oc_backed, od_backed, .func (PySem.W.fnOf "backed" "backed" (defArgs s_backed) (defBody s_backed) (defScope s_backed) .none kV_backed dc_backed pm_backed an_backed cv_backed ct_backed), sl_backed⟩)
    (c_backed : PySem.W.codeIn K cv_backed "backed" = true)
    (k_backed : PySem.W.keepIn K (.ref f_backed) = true)
    (a_bad_dot : PySem.W.nsIn K mainGlobals "bad_dot" = some (some (.ref f_bad_dot)))
    (l_bad_dot : K.lookup f_bad_dot = some ⟨oc_bad_dot, od_bad_dot, .func (PySem.W.fnOf "bad_dot" "bad_dot" (defArgs s_bad_dot) (defBody s_bad_dot) (defScope s_bad_dot) .none kV_bad_dot dc_bad_dot pm_bad_dot an_bad_dot cv_bad_dot ct_bad_dot), sl_bad_dot⟩)
    (c_bad_dot : PySem.W.codeIn K cv_bad_dot "bad_dot" = true)
    (k_bad_dot : PySem.W.keepIn K (.ref f_bad_dot) = true)
    (a__law_then_motion : PySem.W.nsIn K mainGlobals "_law_then_motion" = some (some (.ref f__law_then_motion)))
    (l__law_then_motion : K.lookup f__law_then_motion = some ⟨oc__law_then_motion, od__law_then_motion, .func (PySem.W.fnOf "_law_then_motion" "_law_then_motion" (defArgs s__law_then_motion) (defBody s__law_then_motion) (defScope s__law_then_motion) .none kV__law_then_motion dc__law_then_motion pm__law_then_motion an__law_then_motion cv__law_then_motion ct__law_then_motion), sl__law_then_motion⟩)
    (c__law_then_motion : PySem.W.codeIn K cv__law_then_motion "_law_then_motion" = true)
    (k__law_then_motion : PySem.W.keepIn K (.ref f__law_then_motion) = true)
    (a__law_back_motion : PySem.W.nsIn K mainGlobals "_law_back_motion" = some (some (.ref f__law_back_motion)))
    (l__law_back_motion : K.lookup f__law_back_motion = some ⟨oc__law_back_motion, od__law_back_motion, .func (PySem.W.fnOf "_law_back_motion" "_law_back_motion" (defArgs s__law_back_motion) (defBody s__law_back_motion) (defScope s__law_back_motion) .none kV__law_back_motion dc__law_back_motion pm__law_back_motion an__law_back_motion cv__law_back_motion ct__law_back_motion), sl__law_back_motion⟩)
    (c__law_back_motion : PySem.W.codeIn K cv__law_back_motion "_law_back_motion" = true)
    (k__law_back_motion : PySem.W.keepIn K (.ref f__law_back_motion) = true)
    (a__law_small : PySem.W.nsIn K mainGlobals "_law_small" = some (some (.ref f__law_small)))
    (l__law_small : K.lookup f__law_small = some ⟨oc__law_small, od__law_small, .func (PySem.W.fnOf "_law_small" "_law_small" (defArgs s__law_small) (defBody s__law_small) (defScope s__law_small) .none kV__law_small dc__law_small pm__law_small an__law_small cv__law_small ct__law_small), sl__law_small⟩)
    (c__law_small : PySem.W.codeIn K cv__law_small "_law_small" = true)
    (k__law_small : PySem.W.keepIn K (.ref f__law_small) = true)
    (a__law_one : PySem.W.nsIn K mainGlobals "_law_one" = some (some (.ref f__law_one)))
    (l__law_one : K.lookup f__law_one = some ⟨oc__law_one, od__law_one, .func (PySem.W.fnOf "_law_one" "_law_one" (defArgs s__law_one) (defBody s__law_one) (defScope s__law_one) .none kV__law_one dc__law_one pm__law_one an__law_one cv__law_one ct__law_one), sl__law_one⟩)
    (c__law_one : PySem.W.codeIn K cv__law_one "_law_one" = true)
    (k__law_one : PySem.W.keepIn K (.ref f__law_one) = true)
    (a_made_motion : PySem.W.nsIn K mainGlobals "made_motion" = some (some (.ref f_made_motion)))
    (l_made_motion : K.lookup f_made_motion = some ⟨oc_made_motion, od_made_motion, .func (PySem.W.fnOf "made_motion" "made_motion" (defArgs s_made_motion) (defBody s_made_motion) (defScope s_made_motion) .none kV_made_motion dc_made_motion pm_made_motion an_made_motion cv_made_motion ct_made_motion), sl_made_motion⟩)
    (c_made_motion : PySem.W.codeIn K cv_made_motion "made_motion" = true)
    (k_made_motion : PySem.W.keepIn K (.ref f_made_motion) = true)
    (a_far_power : PySem.W.nsIn K mainGlobals "far_power" = some (some (.ref f_far_power)))
    (l_far_power : K.lookup f_far_power = some ⟨oc_far_power, od_far_power, .func (PySem.W.fnOf "far_power" "far_power" (defArgs s_far_power) (defBody s_far_power) (defScope s_far_power) .none kV_far_power dc_far_power pm_far_power an_far_power cv_far_power ct_far_power), sl_far_power⟩)
    (c_far_power : PySem.W.codeIn K cv_far_power "far_power" = true)
    (k_far_power : PySem.W.keepIn K (.ref f_far_power) = true)
    (a_asked_dot : PySem.W.nsIn K mainGlobals "asked_dot" = some (some (.ref f_asked_dot)))
    (l_asked_dot : K.lookup f_asked_dot = some ⟨oc_asked_dot, od_asked_dot, .func (PySem.W.fnOf "asked_dot" "asked_dot" (defArgs s_asked_dot) (defBody s_asked_dot) (defScope s_asked_dot) .none kV_asked_dot dc_asked_dot pm_asked_dot an_asked_dot cv_asked_dot ct_asked_dot), sl_asked_dot⟩)
    (c_asked_dot : PySem.W.codeIn K cv_asked_dot "asked_dot" = true)
    (k_asked_dot : PySem.W.keepIn K (.ref f_asked_dot) = true)
    (a_raw_way : PySem.W.nsIn K mainGlobals "raw_way" = some (some (.ref f_raw_way)))
    (l_raw_way : K.lookup f_raw_way = some ⟨oc_raw_way, od_raw_way, .func (PySem.W.fnOf "raw_way" "raw_way" (defArgs s_raw_way) (defBody s_raw_way) (defScope s_raw_way) .none kV_raw_way dc_raw_way pm_raw_way an_raw_way cv_raw_way ct_raw_way), sl_raw_way⟩)
    (c_raw_way : PySem.W.codeIn K cv_raw_way "raw_way" = true)
    (k_raw_way : PySem.W.keepIn K (.ref f_raw_way) = true)
    (a__law_power_motion : PySem.W.nsIn K mainGlobals "_law_power_motion" = some (some (.ref f__law_power_motion)))
    (l__law_power_motion : K.lookup f__law_power_motion = some ⟨oc__law_power_motion, od__law_power_motion, .func (PySem.W.fnOf "_law_power_motion" "_law_power_motion" (defArgs s__law_power_motion) (defBody s__law_power_motion) (defScope s__law_power_motion) .none kV__law_power_motion dc__law_power_motion pm__law_power_motion an__law_power_motion cv__law_power_motion ct__law_power_motion), sl__law_power_motion⟩)
    (c__law_power_motion : PySem.W.codeIn K cv__law_power_motion "_law_power_motion" = true)
    (k__law_power_motion : PySem.W.keepIn K (.ref f__law_power_motion) = true)
    (a__law_motion_by : PySem.W.nsIn K mainGlobals "_law_motion_by" = some (some (.ref f__law_motion_by)))
    (l__law_motion_by : K.lookup f__law_motion_by = some ⟨oc__law_motion_by, od__law_motion_by, .func (PySem.W.fnOf "_law_motion_by" "_law_motion_by" (defArgs s__law_motion_by) (defBody s__law_motion_by) (defScope s__law_motion_by) .none kV__law_motion_by dc__law_motion_by pm__law_motion_by an__law_motion_by cv__law_motion_by ct__law_motion_by), sl__law_motion_by⟩)
    (c__law_motion_by : PySem.W.codeIn K cv__law_motion_by "_law_motion_by" = true)
    (k__law_motion_by : PySem.W.keepIn K (.ref f__law_motion_by) = true)
    (a__law_ld_running : PySem.W.nsIn K mainGlobals "_law_ld_running" = some (some (.ref f__law_ld_running)))
    (l__law_ld_running : K.lookup f__law_ld_running = some ⟨oc__law_ld_running, od__law_ld_running, .func (PySem.W.fnOf "_law_ld_running" "_law_ld_running" (defArgs s__law_ld_running) (defBody s__law_ld_running) (defScope s__law_ld_running) .none kV__law_ld_running dc__law_ld_running pm__law_ld_running an__law_ld_running cv__law_ld_running ct__law_ld_running), sl__law_ld_running⟩)
    (c__law_ld_running : PySem.W.codeIn K cv__law_ld_running "_law_ld_running" = true)
    (k__law_ld_running : PySem.W.keepIn K (.ref f__law_ld_running) = true)
    (a_runs : PySem.W.nsIn K mainGlobals "runs" = some (some (.ref f_runs)))
    (l_runs : K.lookup f_runs = some ⟨oc_runs, od_runs, .func (PySem.W.fnOf "runs" "runs" (defArgs s_runs) (defBody s_runs) (defScope s_runs) .none kV_runs dc_runs pm_runs an_runs cv_runs ct_runs), sl_runs⟩)
    (c_runs : PySem.W.codeIn K cv_runs "runs" = true)
    (k_runs : PySem.W.keepIn K (.ref f_runs) = true)
    (a_running_lead : PySem.W.nsIn K mainGlobals "running_lead" = some (some (.ref f_running_lead)))
    (l_running_lead : K.lookup f_running_lead = some ⟨oc_running_lead, od_running_lead, .func (PySem.W.fnOf "running_lead" "running_lead" (defArgs s_running_lead) (defBody s_running_lead) (defScope s_running_lead) .none kV_running_lead dc_running_lead pm_running_lead an_running_lead cv_running_lead ct_running_lead), sl_running_lead⟩)
    (c_running_lead : PySem.W.codeIn K cv_running_lead "running_lead" = true)
    (k_running_lead : PySem.W.keepIn K (.ref f_running_lead) = true)
    (a__law_way_of : PySem.W.nsIn K mainGlobals "_law_way_of" = some (some (.ref f__law_way_of)))
    (l__law_way_of : K.lookup f__law_way_of = some ⟨oc__law_way_of, od__law_way_of, .func (PySem.W.fnOf "_law_way_of" "_law_way_of" (defArgs s__law_way_of) (defBody s__law_way_of) (defScope s__law_way_of) .none kV__law_way_of dc__law_way_of pm__law_way_of an__law_way_of cv__law_way_of ct__law_way_of), sl__law_way_of⟩)
    (c__law_way_of : PySem.W.codeIn K cv__law_way_of "_law_way_of" = true)
    (k__law_way_of : PySem.W.keepIn K (.ref f__law_way_of) = true)
    (a__law_standing_motion : PySem.W.nsIn K mainGlobals "_law_standing_motion" = some (some (.ref f__law_standing_motion)))
    (l__law_standing_motion : K.lookup f__law_standing_motion = some ⟨oc__law_standing_motion, od__law_standing_motion, .func (PySem.W.fnOf "_law_standing_motion" "_law_standing_motion" (defArgs s__law_standing_motion) (defBody s__law_standing_motion) (defScope s__law_standing_motion) .none kV__law_standing_motion dc__law_standing_motion pm__law_standing_motion an__law_standing_motion cv__law_standing_motion ct__law_standing_motion), sl__law_standing_motion⟩)
    (c__law_standing_motion : PySem.W.codeIn K cv__law_standing_motion "_law_standing_motion" = true)
    (k__law_standing_motion : PySem.W.keepIn K (.ref f__law_standing_motion) = true)
    (a_raw_order : PySem.W.nsIn K mainGlobals "raw_order" = some (some (.ref f_raw_order)))
    (l_raw_order : K.lookup f_raw_order = some ⟨oc_raw_order, od_raw_order, .func (PySem.W.fnOf "raw_order" "raw_order" (defArgs s_raw_order) (defBody s_raw_order) (defScope s_raw_order) .none kV_raw_order dc_raw_order pm_raw_order an_raw_order cv_raw_order ct_raw_order), sl_raw_order⟩)
    (c_raw_order : PySem.W.codeIn K cv_raw_order "raw_order" = true)
    (k_raw_order : PySem.W.keepIn K (.ref f_raw_order) = true)
    (a__law_level_of : PySem.W.nsIn K mainGlobals "_law_level_of" = some (some (.ref f__law_level_of)))
    (l__law_level_of : K.lookup f__law_level_of = some ⟨oc__law_level_of, od__law_level_of, .func (PySem.W.fnOf "_law_level_of" "_law_level_of" (defArgs s__law_level_of) (defBody s__law_level_of) (defScope s__law_level_of) .none kV__law_level_of dc__law_level_of pm__law_level_of an__law_level_of cv__law_level_of ct__law_level_of), sl__law_level_of⟩)
    (c__law_level_of : PySem.W.codeIn K cv__law_level_of "_law_level_of" = true)
    (k__law_level_of : PySem.W.keepIn K (.ref f__law_level_of) = true)
    (a__law_ld_at : PySem.W.nsIn K mainGlobals "_law_ld_at" = some (some (.ref f__law_ld_at)))
    (l__law_ld_at : K.lookup f__law_ld_at = some ⟨oc__law_ld_at, od__law_ld_at, .func (PySem.W.fnOf "_law_ld_at" "_law_ld_at" (defArgs s__law_ld_at) (defBody s__law_ld_at) (defScope s__law_ld_at) .none kV__law_ld_at dc__law_ld_at pm__law_ld_at an__law_ld_at cv__law_ld_at ct__law_ld_at), sl__law_ld_at⟩)
    (c__law_ld_at : PySem.W.codeIn K cv__law_ld_at "_law_ld_at" = true)
    (k__law_ld_at : PySem.W.keepIn K (.ref f__law_ld_at) = true)
    (a_lead_of : PySem.W.nsIn K mainGlobals "lead_of" = some (some (.ref f_lead_of)))
    (l_lead_of : K.lookup f_lead_of = some ⟨oc_lead_of, od_lead_of, .func (PySem.W.fnOf "lead_of" "lead_of" (defArgs s_lead_of) (defBody s_lead_of) (defScope s_lead_of) .none kV_lead_of dc_lead_of pm_lead_of an_lead_of cv_lead_of ct_lead_of), sl_lead_of⟩)
    (c_lead_of : PySem.W.codeIn K cv_lead_of "lead_of" = true)
    (k_lead_of : PySem.W.keepIn K (.ref f_lead_of) = true)
    (a__law_rise_of : PySem.W.nsIn K mainGlobals "_law_rise_of" = some (some (.ref f__law_rise_of)))
    (l__law_rise_of : K.lookup f__law_rise_of = some ⟨oc__law_rise_of, od__law_rise_of, .func (PySem.W.fnOf "_law_rise_of" "_law_rise_of" (defArgs s__law_rise_of) (defBody s__law_rise_of) (defScope s__law_rise_of) .none kV__law_rise_of dc__law_rise_of pm__law_rise_of an__law_rise_of cv__law_rise_of ct__law_rise_of), sl__law_rise_of⟩)
    (c__law_rise_of : PySem.W.codeIn K cv__law_rise_of "_law_rise_of" = true)
    (k__law_rise_of : PySem.W.keepIn K (.ref f__law_rise_of) = true)
    (a_lead : PySem.W.nsIn K mainGlobals "lead" = some (some (.ref f_lead)))
    (l_lead : K.lookup f_lead = some ⟨oc_lead, od_lead, .func (PySem.W.fnOf "lead" "lead" (defArgs s_lead) (defBody s_lead) (defScope s_lead) .none kV_lead dc_lead pm_lead an_lead cv_lead ct_lead), sl_lead⟩)
    (c_lead : PySem.W.codeIn K cv_lead "lead" = true)
    (k_lead : PySem.W.keepIn K (.ref f_lead) = true)
    (a__law_ld_first : PySem.W.nsIn K mainGlobals "_law_ld_first" = some (some (.ref f__law_ld_first)))
    (l__law_ld_first : K.lookup f__law_ld_first = some ⟨oc__law_ld_first, od__law_ld_first, .func (PySem.W.fnOf "_law_ld_first" "_law_ld_first" (defArgs s__law_ld_first) (defBody s__law_ld_first) (defScope s__law_ld_first) .none kV__law_ld_first dc__law_ld_first pm__law_ld_first an__law_ld_first cv__law_ld_first ct__law_ld_first), sl__law_ld_first⟩)
    (c__law_ld_first : PySem.W.codeIn K cv__law_ld_first "_law_ld_first" = true)
    (k__law_ld_first : PySem.W.keepIn K (.ref f__law_ld_first) = true)
    (a__law_yq_same : PySem.W.nsIn K mainGlobals "_law_yq_same" = some (some (.ref f__law_yq_same)))
    (l__law_yq_same : K.lookup f__law_yq_same = some ⟨oc__law_yq_same, od__law_yq_same, .func (PySem.W.fnOf "_law_yq_same" "_law_yq_same" (defArgs s__law_yq_same) (defBody s__law_yq_same) (defScope s__law_yq_same) .none kV__law_yq_same dc__law_yq_same pm__law_yq_same an__law_yq_same cv__law_yq_same ct__law_yq_same), sl__law_yq_same⟩)
    (c__law_yq_same : PySem.W.codeIn K cv__law_yq_same "_law_yq_same" = true)
    (k__law_yq_same : PySem.W.keepIn K (.ref f__law_yq_same) = true)
    (a__law_ld_lead : PySem.W.nsIn K mainGlobals "_law_ld_lead" = some (some (.ref f__law_ld_lead)))
    (l__law_ld_lead : K.lookup f__law_ld_lead = some ⟨oc__law_ld_lead, od__law_ld_lead, .func (PySem.W.fnOf "_law_ld_lead" "_law_ld_lead" (defArgs s__law_ld_lead) (defBody s__law_ld_lead) (defScope s__law_ld_lead) .none kV__law_ld_lead dc__law_ld_lead pm__law_ld_lead an__law_ld_lead (.ref cc__law_ld_lead) ct__law_ld_lead), sl__law_ld_lead⟩)
    (c__law_ld_lead : PySem.W.codeIn K (.ref cc__law_ld_lead) "_law_ld_lead" = true)
    (k__law_ld_lead : PySem.W.keepIn K (.ref f__law_ld_lead) = true)
    (co__law_ld_lead : K.lookup cc__law_ld_lead = some ⟨.type "code", cd__law_ld_lead, .fields vs__law_ld_lead, cs__law_ld_lead⟩)
    (pp__law_ld_lead : (vs__law_ld_lead[11]? : Option Value) = some (.ref pt__law_ld_lead))
    (hh__law_ld_lead : PySem.W.codeHdIn K cc__law_ld_lead pt__law_ld_lead = true)
    (tt__law_ld_lead : h.get? pt__law_ld_lead = some { cls := .none, data := .fields #[] })
    (nn__law_ld_lead : K.lookup pt__law_ld_lead = none)
    (a__law_ld_running_right : PySem.W.nsIn K mainGlobals "_law_ld_running_right" = some (some (.ref f__law_ld_running_right)))
    (l__law_ld_running_right : K.lookup f__law_ld_running_right = some ⟨oc__law_ld_running_right, od__law_ld_running_right, .func (PySem.W.fnOf "_law_ld_running_right" "_law_ld_running_right" (defArgs s__law_ld_running_right) (defBody s__law_ld_running_right) (defScope s__law_ld_running_right) .none kV__law_ld_running_right dc__law_ld_running_right pm__law_ld_running_right an__law_ld_running_right cv__law_ld_running_right ct__law_ld_running_right), sl__law_ld_running_right⟩)
    (c__law_ld_running_right : PySem.W.codeIn K cv__law_ld_running_right "_law_ld_running_right" = true)
    (k__law_ld_running_right : PySem.W.keepIn K (.ref f__law_ld_running_right) = true)
    (a__law_ld_standing_right : PySem.W.nsIn K mainGlobals "_law_ld_standing_right" = some (some (.ref f__law_ld_standing_right)))
    (l__law_ld_standing_right : K.lookup f__law_ld_standing_right = some ⟨oc__law_ld_standing_right, od__law_ld_standing_right, .func (PySem.W.fnOf "_law_ld_standing_right" "_law_ld_standing_right" (defArgs s__law_ld_standing_right) (defBody s__law_ld_standing_right) (defScope s__law_ld_standing_right) .none kV__law_ld_standing_right dc__law_ld_standing_right pm__law_ld_standing_right an__law_ld_standing_right cv__law_ld_standing_right ct__law_ld_standing_right), sl__law_ld_standing_right⟩)
    (c__law_ld_standing_right : PySem.W.codeIn K cv__law_ld_standing_right "_law_ld_standing_right" = true)
    (k__law_ld_standing_right : PySem.W.keepIn K (.ref f__law_ld_standing_right) = true)
    (a__law_ld_hand_right : PySem.W.nsIn K mainGlobals "_law_ld_hand_right" = some (some (.ref f__law_ld_hand_right)))
    (l__law_ld_hand_right : K.lookup f__law_ld_hand_right = some ⟨oc__law_ld_hand_right, od__law_ld_hand_right, .func (PySem.W.fnOf "_law_ld_hand_right" "_law_ld_hand_right" (defArgs s__law_ld_hand_right) (defBody s__law_ld_hand_right) (defScope s__law_ld_hand_right) .none kV__law_ld_hand_right dc__law_ld_hand_right pm__law_ld_hand_right an__law_ld_hand_right cv__law_ld_hand_right ct__law_ld_hand_right), sl__law_ld_hand_right⟩)
    (c__law_ld_hand_right : PySem.W.codeIn K cv__law_ld_hand_right "_law_ld_hand_right" = true)
    (k__law_ld_hand_right : PySem.W.keepIn K (.ref f__law_ld_hand_right) = true)
    (a_law : PySem.W.nsIn K mainGlobals "law" = some (some (.ref f_law)))
    (l_law : K.lookup f_law = some ⟨oc_law, od_law, .func (PySem.W.fnOf "law" "law" (defArgs s_law) (defBody s_law) (defScope s_law) .none kV_law dc_law pm_law an_law cv_law ct_law), sl_law⟩)
    (c_law : PySem.W.codeIn K cv_law "law" = true)
    (k_law : PySem.W.keepIn K (.ref f_law) = true)
    (nb_abs : PySem.W.nsIn K mainGlobals "abs" = some none)
    (nb_bool : PySem.W.nsIn K mainGlobals "bool" = some none)
    (nb_enumerate : PySem.W.nsIn K mainGlobals "enumerate" = some none)
    (nb_int : PySem.W.nsIn K mainGlobals "int" = some none)
    (nb_isinstance : PySem.W.nsIn K mainGlobals "isinstance" = some none)
    (nb_len : PySem.W.nsIn K mainGlobals "len" = some none)
    (nb_list : PySem.W.nsIn K mainGlobals "list" = some none)
    (nb_max : PySem.W.nsIn K mainGlobals "max" = some none)
    (nb_min : PySem.W.nsIn K mainGlobals "min" = some none)
    (nb_range : PySem.W.nsIn K mainGlobals "range" = some none)
    (nb_str : PySem.W.nsIn K mainGlobals "str" = some none)
    (nb_tuple : PySem.W.nsIn K mainGlobals "tuple" = some none)
    (nb_VE : PySem.W.nsIn K mainGlobals "ValueError" = some none)
    (nc_FAR : PySem.W.nsIn K mainGlobals "FAR" = some (some (.int 1000000 tk_FAR)))
    (nc_REST : PySem.W.nsIn K mainGlobals "REST" = some (some (.ref ca_REST)))
    (nk_REST : ktB K (.tuple [.int 0, .int 0, .int 0, .int 0]) (.ref ca_REST) = true)
    (ga_Refused : PySem.W.nsIn K mainGlobals "Refused" = some (some (.ref C_Refused)))
    (xl_Refused : K.lookup C_Refused = some (excClassObj nm_Refused qn_Refused C_Refused N_Refused bs_Refused bm_Refused true sn_Refused sub_Refused ab_Refused col_Refused dd_Refused k0_Refused k1_Refused k2_Refused k3_Refused k5_Refused "ValueError.__new__"))
    (rv_Refused : PySem.HandSPX.refsVE bm_Refused = true)
    (sa_Refused : PySem.W.findIn K (.ref C_Refused) "__setattr__" = some (some (.builtin "object.__setattr__")))
    (ex_Refused : PySem.W.subIn K (.ref C_Refused) (.type "BaseException") = some true)
    (ty_Refused : PySem.W.typeIn K (.ref C_Refused) = some (.type "type"))
    (kc_Refused : PySem.W.keepIn K (.ref C_Refused) = true)
    (gt_Refused : PySem.W.findIn K (.ref C_Refused) "__getattribute__" = some (some (.builtin "BaseException.__getattribute__")))
    (gg_Refused : PySem.W.findIn K (.ref C_Refused) "__getattr__" = some none)
    (hd_Refused : PySem.W.hasDictIn K C_Refused = true)
    (nw_Refused : PySem.W.findIn K (.ref C_Refused) "what" = some none)
    (ic_Refused : PySem.W.findIn K (.ref C_Refused) "__init__" = some (some (.ref fI)))
    (ix_Refused : PySem.W.findIn K (.ref C_Refused) "__class__" = some (some (.builtin "object.__class__")))
    (mo_Refused : PySem.W.mroIn K C_Refused (.type "object") = some true)
    (ga_BadMotion : PySem.W.nsIn K mainGlobals "BadMotion" = some (some (.ref C_BadMotion)))
    (xl_BadMotion : K.lookup C_BadMotion = some (excClassObj nm_BadMotion qn_BadMotion C_BadMotion N_BadMotion bs_BadMotion bm_BadMotion true sn_BadMotion sub_BadMotion ab_BadMotion col_BadMotion dd_BadMotion k0_BadMotion k1_BadMotion k2_BadMotion k3_BadMotion k5_BadMotion "ValueError.__new__"))
    (rv_BadMotion : PySem.HandSPX.refsVE bm_BadMotion = true)
    (sa_BadMotion : PySem.W.findIn K (.ref C_BadMotion) "__setattr__" = some (some (.builtin "object.__setattr__")))
    (ex_BadMotion : PySem.W.subIn K (.ref C_BadMotion) (.type "BaseException") = some true)
    (ty_BadMotion : PySem.W.typeIn K (.ref C_BadMotion) = some (.type "type"))
    (kc_BadMotion : PySem.W.keepIn K (.ref C_BadMotion) = true)
    (gt_BadMotion : PySem.W.findIn K (.ref C_BadMotion) "__getattribute__" = some (some (.builtin "BaseException.__getattribute__")))
    (gg_BadMotion : PySem.W.findIn K (.ref C_BadMotion) "__getattr__" = some none)
    (hd_BadMotion : PySem.W.hasDictIn K C_BadMotion = true)
    (nw_BadMotion : PySem.W.findIn K (.ref C_BadMotion) "what" = some none)
    (ic_BadMotion : PySem.W.findIn K (.ref C_BadMotion) "__init__" = some (some (.ref fI)))
    (ix_BadMotion : PySem.W.findIn K (.ref C_BadMotion) "__class__" = some (some (.builtin "object.__class__")))
    (mo_BadMotion : PySem.W.mroIn K C_BadMotion (.type "object") = some true)
    (ga_BadDot : PySem.W.nsIn K mainGlobals "BadDot" = some (some (.ref C_BadDot)))
    (xl_BadDot : K.lookup C_BadDot = some (excClassObj nm_BadDot qn_BadDot C_BadDot N_BadDot bs_BadDot bm_BadDot true sn_BadDot sub_BadDot ab_BadDot col_BadDot dd_BadDot k0_BadDot k1_BadDot k2_BadDot k3_BadDot k5_BadDot "ValueError.__new__"))
    (rv_BadDot : PySem.HandSPX.refsVE bm_BadDot = true)
    (sa_BadDot : PySem.W.findIn K (.ref C_BadDot) "__setattr__" = some (some (.builtin "object.__setattr__")))
    (ex_BadDot : PySem.W.subIn K (.ref C_BadDot) (.type "BaseException") = some true)
    (ty_BadDot : PySem.W.typeIn K (.ref C_BadDot) = some (.type "type"))
    (kc_BadDot : PySem.W.keepIn K (.ref C_BadDot) = true)
    (gt_BadDot : PySem.W.findIn K (.ref C_BadDot) "__getattribute__" = some (some (.builtin "BaseException.__getattribute__")))
    (gg_BadDot : PySem.W.findIn K (.ref C_BadDot) "__getattr__" = some none)
    (hd_BadDot : PySem.W.hasDictIn K C_BadDot = true)
    (nw_BadDot : PySem.W.findIn K (.ref C_BadDot) "what" = some none)
    (ic_BadDot : PySem.W.findIn K (.ref C_BadDot) "__init__" = some (some (.ref fI)))
    (ix_BadDot : PySem.W.findIn K (.ref C_BadDot) "__class__" = some (some (.builtin "object.__class__")))
    (mo_BadDot : PySem.W.mroIn K C_BadDot (.type "object") = some true)
    (ig_n : PySem.W.specialIn K (.builtin "object.__class__") "__get__" = some (some (.builtin "getset_descriptor.__get__")))
    (ig_t : PySem.W.takesIn K (.builtin "object.__class__") = some true)
    (kt_Refused_Refused : PySem.W.kitOne K (.ref C_Refused) (.ref C_Refused) = some true)
    (kt_Refused_BadMotion : PySem.W.kitOne K (.ref C_Refused) (.ref C_BadMotion) = some false)
    (kt_Refused_BadDot : PySem.W.kitOne K (.ref C_Refused) (.ref C_BadDot) = some false)
    (kt_BadMotion_Refused : PySem.W.kitOne K (.ref C_BadMotion) (.ref C_Refused) = some true)
    (kt_BadMotion_BadMotion : PySem.W.kitOne K (.ref C_BadMotion) (.ref C_BadMotion) = some true)
    (kt_BadMotion_BadDot : PySem.W.kitOne K (.ref C_BadMotion) (.ref C_BadDot) = some false)
    (kt_BadDot_Refused : PySem.W.kitOne K (.ref C_BadDot) (.ref C_Refused) = some true)
    (kt_BadDot_BadMotion : PySem.W.kitOne K (.ref C_BadDot) (.ref C_BadMotion) = some false)
    (kt_BadDot_BadDot : PySem.W.kitOne K (.ref C_BadDot) (.ref C_BadDot) = some true)
    (ti : PySem.W.typeIn K (.ref fI) = some (.type "function"))
    (li : K.lookup fI = some ⟨oI, dI, .func (PySem.W.fnOf "__init__" "Refused.__init__" (iA i1 i2) (iB i3 i4 i5 i6 i7 i8 i9 i10 i11 i12) iS .none kI eI mI aI cI tI), sI⟩)
    (ci : PySem.W.codeIn K cI "Refused.__init__" = true)
    (pl : (i4.endLine == i7.line) = true)
    (vv : PySem.W.findCls K (.type "ValueError") (.type "type") "__init__" = some (.val (.builtin "ValueError.__init__")))
    (sb_Refused_Refused : PySem.W.subIn K (.ref C_Refused) (.ref C_Refused) = some true)
    (sb_Refused_BadMotion : PySem.W.subIn K (.ref C_Refused) (.ref C_BadMotion) = some false)
    (sb_Refused_BadDot : PySem.W.subIn K (.ref C_Refused) (.ref C_BadDot) = some false)
    (sb_BadMotion_Refused : PySem.W.subIn K (.ref C_BadMotion) (.ref C_Refused) = some true)
    (sb_BadMotion_BadMotion : PySem.W.subIn K (.ref C_BadMotion) (.ref C_BadMotion) = some true)
    (sb_BadMotion_BadDot : PySem.W.subIn K (.ref C_BadMotion) (.ref C_BadDot) = some false)
    (sb_BadDot_Refused : PySem.W.subIn K (.ref C_BadDot) (.ref C_Refused) = some true)
    (sb_BadDot_BadMotion : PySem.W.subIn K (.ref C_BadDot) (.ref C_BadMotion) = some false)
    (sb_BadDot_BadDot : PySem.W.subIn K (.ref C_BadDot) (.ref C_BadDot) = some true)
    (hans : ∀ ns : List Int, ns.length ≤ 63 → (∀ z ∈ ns, Builtin.Int.intBits z ≤ 1048576) → m_law [.d (.list (ns.map PyData.int))] = .ret (.sh (.bool true)) []) :
    LawAtS PySem.Challenge.rw_carriedink_k26_leads_by_division w K (L2N.CX pw w) 12 63 "script" mg fa h := by
  have e := hfa.symm.trans (PySem.W.mg_of X G a_law)
  cases e
  have B : Bn mg := ⟨PySem.W.mg_none_of X G nb_abs, PySem.W.mg_none_of X G nb_bool, PySem.W.mg_none_of X G nb_enumerate, PySem.W.mg_none_of X G nb_int, PySem.W.mg_none_of X G nb_isinstance, PySem.W.mg_none_of X G nb_len, PySem.W.mg_none_of X G nb_list, PySem.W.mg_none_of X G nb_max, PySem.W.mg_none_of X G nb_min, PySem.W.mg_none_of X G nb_range, PySem.W.mg_none_of X G nb_str, PySem.W.mg_none_of X G nb_tuple⟩
  have C : Ct K mg := ⟨trivial, cint_mk X G nc_FAR, ⟨_, PySem.W.mg_of X G nc_REST, nk_REST⟩⟩
  have D_whole := df_mk (st := s_whole) X G a_whole l_whole c_whole k_whole
  have D_is_free_number := df_mk (st := s_is_free_number) X G a_is_free_number l_is_free_number c_is_free_number k_is_free_number
  have D_spun := df_mk (st := s_spun) X G a_spun l_spun c_spun k_spun
  have D_rise_by := df_mk (st := s_rise_by) X G a_rise_by l_rise_by c_rise_by k_rise_by
  have D_level_of := df_mk (st := s_level_of) X G a_level_of l_level_of c_level_of k_level_of
  have D__law_yq_is_whole := df_mk (st := s__law_yq_is_whole) X G a__law_yq_is_whole l__law_yq_is_whole c__law_yq_is_whole k__law_yq_is_whole
  have D__law_moved_dot := df_mk (st := s__law_moved_dot) X G a__law_moved_dot l__law_moved_dot c__law_moved_dot k__law_moved_dot
  have D__law_level := df_mk (st := s__law_level) X G a__law_level l__law_level c__law_level k__law_level
  have D__law_pool := df_mk (st := s__law_pool) X G a__law_pool l__law_pool c__law_pool k__law_pool
  have D__law_take := df_mk (st := s__law_take) X G a__law_take l__law_take c__law_take k__law_take
  have D__law_ld_heard := df_mk (st := s__law_ld_heard) X G a__law_ld_heard l__law_ld_heard c__law_ld_heard k__law_ld_heard
  have D__law_ld_in := df_mk (st := s__law_ld_in) X G a__law_ld_in l__law_ld_in c__law_ld_in k__law_ld_in
  have D_bad_motion := df_mk (st := s_bad_motion) X G a_bad_motion l_bad_motion c_bad_motion k_bad_motion
  have D_joined := df_mk (st := s_joined) X G a_joined l_joined c_joined k_joined
  have D_backed := df_mk (st := s_backed) X G a_backed l_backed c_backed k_backed
  have D_bad_dot := df_mk (st := s_bad_dot) X G a_bad_dot l_bad_dot c_bad_dot k_bad_dot
  have D__law_then_motion := df_mk (st := s__law_then_motion) X G a__law_then_motion l__law_then_motion c__law_then_motion k__law_then_motion
  have D__law_back_motion := df_mk (st := s__law_back_motion) X G a__law_back_motion l__law_back_motion c__law_back_motion k__law_back_motion
  have D__law_small := df_mk (st := s__law_small) X G a__law_small l__law_small c__law_small k__law_small
  have D__law_one := df_mk (st := s__law_one) X G a__law_one l__law_one c__law_one k__law_one
  have D_made_motion := df_mk (st := s_made_motion) X G a_made_motion l_made_motion c_made_motion k_made_motion
  have D_far_power := df_mk (st := s_far_power) X G a_far_power l_far_power c_far_power k_far_power
  have D_asked_dot := df_mk (st := s_asked_dot) X G a_asked_dot l_asked_dot c_asked_dot k_asked_dot
  have D_raw_way := df_mk (st := s_raw_way) X G a_raw_way l_raw_way c_raw_way k_raw_way
  have D__law_power_motion := df_mk (st := s__law_power_motion) X G a__law_power_motion l__law_power_motion c__law_power_motion k__law_power_motion
  have D__law_motion_by := df_mk (st := s__law_motion_by) X G a__law_motion_by l__law_motion_by c__law_motion_by k__law_motion_by
  have D__law_ld_running := df_mk (st := s__law_ld_running) X G a__law_ld_running l__law_ld_running c__law_ld_running k__law_ld_running
  have D_runs := df_mk (st := s_runs) X G a_runs l_runs c_runs k_runs
  have D_running_lead := df_mk (st := s_running_lead) X G a_running_lead l_running_lead c_running_lead k_running_lead
  have D__law_way_of := df_mk (st := s__law_way_of) X G a__law_way_of l__law_way_of c__law_way_of k__law_way_of
  have D__law_standing_motion := df_mk (st := s__law_standing_motion) X G a__law_standing_motion l__law_standing_motion c__law_standing_motion k__law_standing_motion
  have D_raw_order := df_mk (st := s_raw_order) X G a_raw_order l_raw_order c_raw_order k_raw_order
  have D__law_level_of := df_mk (st := s__law_level_of) X G a__law_level_of l__law_level_of c__law_level_of k__law_level_of
  have D__law_ld_at := df_mk (st := s__law_ld_at) X G a__law_ld_at l__law_ld_at c__law_ld_at k__law_ld_at
  have D_lead_of := df_mk (st := s_lead_of) X G a_lead_of l_lead_of c_lead_of k_lead_of
  have D__law_rise_of := df_mk (st := s__law_rise_of) X G a__law_rise_of l__law_rise_of c__law_rise_of k__law_rise_of
  have D_lead := df_mk (st := s_lead) X G a_lead l_lead c_lead k_lead
  have D__law_ld_first := df_mk (st := s__law_ld_first) X G a__law_ld_first l__law_ld_first c__law_ld_first k__law_ld_first
  have D__law_yq_same := df_mk (st := s__law_yq_same) X G a__law_yq_same l__law_yq_same c__law_yq_same k__law_yq_same
  have D__law_ld_lead := dfc_mk (st := s__law_ld_lead) X G a__law_ld_lead l__law_ld_lead c__law_ld_lead k__law_ld_lead
  have D__law_ld_running_right := df_mk (st := s__law_ld_running_right) X G a__law_ld_running_right l__law_ld_running_right c__law_ld_running_right k__law_ld_running_right
  have D__law_ld_standing_right := df_mk (st := s__law_ld_standing_right) X G a__law_ld_standing_right l__law_ld_standing_right c__law_ld_standing_right k__law_ld_standing_right
  have D__law_ld_hand_right := df_mk (st := s__law_ld_hand_right) X G a__law_ld_hand_right l__law_ld_hand_right c__law_ld_hand_right k__law_ld_hand_right
  have S : SubT K mg subs := by
    intro p hp
    simp only [subs, List.mem_cons, List.not_mem_nil, or_false] at hp
    rcases hp with rfl | rfl | rfl | rfl | rfl | rfl | rfl | rfl | rfl
    · exact ⟨_, _, PySem.W.mg_of X G ga_Refused, PySem.W.mg_of X G ga_Refused, sb_Refused_Refused⟩
    · exact ⟨_, _, PySem.W.mg_of X G ga_Refused, PySem.W.mg_of X G ga_BadMotion, sb_Refused_BadMotion⟩
    · exact ⟨_, _, PySem.W.mg_of X G ga_Refused, PySem.W.mg_of X G ga_BadDot, sb_Refused_BadDot⟩
    · exact ⟨_, _, PySem.W.mg_of X G ga_BadMotion, PySem.W.mg_of X G ga_Refused, sb_BadMotion_Refused⟩
    · exact ⟨_, _, PySem.W.mg_of X G ga_BadMotion, PySem.W.mg_of X G ga_BadMotion, sb_BadMotion_BadMotion⟩
    · exact ⟨_, _, PySem.W.mg_of X G ga_BadMotion, PySem.W.mg_of X G ga_BadDot, sb_BadMotion_BadDot⟩
    · exact ⟨_, _, PySem.W.mg_of X G ga_BadDot, PySem.W.mg_of X G ga_Refused, sb_BadDot_Refused⟩
    · exact ⟨_, _, PySem.W.mg_of X G ga_BadDot, PySem.W.mg_of X G ga_BadMotion, sb_BadDot_BadMotion⟩
    · exact ⟨_, _, PySem.W.mg_of X G ga_BadDot, PySem.W.mg_of X G ga_BadDot, sb_BadDot_BadDot⟩
  refine ⟨PySem.W.fnOf "law" "law" (defArgs s_law) (defBody s_law) (defScope s_law) .none kV_law dc_law pm_law an_law cv_law ct_law, [(cc__law_ld_lead, pt__law_ld_lead)], spD K mg [(pt__law_ld_lead, lamQ "_law_ld_lead")] m_law, (List.forall_mem_cons.mpr ⟨tt__law_ld_lead, (fun _ h => nomatch h)⟩), (List.forall_mem_cons.mpr ⟨nn__law_ld_lead, (fun _ h => nomatch h)⟩), (List.forall_mem_cons.mpr ⟨PySem.W.codeHd_of_K X hh__law_ld_lead, (fun _ h => nomatch h)⟩), fun s u => .of_eq rfl, law_sp ?_ hans, fun base Xb Gb TB => ?_⟩
  · exact (List.forall_mem_cons.mpr ⟨by simp, (fun _ h => nomatch h)⟩)
  have TB__law_ld_lead : TabB base mg cc__law_ld_lead pt__law_ld_lead := TB (cc__law_ld_lead, pt__law_ld_lead) (by simp)
  have FI := fn_init (P := pw) (w := w) (base := base) pl (PySem.W.mg_none_of X G nb_VE) vv li ci
  have X_Refused : Cls pw w K mg base "Refused" := cls_mk X G ga_Refused xl_Refused rv_Refused sa_Refused ex_Refused ty_Refused kc_Refused gt_Refused gg_Refused hd_Refused nw_Refused ic_Refused ti FI
  have X_BadMotion : Cls pw w K mg base "BadMotion" := cls_mk X G ga_BadMotion xl_BadMotion rv_BadMotion sa_BadMotion ex_BadMotion ty_BadMotion kc_BadMotion gt_BadMotion gg_BadMotion hd_BadMotion nw_BadMotion ic_BadMotion ti FI
  have X_BadDot : Cls pw w K mg base "BadDot" := cls_mk X G ga_BadDot xl_BadDot rv_BadDot sa_BadDot ex_BadDot ty_BadDot kc_BadDot gt_BadDot gg_BadDot hd_BadDot nw_BadDot ic_BadDot ti FI
  have XF : ∀ p ∈ subs, Cls pw w K mg base p.1 := by
    intro p hp
    simp only [subs, List.mem_cons, List.not_mem_nil, or_false] at hp
    rcases hp with rfl | rfl | rfl | rfl | rfl | rfl | rfl | rfl | rfl
    · exact X_Refused
    · exact X_Refused
    · exact X_Refused
    · exact X_BadMotion
    · exact X_BadMotion
    · exact X_BadMotion
    · exact X_BadDot
    · exact X_BadDot
    · exact X_BadDot
  have KT : KitT K mg subs := by
    intro p hp
    simp only [subs, List.mem_cons, List.not_mem_nil, or_false] at hp
    rcases hp with rfl | rfl | rfl | rfl | rfl | rfl | rfl | rfl | rfl
    · exact kit_of_xc X_Refused (PySem.W.mg_of X G ga_Refused) (PySem.W.mg_of X G ga_Refused) ⟨ix_Refused, mo_Refused⟩ kt_Refused_Refused
    · exact kit_of_xc X_Refused (PySem.W.mg_of X G ga_Refused) (PySem.W.mg_of X G ga_BadMotion) ⟨ix_Refused, mo_Refused⟩ kt_Refused_BadMotion
    · exact kit_of_xc X_Refused (PySem.W.mg_of X G ga_Refused) (PySem.W.mg_of X G ga_BadDot) ⟨ix_Refused, mo_Refused⟩ kt_Refused_BadDot
    · exact kit_of_xc X_BadMotion (PySem.W.mg_of X G ga_BadMotion) (PySem.W.mg_of X G ga_Refused) ⟨ix_BadMotion, mo_BadMotion⟩ kt_BadMotion_Refused
    · exact kit_of_xc X_BadMotion (PySem.W.mg_of X G ga_BadMotion) (PySem.W.mg_of X G ga_BadMotion) ⟨ix_BadMotion, mo_BadMotion⟩ kt_BadMotion_BadMotion
    · exact kit_of_xc X_BadMotion (PySem.W.mg_of X G ga_BadMotion) (PySem.W.mg_of X G ga_BadDot) ⟨ix_BadMotion, mo_BadMotion⟩ kt_BadMotion_BadDot
    · exact kit_of_xc X_BadDot (PySem.W.mg_of X G ga_BadDot) (PySem.W.mg_of X G ga_Refused) ⟨ix_BadDot, mo_BadDot⟩ kt_BadDot_Refused
    · exact kit_of_xc X_BadDot (PySem.W.mg_of X G ga_BadDot) (PySem.W.mg_of X G ga_BadMotion) ⟨ix_BadDot, mo_BadDot⟩ kt_BadDot_BadMotion
    · exact kit_of_xc X_BadDot (PySem.W.mg_of X G ga_BadDot) (PySem.W.mg_of X G ga_BadDot) ⟨ix_BadDot, mo_BadDot⟩ kt_BadDot_BadDot
  have IG : IxG K := ⟨ig_n, ig_t⟩
  have mT__law_ld_lead : (pt__law_ld_lead, lamQ "_law_ld_lead") ∈ ([(pt__law_ld_lead, lamQ "_law_ld_lead")] : List (Addr × Str)) := by simp
  have hu__law_ld_lead : ∀ p ∈ ([(pt__law_ld_lead, lamQ "_law_ld_lead")] : List (Addr × Str)), p.1 = pt__law_ld_lead → p.2 = lamQ "_law_ld_lead" := (List.forall_mem_cons.mpr ⟨fun _ => rfl, (fun _ h => nomatch h)⟩)
  have G__law_pool : Gd pw w K mg base [(pt__law_ld_lead, lamQ "_law_ld_lead")] 1 "_law_pool" ["script"] m__law_pool := g__law_pool B C D__law_pool 
  have G__law_level : Gd pw w K mg base [(pt__law_ld_lead, lamQ "_law_ld_lead")] 1 "_law_level" ["way", "x", "y"] m__law_level := g__law_level B C D__law_level 
  have G__law_ld_in : Gd pw w K mg base [(pt__law_ld_lead, lamQ "_law_ld_lead")] 1 "_law_ld_in" ["dot"] m__law_ld_in := g__law_ld_in B C D__law_ld_in 
  have G__law_moved_dot : Gd pw w K mg base [(pt__law_ld_lead, lamQ "_law_ld_lead")] 1 "_law_moved_dot" ["g", "x", "y"] m__law_moved_dot := g__law_moved_dot B C D__law_moved_dot 
  have G__law_back_motion : Gd pw w K mg base [(pt__law_ld_lead, lamQ "_law_ld_lead")] 2 "_law_back_motion" ["g"] m__law_back_motion := g__law_back_motion B C D__law_back_motion G__law_moved_dot
  have G__law_take : Gd pw w K mg base [(pt__law_ld_lead, lamQ "_law_ld_lead")] 1 "_law_take" ["jar", "many"] m__law_take := g__law_take B C D__law_take 
  have G__law_small : Gd pw w K mg base [(pt__law_ld_lead, lamQ "_law_ld_lead")] 2 "_law_small" ["jar", "most"] m__law_small := g__law_small B C D__law_small G__law_take
  have G__law_one : Gd pw w K mg base [(pt__law_ld_lead, lamQ "_law_ld_lead")] 2 "_law_one" ["jar", "things"] m__law_one := g__law_one B C D__law_one G__law_take
  have G__law_then_motion : Gd pw w K mg base [(pt__law_ld_lead, lamQ "_law_ld_lead")] 2 "_law_then_motion" ["one", "two"] m__law_then_motion := g__law_then_motion B C D__law_then_motion G__law_moved_dot
  have G__law_power_motion : Gd pw w K mg base [(pt__law_ld_lead, lamQ "_law_ld_lead")] 3 "_law_power_motion" ["g", "n"] m__law_power_motion := g__law_power_motion B C D__law_power_motion G__law_then_motion G__law_back_motion
  have G__law_ld_running : Gd pw w K mg base [(pt__law_ld_lead, lamQ "_law_ld_lead")] 3 "_law_ld_running" ["jar"] m__law_ld_running := g__law_ld_running B C D__law_ld_running G__law_small G__law_one
  have G__law_way_of : Gd pw w K mg base [(pt__law_ld_lead, lamQ "_law_ld_lead")] 4 "_law_way_of" ["g"] m__law_way_of := g__law_way_of B C D__law_way_of G__law_power_motion
  have G__law_ld_at : Gd pw w K mg base [(pt__law_ld_lead, lamQ "_law_ld_lead")] 5 "_law_ld_at" ["g", "n", "dot"] m__law_ld_at := g__law_ld_at B C D__law_ld_at G__law_moved_dot G__law_way_of
  have G__law_level_of : Gd pw w K mg base [(pt__law_ld_lead, lamQ "_law_ld_lead")] 5 "_law_level_of" ["g", "x", "y"] m__law_level_of := g__law_level_of B C D__law_level_of G__law_way_of
  have G__law_rise_of : Gd pw w K mg base [(pt__law_ld_lead, lamQ "_law_ld_lead")] 6 "_law_rise_of" ["g"] m__law_rise_of := g__law_rise_of B C D__law_rise_of G__law_level_of
  have G__law_ld_first : Gd pw w K mg base [(pt__law_ld_lead, lamQ "_law_ld_lead")] 7 "_law_ld_first" ["g", "dot"] m__law_ld_first := g__law_ld_first B C D__law_ld_first G__law_level G__law_way_of G__law_ld_at G__law_rise_of
  have G__law_yq_is_whole : Gd pw w K mg base [(pt__law_ld_lead, lamQ "_law_ld_lead")] 1 "_law_yq_is_whole" ["thing"] m__law_yq_is_whole := g__law_yq_is_whole B C D__law_yq_is_whole 
  have G__law_yq_same : ∀ n, Gd pw w K mg base [(pt__law_ld_lead, lamQ "_law_ld_lead")] (1 + n) "_law_yq_same" ["heard_one", "owed"] (m__law_yq_same n) := g__law_yq_same B C D__law_yq_same G__law_yq_is_whole
  have G_whole : Gd pw w K mg base [(pt__law_ld_lead, lamQ "_law_ld_lead")] 1 "whole" ["thing", "low", "high"] m_whole := g_whole B C D_whole 
  have G_is_free_number : Gd pw w K mg base [(pt__law_ld_lead, lamQ "_law_ld_lead")] 1 "is_free_number" ["thing"] m_is_free_number := g_is_free_number B C D_is_free_number 
  have G_bad_motion : Gd pw w K mg base [(pt__law_ld_lead, lamQ "_law_ld_lead")] 2 "bad_motion" ["thing", "is_free"] m_bad_motion := g_bad_motion B C D_bad_motion G_whole G_is_free_number
  have G_made_motion : Gd pw w K mg base [(pt__law_ld_lead, lamQ "_law_ld_lead")] 3 "made_motion" ["thing"] m_made_motion := g_made_motion B C D_made_motion G_bad_motion X_BadMotion
  have G_bad_dot : Gd pw w K mg base [(pt__law_ld_lead, lamQ "_law_ld_lead")] 2 "bad_dot" ["dot"] m_bad_dot := g_bad_dot B C D_bad_dot G_whole
  have G_asked_dot : Gd pw w K mg base [(pt__law_ld_lead, lamQ "_law_ld_lead")] 3 "asked_dot" ["dot"] m_asked_dot := g_asked_dot B C D_asked_dot G_bad_dot X_BadDot
  have G_spun : Gd pw w K mg base [(pt__law_ld_lead, lamQ "_law_ld_lead")] 1 "spun" ["motion", "x", "y"] m_spun := g_spun B C D_spun 
  have G_joined : Gd pw w K mg base [(pt__law_ld_lead, lamQ "_law_ld_lead")] 2 "joined" ["one", "two"] m_joined := g_joined B C D_joined G_spun
  have G_raw_way : Gd pw w K mg base [(pt__law_ld_lead, lamQ "_law_ld_lead")] 3 "raw_way" ["motion"] m_raw_way := g_raw_way B C D_raw_way G_joined
  have G_runs : Gd pw w K mg base [(pt__law_ld_lead, lamQ "_law_ld_lead")] 4 "runs" ["motion"] m_runs := g_runs B C D_runs G_raw_way
  have G_rise_by : Gd pw w K mg base [(pt__law_ld_lead, lamQ "_law_ld_lead")] 1 "rise_by" ["way", "motion"] m_rise_by := g_rise_by B C D_rise_by 
  have G_level_of : Gd pw w K mg base [(pt__law_ld_lead, lamQ "_law_ld_lead")] 1 "level_of" ["way", "x", "y"] m_level_of := g_level_of B C D_level_of 
  have G_backed : Gd pw w K mg base [(pt__law_ld_lead, lamQ "_law_ld_lead")] 2 "backed" ["motion"] m_backed := g_backed B C D_backed G_spun
  have G_far_power : Gd pw w K mg base [(pt__law_ld_lead, lamQ "_law_ld_lead")] 3 "far_power" ["motion", "n"] m_far_power := g_far_power B C D_far_power G_joined G_backed
  have G_running_lead : Gd pw w K mg base [(pt__law_ld_lead, lamQ "_law_ld_lead")] 4 "running_lead" ["motion", "x", "y"] m_running_lead := g_running_lead B C D_running_lead G_spun G_rise_by G_level_of G_far_power G_raw_way
  have G_raw_order : Gd pw w K mg base [(pt__law_ld_lead, lamQ "_law_ld_lead")] 5 "raw_order" ["motion"] m_raw_order := g_raw_order B C D_raw_order G_runs
  have G_lead_of : Gd pw w K mg base [(pt__law_ld_lead, lamQ "_law_ld_lead")] 6 "lead_of" ["motion", "x", "y"] m_lead_of := g_lead_of B C D_lead_of G_spun G_runs G_running_lead G_raw_order
  have G_lead : Gd pw w K mg base [(pt__law_ld_lead, lamQ "_law_ld_lead")] 7 "lead" ["motion", "dot"] m_lead := g_lead B C D_lead G_made_motion G_asked_dot G_lead_of
  have G__law_ld_lead : Gd pw w K mg base [(pt__law_ld_lead, lamQ "_law_ld_lead")] 10 "_law_ld_lead" ["g", "dot"] m__law_ld_lead := g__law_ld_lead B C D__law_ld_heard G_lead TB__law_ld_lead mT__law_ld_lead hu__law_ld_lead S XF KT IG D__law_ld_lead
  have G__law_ld_running_right : Gd pw w K mg base [(pt__law_ld_lead, lamQ "_law_ld_lead")] 11 "_law_ld_running_right" ["jar"] m__law_ld_running_right := g__law_ld_running_right B C D__law_ld_running_right G__law_level G__law_ld_in G__law_back_motion G__law_small G__law_one G__law_power_motion G__law_ld_running G__law_way_of G__law_ld_at G__law_rise_of G__law_ld_first G__law_yq_same G__law_ld_lead
  have G__law_motion_by : Gd pw w K mg base [(pt__law_ld_lead, lamQ "_law_ld_lead")] 3 "_law_motion_by" ["jar", "kind", "most"] m__law_motion_by := g__law_motion_by B C D__law_motion_by G__law_take G__law_small
  have G__law_standing_motion : Gd pw w K mg base [(pt__law_ld_lead, lamQ "_law_ld_lead")] 4 "_law_standing_motion" ["jar", "most"] m__law_standing_motion := g__law_standing_motion B C D__law_standing_motion G__law_one G__law_motion_by
  have G__law_ld_standing_right : Gd pw w K mg base [(pt__law_ld_lead, lamQ "_law_ld_lead")] 11 "_law_ld_standing_right" ["jar"] m__law_ld_standing_right := g__law_ld_standing_right B C D__law_ld_standing_right G__law_moved_dot G__law_ld_in G__law_small G__law_one G__law_power_motion G__law_standing_motion G__law_yq_same G__law_ld_lead
  have G__law_ld_hand_right : Gd pw w K mg base [(pt__law_ld_lead, lamQ "_law_ld_lead")] 11 "_law_ld_hand_right" ["jar"] m__law_ld_hand_right := g__law_ld_hand_right B C D__law_ld_hand_right G__law_one G__law_yq_same G__law_ld_lead
  exact f_law B C G__law_pool G__law_ld_running_right G__law_ld_standing_right G__law_ld_hand_right (fun_mk l_law c_law k_law)
end K26


set_option Elab.async false
set_option maxRecDepth 100000
set_option maxHeartbeats 4000000
namespace K26
open PySem PySem.Spec PyProof.Rows L2 FL LamX
theorem df {i j : Int} (h : 0 < j) (h2 : j < 1073741824) : DivFits i j := .small (by omega) (by omega)
theorem mf1 {i j : Int} (h : -18446744073709551616 < i) (h2 : i < 18446744073709551616) : MulFits i j := .left (by omega)
theorem mf2 {i j : Int} (h : -18446744073709551616 < j) (h2 : j < 18446744073709551616) : MulFits i j := .right (by omega)
theorem fdv_pos {i j : Int} (h : 0 < j) : fdv i j = i / j := if_pos h
theorem fmd_pos {i j : Int} (h : 0 < j) : fmd i j = i % j := if_pos h
theorem free_no : free .no = true := rfl
theorem free_sh {d : PyData} : free (.sh d) = true := rfl
theorem free_li {io lk : Bool} {ds : List PyData} : free (.li io lk ds) = (!io && !lk) := rfl
/-- a jar that can be drawn from -/
def J (jar : List PyData) : Prop := ∃ d s c : Int, jar = [.int d, .int s, .int c] ∧ 0 ≤ d
theorem take_spec {jar : List PyData} {many : Int} (hj : J jar) (h1 : 0 < many) (h2 : many < 1073741824) : ∃ r jar', 0 ≤ r ∧ r < many ∧ J jar' ∧ m__law_take [.io jar, .d (.int many)] = .ret (.sh (.int r)) [jar'] := by
  obtain ⟨d, s, c, rfl, hd⟩ := hj
  have h0 : many ≠ 0 := by omega
  have hf : ∀ i, DivFits i many := fun i => df h1 h2
  by_cases h : 0 < d
  · refine ⟨d % many, [.int (d / many), .int s, .int c], Int.emod_nonneg _ h0, Int.emod_lt_of_pos _ h1, ⟨_, _, _, rfl, Int.ediv_nonneg hd (by omega)⟩, ?_⟩
    simp [m__law_take, b__law_take, mkM, FL.finish, fr0, toSv, seqS, bnd, FL.ret, iteE, asB, op2, opM, nm, rd, oIx, oCmp, L2.atI, seqIndex?, asgS, unS, FL.stM, free_no, free_sh, free_li, fz, callB, evC, rds, oInt, oMod, h0, h, tgSub, bndN, oFdiv, hf, setIx, L2.ixN, rtS, rvOf, iosOf, fdv_pos h1, fmd_pos h1]
  · have e : d = 0 := by omega
    subst e
    generalize hs : (s * 39373 + 7919 * (c + 1) + 7) % 2147483647 = s'
    have b1 : 0 ≤ s' := by omega
    have b2 : s' < 2147483647 := by omega
    have m1 : MulFits s 39373 := mf2 (by omega) (by omega)
    have m2 : MulFits 7919 (c + 1) := mf1 (by omega) (by omega)
    have m3 : MulFits s' s' := mf1 (by omega) (by omega)
    have f32 : DivFits (s' * s' % 2147483629) 32 := df (by omega) (by omega)
    refine ⟨(s' * s' % 2147483629 / 32) % many, [.int 0, .int s', .int (c + 1)], Int.emod_nonneg _ h0, Int.emod_lt_of_pos _ h1, ⟨_, _, _, rfl, Int.le_refl _⟩, ?_⟩
    simp [m__law_take, b__law_take, mkM, FL.finish, fr0, toSv, seqS, bnd, FL.ret, iteE, asB, op2, opM, nm, rd, oIx, oCmp, L2.atI, seqIndex?, asgS, unS, FL.stM, free_no, free_sh, free_li, fz, callB, evC, rds, oInt, oMod, h0, tgSub, bndN, oFdiv, hf, setIx, L2.ixN, rtS, rvOf, iosOf, fdv_pos h1, fmd_pos h1, exS, nxS, mulE, mulM, m1, m2, oAdd, fmd, fdv, hs, m3, f32]
    intro z
    omega
theorem ixN_nn {n : Nat} {i : Int} (h0 : 0 ≤ i) (h1 : i < n) : L2.ixN n i = some i.toNat := by
  simp [L2.ixN, h0, h1]
theorem one_spec {jar xs : List PyData} (hj : J jar) (h1 : xs ≠ []) (h2 : xs.length < 1073741824) : ∃ x jar', x ∈ xs ∧ J jar' ∧ m__law_one [.io jar, .d (.list xs)] = .ret (.sh x) [jar'] := by
  have hl : 0 < xs.length := List.length_pos_iff.mpr h1
  obtain ⟨r, jar', r0, r1, hj', e⟩ := take_spec hj (many := (xs.length : Int)) (by omega) (by omega)
  have hr : r.toNat < xs.length := by omega
  refine ⟨xs[r.toNat], jar', List.getElem_mem hr, hj', ?_⟩
  have hr1 : r < (xs.length : Int) := r1
  simp [m__law_one, b__law_one, mkM, FL.finish, fr0, toSv, rtS, bnd, FL.ret, op2, opM, nm, rd, avC, aIO, aD, fzM, fz, callB, evC, rds, oLen, callM, ioSlots, resolve, e, rvE, putIos, setLi, oIx, L2.atI, ixN_nn r0 hr1, hr, rvOf, iosOf]
/-- a loop that goes through: Pv of the items left and the frame -/
theorem forL_out {tgt : Ev → Fr → Rs Unit} {body : Fr → Rs Fl} {items : List PyData} {fr : Fr} {L : Rs Fl} (hL : forL tgt body items fr = L) (Pv : List PyData → Fr → Prop) (h0 : Pv items fr)
    (step : ∀ d ds fr, Pv (d :: ds) fr → ∃ fr1 fr2, tgt (.sh d) fr = .ok () fr1 ∧ body fr1 = .ok .nx fr2 ∧ Pv ds fr2) : ∃ fr', L = .ok .nx fr' ∧ Pv [] fr' := by
  induction items generalizing fr with
  | nil => exact ⟨fr, hL.symm, h0⟩
  | cons d ds ih =>
    obtain ⟨fr1, fr2, e1, e2, h2⟩ := step d ds fr h0
    refine ih (fr := fr2) ?_ h2
    unfold forL at hL
    rw [e1] at hL
    dsimp only at hL
    rw [e2] at hL
    exact hL
theorem mem_rngD {lo : Int} {n : Nat} {x : PyData} (h : x ∈ rngD lo n) : ∃ i : Nat, i < n ∧ x = .int (lo + i) := by
  unfold rngD at h
  obtain ⟨i, hi, rfl⟩ := List.mem_map.mp h
  exact ⟨i, List.mem_range.mp hi, rfl⟩
theorem mfw {d : Int} (h0 : 0 ≤ d) (h : d < 1000000000000000000000000000000000000000000000000000000000000) : MulFits d 1000000000000000000000000000000000000000000000000000000000000 := by
  by_cases hz : d = 0
  · exact mf1 (by omega) (by omega)
  refine .wide ?_
  have h1 : d.natAbs.log2 < 200 := by
    rw [Nat.log2_lt (by omega)]
    have : (2 : Nat) ^ 200 = 1606938044258990275541962092341162602522202993782792835301376 := by decide
    omega
  have h2 : (1000000000000000000000000000000000000000000000000000000000000 : Int).natAbs.log2 < 200 := by decide +kernel
  omega
theorem pow12 : oPow (.int 10) (.int 12) = some (.sh (.int 1000000000000)) := by
  show (if CPow 10 12 then some (Ev.sh (PyData.int (10 ^ (12 : Int).toNat))) else none) = _
  rw [if_pos (by decide)]
  rfl
theorem pow60 : oPow (.int 10) (.int 60) = some (.sh (.int 1000000000000000000000000000000000000000000000000000000000000)) := by
  show (if CPow 10 60 then some (Ev.sh (PyData.int (10 ^ (60 : Int).toNat))) else none) = _
  rw [if_pos (by decide)]
  rfl
theorem pool_spec (ns : List Int) (hn : ns.length ≤ 63) : ∃ jar, J jar ∧ m__law_pool [.d (.list (ns.map PyData.int))] = .ret (.ow jar) [] := by
  have hr : rgOk (ns.length : Int) = true := by
    rw [rgOk_iff]
    omega
  simp [m__law_pool, b__law_pool, mkM, FL.finish, fr0, toSv, seqS, asgS, bnd, FL.ret, tupE, argC, fzM, fz, tgT, rd, tgC, bU, FL.stM, free_no, free_sh, free_li, tgN, unS, nxS, sizeLine_eq, forS, srcB, evC, callB, rds, nm, oLen, rng1M, hr, lkAll_nil]
  generalize hL : forL _ _ _ _ = L
  have hP := forL_out hL (fun items fr => (∀ x ∈ items, ∃ i : Nat, i < ns.length ∧ x = .int i) ∧ ∃ d s u v, fr = [.sh (.list (ns.map PyData.int)), .sh (.int d), .sh (.int s), u, v] ∧ 0 ≤ d ∧ free u = true ∧ free v = true)
    ⟨fun x hx => by
      obtain ⟨i, hi, rfl⟩ := mem_rngD hx
      exact ⟨i, hi, by simp⟩, 0, 7, .no, .no, rfl, Int.le_refl _, rfl, rfl⟩ (fun x ds fr ⟨hx, d, s, u, v, hfr, hd, hu, hv⟩ => by
    obtain ⟨i, hi, rfl⟩ := hx x List.mem_cons_self
    subst hfr
    obtain ⟨c, hc⟩ : ∃ c : Int, (if -1 - ns[i] > ns[i] then -1 - ns[i] else ns[i]) = c := ⟨_, rfl⟩
    have hix : L2.ixN ns.length (i : Int) = some i := by rw [ixN_nn (by omega) (by omega)]; simp
    have m1 : MulFits s 48271 := mf2 (by omega) (by omega)
    refine ⟨[.sh (.list (ns.map PyData.int)), .sh (.int d), .sh (.int s), .sh (.int i), v], _, by simp [FL.stM, hu, fz], ?_, fun y hy => hx y (List.mem_cons_of_mem _ hy), (if 1000000000000 ≤ c ∧ d < 1000000000000000000000000000000000000000000000000000000000000 then d * 1000000000000000000000000000000000000000000000000000000000000 + c % 1000000000000000000000000000000000000000000000000000000000000 else d), (s * 48271 + c % 2147483629 + 11) % 2147483647, .sh (.int i), .sh (.int c), rfl, ?_, rfl, rfl⟩
    · by_cases h1 : 1000000000000 ≤ c
      · by_cases h2 : d < 1000000000000000000000000000000000000000000000000000000000000
        · have m2 := mfw hd h2
          simp [p__law_pool_1, seqS, asgS, bnd, FL.ret, callB, evC, op2, opM, nm, rd, oIx, L2.atI, hix, hi, rds, negM, oSub, oMax2, hc, oInt, unS, FL.stM, free_no, free_sh, free_li, hv, fz, mulE, mulM, m1, oMod, oAdd, fmd, iteE, andB, asB, oCmp, pow12, pow60, h1, h2, m2]
        · simp [p__law_pool_1, seqS, asgS, bnd, FL.ret, callB, evC, op2, opM, nm, rd, oIx, L2.atI, hix, hi, rds, negM, oSub, oMax2, hc, oInt, unS, FL.stM, free_no, free_sh, free_li, hv, fz, mulE, mulM, m1, oMod, oAdd, fmd, iteE, andB, asB, oCmp, pow12, pow60, h1, h2]
      · simp [p__law_pool_1, seqS, asgS, bnd, FL.ret, callB, evC, op2, opM, nm, rd, oIx, L2.atI, hix, hi, rds, negM, oSub, oMax2, hc, oInt, unS, FL.stM, free_no, free_sh, free_li, hv, fz, mulE, mulM, m1, oMod, oAdd, fmd, iteE, andB, asB, oCmp, pow12, pow60, h1]
    · split
      · omega
      · exact hd)
  obtain ⟨fr', rfl, _, d, s, u, v, rfl, hd, hu, hv⟩ := hP
  refine ⟨[.int d, .int s, .int 0], ⟨d, s, 0, rfl, hd⟩, ?_⟩
  simp [rlR, relock, mapI, rlS, rtS, lstE, argC, fzM, fz, nm, bnd, FL.ret, rvOf, iosOf, sizeLine_eq]
end K26


set_option Elab.async false
set_option maxRecDepth 100000
set_option maxHeartbeats 4000000
/-! FM: mathematics on mirrors by weakest preconditions: simp runs a mirror to the next call, loop or open test. -/
namespace FL
open PySem PySem.Spec PyProof.Rows L2
/-- keeps simp out of what is wanted (an argument that a later one's type hangs on is not rewritten) -/
inductive Box {α : Sort _} {β : Sort _} (Q : α) (E : β) : Type
  | mk
def wp {α : Type} (x : Rs α) (Q : α → Fr → Prop) (E : Str → PyData → Fr → Prop) (_ : Box Q E := .mk) : Prop := match x with
  | .ok a fr => Q a fr
  | .ex c w fr => E c w fr
  | .st => False
def wpD (x : DO) (Q : Rv → List (List PyData) → Prop) (E : Str → PyData → List (List PyData) → Prop) (_ : Box Q E := .mk) : Prop := match x with
  | .ret rv ios => Q rv ios
  | .ex c w ios => E c w ios
  | .st => False
inductive Box1 (P : Prop) : Type
  | mk
/-- simp leaves P as it is -/
abbrev Hid (P : Prop) (_ : Box1 P := .mk) : Prop := P
/-- a branch, its arms untouched -/
def sel {α : Type} (b : Bool) (f g : Fr → Rs α) (fr : Fr) (_ : Box f g := .mk) : Rs α := (if b = true then f else g) fr
/-- a slot that nobody reads -/
def jk (o : Option PyData) : Sv := match o with
  | none => .no
  | some d => .sh d
section
variable {α β : Type} {Q : α → Fr → Prop} {R : β → Fr → Prop} {E : Str → PyData → Fr → Prop} {fr : Fr}
@[simp] theorem sel_true {f g : Fr → Rs α} : sel true f g fr = f fr := rfl
@[simp] theorem sel_false {f g : Fr → Rs α} : sel false f g fr = g fr := rfl
theorem wp_cong {x : Rs α} {Q' : α → Fr → Prop} (h : ∀ a fr', Q a fr' = Q' a fr') : wp x Q E = wp x Q' E := by
  cases x with
  | ok a fr' => exact h a fr'
  | ex c w fr' => rfl
  | st => rfl
theorem wp.mono {x : Rs α} {Q' : α → Fr → Prop} {E' : Str → PyData → Fr → Prop} (h : wp x Q E) (q : ∀ a fr', Q a fr' → Q' a fr') (e : ∀ c w fr', E c w fr' → E' c w fr') : wp x Q' E' := by
  cases x with
  | ok a fr' => exact q _ _ h
  | ex c w fr' => exact e _ _ _ h
  | st => exact h
theorem wp.mid {x : Rs α} (M : α → Fr → Prop) (h : wp x M (fun _ _ _ => False)) (q : ∀ a fr', M a fr' → Q a fr') : wp x Q E := h.mono q fun _ _ _ z => z.elim
theorem wpD.mono {x : DO} {Q Q' : Rv → List (List PyData) → Prop} {E E' : Str → PyData → List (List PyData) → Prop} (h : wpD x Q E) (q : ∀ a fr', Q a fr' → Q' a fr') (e : ∀ c w fr', E c w fr' → E' c w fr') : wpD x Q' E' := by
  cases x with
  | ret a fr' => exact q _ _ h
  | ex c w fr' => exact e _ _ _ h
  | st => exact h
@[simp] theorem wp_ok {a : α} : wp (.ok a fr) Q E = Q a fr := rfl
@[simp] theorem wp_ex {c w} : wp (.ex c w fr : Rs α) Q E = E c w fr := rfl
@[simp] theorem wp_st : wp (.st : Rs α) Q E = False := rfl
@[simp] theorem wpD_ret {rv ios Q E} : wpD (.ret rv ios) Q E = Q rv ios := rfl
@[simp] theorem wpD_ex {c w ios Q E} : wpD (.ex c w ios) Q E = E c w ios := rfl
@[simp] theorem wpD_st {Q E} : wpD .st Q E = False := rfl
@[simp ↓] theorem wp_bnd {f : Fr → Rs β} {g : β → Fr → Rs α} : wp (bnd f g fr) Q E = wp (f fr) (fun b fr1 => wp (g b fr1) Q E) E := by
  unfold bnd wp
  cases f fr <;> rfl
@[simp ↓] theorem wp_ret {a : α} : wp (ret a fr) Q E = Q a fr := rfl
@[simp] theorem wp_guard {c : Prop} [Decidable c] {x : Rs α} : wp (if c then x else .st) Q E = (c ∧ wp x Q E) := by
  by_cases h : c <;> simp [h]
theorem wp_sel {b : Bool} {f g : Fr → Rs α} (h1 : b = true → wp (f fr) Q E) (h2 : b = false → wp (g fr) Q E) : wp (sel b f g fr) Q E := by
  cases b with
  | true => exact h1 rfl
  | false => exact h2 rfl
/-- from a precondition to an equation -/
theorem wpD_eq {x : DO} {rv : Rv} {ios : List (List PyData)} (h : wpD x (fun rv' ios' => rv' = rv ∧ ios' = ios) (fun _ _ _ => False)) : x = .ret rv ios := by
  cases x with
  | ret a b => obtain ⟨rfl, rfl⟩ := h; rfl
  | ex c w b => exact h.elim
  | st => exact h.elim
theorem wpD_eqx {x : DO} {c : Str} {w : PyData} {ios : List (List PyData)} (h : wpD x (fun _ _ => False) (fun c' w' ios' => c' = c ∧ w' = w ∧ ios' = ios)) : x = .ex c w ios := by
  cases x with
  | ret a b => exact h.elim
  | ex c w b => obtain ⟨rfl, rfl, rfl⟩ := h; rfl
  | st => exact h.elim
theorem wp_eq {x : Rs α} {a : α} {fr' : Fr} (h : wp x (fun b fr1 => b = a ∧ fr1 = fr') (fun _ _ _ => False)) : x = .ok a fr' := by
  cases x with
  | ok b fr1 => obtain ⟨rfl, rfl⟩ := h; rfl
  | ex c w b => exact h.elim
  | st => exact h.elim
end
/-! ### expressions -/
section
variable {α β : Type} {E : Str → PyData → Fr → Prop} {fr : Fr} {Q : Ev → Fr → Prop} {B : Bool → Fr → Prop} {o : PyData → PyData → Option Ev} {f g h : Fr → Rs Ev} {c d : Fr → Rs Bool} {i j : Nat} {n k : Int} {ds : List PyData} {D : PyData}
@[simp] theorem nm_app : nm i fr = match fr[i]? with | some (.sh d) => .ok (.sh d) fr | some (.li _ _ _) => .ok (.al i) fr | some (.fn m) => .ok (.fn m) fr | _ => .st := rfl
@[simp] theorem opM_app {x y : Ev} : opM o x y fr = match rd fr x, rd fr y with | some d1, some d2 => (match o d1 d2 with | some e => .ok e fr | none => .st) | _, _ => .st := rfl
@[simp] theorem rd_sh : rd fr (.sh D) = some D := rfl
@[simp] theorem rd_ow : rd fr (.ow ds) = some (.list ds) := rfl
@[simp] theorem rd_al : rd fr (.al i) = match fr[i]? with | some (.sh d) => some d | some (.li _ _ ds) => some (.list ds) | _ => none := rfl
@[simp] theorem fz_sh : fz fr (.sh D) = some (D, fr) := rfl
@[simp] theorem fz_ow : fz fr (.ow ds) = some (.list ds, fr) := rfl
@[simp] theorem fz_al : fz fr (.al i) = match fr[i]? with | some (.sh d) => some (d, fr) | some (.li false false ds) => some (.list ds, fr.set i (.sh (.list ds))) | _ => none := rfl
@[simp ↓] theorem wp_op2 : wp (op2 o f g fr) Q E = wp (f fr) (fun x fr1 => wp (g fr1) (fun y fr2 => wp (opM o x y fr2) Q E) E) E := by
  unfold op2
  rw [wp_bnd]
  refine wp_cong fun x fr1 => ?_
  rw [wp_bnd]
@[simp ↓] theorem wp_mulE : wp (mulE f g fr) Q E = wp (f fr) (fun x fr1 => wp (g fr1) (fun y fr2 => wp (mulM x y fr2) Q E) E) E := by
  unfold mulE
  rw [wp_bnd]
  refine wp_cong fun x fr1 => ?_
  rw [wp_bnd]
@[simp] theorem mulM_sh {n k : Int} : mulM (.sh (.int n)) (.sh (.int k)) fr = if MulFits n k then .ok (.sh (.int (n * k))) fr else .st := rfl
@[simp ↓] theorem wp_asB : wp (asB f fr) B E = wp (f fr) (fun x fr1 => wp (match rd fr1 x with | some (.bool b) => .ok b fr1 | _ => .st) B E) E := by
  unfold asB
  exact wp_bnd
@[simp] theorem mulM_ow {n : Int} : mulM (.ow ds) (.sh (.int n)) fr = if rgOk n = true ∧ ds.length * n.toNat ≤ sizeLine then .ok (.ow (repD n ds)) fr else .st := by
  unfold mulM ownE
  simp
@[simp] theorem negM_app {x : Ev} : negM x fr = match rd fr x with | some (.int i) => .ok (.sh (.int (-i))) fr | _ => .st := rfl
@[simp ↓] theorem wp_notB : wp (notB c fr) B E = wp (c fr) (fun b fr1 => B (!b) fr1) E := by
  unfold notB
  rw [wp_bnd]
  refine wp_cong fun x fr1 => ?_
  first | rfl | simp
@[simp ↓] theorem wp_andB : wp (andB c d fr) B E = wp (c fr) (fun b fr1 => wp (sel b d (ret false) fr1) B E) E := by
  unfold andB
  rw [wp_bnd]
  rfl
@[simp ↓] theorem wp_orB : wp (orB c d fr) B E = wp (c fr) (fun b fr1 => wp (sel b (ret true) d fr1) B E) E := by
  unfold orB
  rw [wp_bnd]
  rfl
@[simp ↓] theorem wp_andV : wp (andV f g fr) Q E = wp (f fr) (fun x fr1 => wp (match rd fr1 x with | some (.bool b) => sel b g (ret (.sh (.bool false))) fr1 | _ => .st) Q E) E := by
  unfold andV
  rw [wp_bnd]
  refine wp_cong fun x fr1 => ?_
  cases rd fr1 x with
  | none => rfl
  | some d => cases d with
    | bool b => cases b <;> rfl
    | _ => rfl
@[simp ↓] theorem wp_orV : wp (orV f g fr) Q E = wp (f fr) (fun x fr1 => wp (match rd fr1 x with | some (.bool b) => sel b (ret (.sh (.bool true))) g fr1 | _ => .st) Q E) E := by
  unfold orV
  rw [wp_bnd]
  refine wp_cong fun x fr1 => ?_
  cases rd fr1 x with
  | none => rfl
  | some d => cases d with
    | bool b => cases b <;> rfl
    | _ => rfl
@[simp ↓] theorem wp_notV : wp (notV f fr) Q E = wp (f fr) (fun x fr1 => wp (match rd fr1 x with | some (.bool b) => .ok (.sh (.bool (!b))) fr1 | _ => .st) Q E) E := by
  unfold notV
  exact wp_bnd
@[simp ↓] theorem wp_iteE {P : α → Fr → Prop} {f g : Fr → Rs α} : wp (iteE c f g fr) P E = wp (c fr) (fun b fr1 => wp (sel b f g fr1) P E) E := by
  unfold iteE
  rw [wp_bnd]
  rfl
@[simp ↓] theorem wp_chainM {o' : PyData → PyData → Option Ev} : wp (chainM o o' f g h fr) Q E = wp (f fr) (fun x fr1 => wp (g fr1) (fun y fr2 => wp (opM o x y fr2) (fun z fr3 => wp (match z with | .sh (.bool b) => sel b (bnd h fun w => opM o' y w) (ret (.sh (.bool false))) fr3 | _ => .st) Q E) E) E) E := by
  unfold chainM
  rw [wp_bnd]
  refine wp_cong fun x fr1 => ?_
  rw [wp_bnd]
  refine wp_cong fun y fr2 => ?_
  rw [wp_bnd]
  refine wp_cong fun z fr3 => ?_
  cases z with
  | sh d => cases d with
    | bool b => cases b <;> rfl
    | _ => rfl
  | _ => rfl
@[simp] theorem fzM_app {x : Ev} : fzM x fr = match fz fr x with | some (d, fr') => .ok d fr' | none => .st := rfl
variable {L : List PyData → Fr → Prop} {fs : Fr → Rs (List PyData)} {es : Fr → Rs (List Ev)} {LE : List Ev → Fr → Prop}
@[simp ↓] theorem wp_argC : wp (argC f fs fr) L E = wp (f fr) (fun x fr1 => wp (fzM x fr1) (fun d fr2 => wp (fs fr2) (fun ds fr3 => L (d :: ds) fr3) E) E) E := by
  unfold argC
  rw [wp_bnd]
  refine wp_cong fun x fr1 => ?_
  rw [wp_bnd]
  refine wp_cong fun d fr2 => ?_
  rw [wp_bnd]
  rfl
@[simp ↓] theorem wp_tupE : wp (tupE fs fr) Q E = wp (fs fr) (fun ds fr1 => ds.length ≤ sizeLine ∧ Q (.sh (.tuple ds)) fr1) E := by
  unfold tupE
  rw [wp_bnd]
  refine wp_cong fun x fr1 => ?_
  simp
@[simp ↓] theorem wp_lstE : wp (lstE fs fr) Q E = wp (fs fr) (fun ds fr1 => ds.length ≤ sizeLine ∧ Q (.ow ds) fr1) E := by
  unfold lstE
  rw [wp_bnd]
  refine wp_cong fun x fr1 => ?_
  simp
@[simp ↓] theorem wp_evC : wp (evC f es fr) LE E = wp (f fr) (fun x fr1 => wp (es fr1) (fun ds fr3 => LE (x :: ds) fr3) E) E := by
  unfold evC
  rw [wp_bnd]
  refine wp_cong fun x fr1 => ?_
  rw [wp_bnd]
  rfl
@[simp] theorem rds_nil : rds fr [] = some [] := rfl
@[simp] theorem rds_cons {e : Ev} {es : List Ev} : rds fr (e :: es) = match rd fr e, rds fr es with | some d, some ds => some (d :: ds) | _, _ => none := rfl
@[simp ↓] theorem wp_callB {o : List PyData → Option Ev} : wp (callB o es fr) Q E = wp (es fr) (fun xs fr1 => wp (match rds fr1 xs with | some ds => (match o ds with | some e => .ok e fr1 | none => .st) | none => .st) Q E) E := by
  unfold callB
  exact wp_bnd
variable {A : Av → Fr → Prop} {LA : List Av → Fr → Prop} {a : Fr → Rs Av} {as : Fr → Rs (List Av)}
@[simp ↓] theorem wp_aD : wp (aD f fr) A E = wp (f fr) (fun x fr1 => wp (fzM x fr1) (fun d fr2 => A (.d d) fr2) E) E := by
  unfold aD
  rw [wp_bnd]
  refine wp_cong fun x fr1 => ?_
  rw [wp_bnd]
  rfl
@[simp ↓] theorem wp_aIO : wp (aIO f fr) A E = wp (f fr) (fun x fr1 => wp (match x with | .al i => .ok (.io i) fr1 | _ => .st) A E) E := by
  unfold aIO
  rw [wp_bnd]
  refine wp_cong fun x fr1 => ?_
  cases x <;> rfl
@[simp ↓] theorem wp_aFn : wp (aFn f fr) A E = wp (f fr) (fun x fr1 => wp (match x with | .fn m => .ok (.fn m) fr1 | _ => .st) A E) E := by
  unfold aFn
  rw [wp_bnd]
  refine wp_cong fun x fr1 => ?_
  cases x <;> rfl
@[simp ↓] theorem wp_avC : wp (avC a as fr) LA E = wp (a fr) (fun x fr1 => wp (as fr1) (fun xs fr2 => LA (x :: xs) fr2) E) E := by
  unfold avC
  rw [wp_bnd]
  refine wp_cong fun x fr1 => ?_
  rw [wp_bnd]
  rfl
@[simp] theorem resolve_nil : resolve fr [] = some [] := rfl
@[simp] theorem resolve_d {x : PyData} {r : List Av} : resolve fr (.d x :: r) = (resolve fr r).map (.d x :: ·) := rfl
@[simp] theorem resolve_io {r : List Av} : resolve fr (.io i :: r) = match fr[i]? with | some (.li _ false ds) => (resolve fr r).map (.io ds :: ·) | _ => none := rfl
@[simp] theorem ioSlots_nil : ioSlots [] = [] := rfl
@[simp] theorem ioSlots_d {x : PyData} {r : List Av} : ioSlots (.d x :: r) = ioSlots r := rfl
@[simp] theorem ioSlots_io {r : List Av} : ioSlots (.io i :: r) = i :: ioSlots r := rfl
@[simp] theorem setLi_app : setLi fr i ds = match fr[i]? with | some (.li io lk _) => fr.set i (.li io lk ds) | _ => fr := rfl
@[simp] theorem putIos_nil {is : List Nat} : putIos fr is [] = fr := by cases is <;> rfl
@[simp] theorem putIos_nil' {dss : List (List PyData)} : putIos fr [] dss = fr := by cases dss <;> rfl
@[simp] theorem putIos_cons {is : List Nat} {dss : List (List PyData)} : putIos fr (i :: is) (ds :: dss) = putIos (setLi fr i ds) is dss := rfl
@[simp] theorem rvE_sh : rvE (.sh D) = .sh D := rfl
@[simp] theorem rvE_ow : rvE (.ow ds) = .ow ds := rfl
@[simp ↓] theorem wp_callM {m : Md} {avs : List Av} : wp (callM m avs fr) Q E = ((ioSlots avs).Nodup ∧ ∃ das, resolve fr avs = some das ∧ wpD (m das) (fun rv ios => Q (rvE rv) (putIos fr (ioSlots avs) ios)) (fun c w ios => E c w (putIos fr (ioSlots avs) ios))) := by
  unfold callM
  by_cases h : (ioSlots avs).Nodup
  · rw [if_pos h]
    cases hr : resolve fr avs with
    | none => simp
    | some das =>
      simp [h]
      cases m das <;> rfl
  · rw [if_neg h]
    simp [h]
@[simp ↓] theorem wp_slE {lo hi : Fr → Rs (Option Int)} : wp (slE f lo hi fr) Q E = wp (f fr) (fun x fr1 => wp (lo fr1) (fun l fr2 => wp (hi fr2) (fun h fr3 => wp (match rd fr3 x with | some d => (match oSl l h d with | some e => .ok e fr3 | none => .st) | none => .st) Q E) E) E) E := by
  unfold slE
  rw [wp_bnd]
  refine wp_cong fun x fr1 => ?_
  rw [wp_bnd]
  refine wp_cong fun d fr2 => ?_
  rw [wp_bnd]
  rfl
@[simp ↓] theorem wp_asI {O : Option Int → Fr → Prop} : wp (asI f fr) O E = wp (f fr) (fun x fr1 => wp (match rd fr1 x with | some (.int i) => .ok (some i) fr1 | _ => .st) O E) E := by
  unfold asI
  exact wp_bnd
@[simp ↓] theorem wp_asInt {O : Int → Fr → Prop} : wp (asInt f fr) O E = wp (f fr) (fun x fr1 => wp (match rd fr1 x with | some (.int i) => .ok i fr1 | _ => .st) O E) E := by
  unfold asInt
  exact wp_bnd
@[simp ↓] theorem wp_isiE {t : String} : wp (isiE t f fr) Q E = wp (f fr) (fun x fr1 => wp (match rd fr1 x with | some d => .ok (.sh (.bool (isTy t d))) fr1 | none => .st) Q E) E := by
  unfold isiE
  exact wp_bnd
@[simp ↓] theorem wp_isiND : wp (isiND f fr) Q E = wp (f fr) (fun x fr1 => wp (match rd fr1 x with | some _ => .ok (.sh (.bool false)) fr1 | none => .st) Q E) E := by
  unfold isiND
  exact wp_bnd
@[simp ↓] theorem wp_ssetE : wp (ssetE f fr) Q E = wp (f fr) (fun x fr1 => wp (ssetM x fr1) Q E) E := by
  unfold ssetE
  exact wp_bnd
@[simp] theorem mutM_app {m : List PyData → Option (List PyData × PyData)} : mutM i m fr = match fr[i]? with | some (.li io false ds) => (match m ds with | some (ds', d) => .ok (.sh d) (fr.set i (.li io false ds')) | none => .st) | _ => .st := rfl
@[simp ↓] theorem wp_lmC {m : List PyData → List PyData → Option (List PyData × PyData)} : wp (lmC m g fs fr) Q E = wp (g fr) (fun x fr1 => wp (match x with | .al i => (match fr1[i]? with | some (.li _ _ _) => bnd fs (fun args => mutM i (m args)) fr1 | _ => .st) | _ => .st) Q E) E := by
  unfold lmC
  exact wp_bnd
def ext2 (i : Nat) (y : Ev) : Fr → Rs Ev := fun fr2 => match ownD i fr2 y with
  | some zs => mutM i (fun ds => if ds.length + zs.length ≤ sizeLine then some (ds ++ zs, .none) else none) fr2
  | none => .st
def ext1 (h : Fr → Rs Ev) (x : Ev) : Fr → Rs Ev := fun fr1 => match x with
  | .al i => match fr1[i]? with
    | some (.li _ _ _) => bnd h (ext2 i) fr1
    | _ => .st
  | _ => .st
@[simp] theorem ext2_app {y : Ev} : ext2 i y fr = match ownD i fr y with | some zs => mutM i (fun ds => if ds.length + zs.length ≤ sizeLine then some (ds ++ zs, .none) else none) fr | none => .st := rfl
@[simp] theorem ext1_al : ext1 h (.al i) fr = match fr[i]? with | some (.li _ _ _) => bnd h (ext2 i) fr | _ => .st := rfl
@[simp] theorem ownD_ow : ownD i fr (.ow ds) = some ds := rfl
@[simp ↓] theorem wp_extC : wp (extC g h fr) Q E = wp (g fr) (fun x fr1 => wp (ext1 h x fr1) Q E) E := by
  unfold extC
  exact wp_bnd
/-- what comes of an error that heard catches -/
def hdl (n : Nat) (sub : Str → Str → Option Bool) (cl : List Cl) (c : Str) (w : PyData) : Fr → Rs Ev := fun fr' => match handle sub cl c w (List.replicate n .no) with
    | .ok (.rt e) frh => match rvOf frh e with
      | some rv => .ok (rvE rv) fr'
      | none => .st
    | .ok .nx _ => .ok (.sh .none) fr'
    | _ => .st
@[simp ↓] theorem wp_heardE {told : Str} {n : Nat} {sub : Str → Str → Option Bool} {cl : List Cl} : wp (heardE told n sub cl f fr) Q E = wp (f fr) (fun x fr1 => wp (fzM x fr1) (fun d fr2 => Q (.sh (.tuple [.str told, d])) fr2) E) (fun c w fr1 => wp (hdl n sub cl c w fr1) Q E) := by
  unfold heardE
  cases e : f fr with
  | ok x fr1 =>
    simp only [wp_ok]
    unfold fzM
    cases fz fr1 x with
    | none => rfl
    | some p => rfl
  | ex c w fr1 => rfl
  | st => rfl
end
/-! ### statements -/
section
variable {E : Str → PyData → Fr → Prop} {fr fr0 : Fr} {Q : Fl → Fr → Prop} {f g : Fr → Rs Fl} {e e2 : Fr → Rs Ev} {m m2 : Ev → Fr → Rs Unit} {i : Nat} {U : Unit → Fr → Prop} {D : PyData} {ds : List PyData}
@[simp ↓] theorem wp_seqS : wp (seqS f g fr) Q E = wp (f fr) (fun x fr1 => match x with | .nx => wp (g fr1) Q E | o => Q o fr1) E := by
  unfold seqS
  rw [wp_bnd]
  refine wp_cong fun x fr1 => ?_
  cases x <;> rfl
@[simp ↓] theorem wp_nxS : wp (nxS fr) Q E = Q .nx fr := rfl
@[simp ↓] theorem wp_exS : wp (exS e fr) Q E = wp (e fr) (fun _ fr1 => Q .nx fr1) E := by
  unfold exS
  rw [wp_bnd]
  refine wp_cong fun x fr1 => ?_
  first | rfl | simp
@[simp ↓] theorem wp_rtS : wp (rtS e fr) Q E = wp (e fr) (fun x fr1 => Q (.rt x) fr1) E := by
  unfold rtS
  rw [wp_bnd]
  refine wp_cong fun x fr1 => ?_
  first | rfl | simp
@[simp ↓] theorem wp_unS {u : Fr → Rs Unit} : wp (unS u fr) Q E = wp (u fr) (fun _ fr1 => Q .nx fr1) E := by
  unfold unS
  cases u fr <;> rfl
@[simp ↓] theorem wp_asgS : wp (asgS e m fr) Q E = wp (e fr) (fun x fr1 => wp (m x fr1) (fun _ fr2 => Q .nx fr2) E) E := by
  unfold asgS
  rw [wp_bnd]
  refine wp_cong fun x fr1 => ?_
  first | rfl | simp
@[simp ↓] theorem wp_raiseS {c : Str} : wp (raiseS c e fr) Q E = wp (e fr) (fun x fr1 => wp (fzM x fr1) (fun d fr2 => E c d fr2) E) E := by
  unfold raiseS
  rw [wp_bnd]
  refine wp_cong fun x fr1 => ?_
  rw [wp_bnd]
  rfl
@[simp] theorem free_no : free .no = true := rfl
@[simp] theorem free_sh : free (.sh D) = true := rfl
@[simp] theorem free_fn {m : Fm} : free (.fn m) = true := rfl
@[simp] theorem free_li {io lk : Bool} : free (.li io lk ds) = (!io && !lk) := rfl
@[simp] theorem free_jk {o : Option PyData} : free (jk o) = true := by cases o <;> rfl
@[simp] theorem stM_sh : stM i (.sh D) fr = match fr[i]? with | none => .st | some s => if free s = true then .ok () (fr.set i (.sh D)) else .st := by
  unfold stM
  cases fr[i]? <;> rfl
@[simp] theorem stM_ow : stM i (.ow ds) fr = match fr[i]? with | none => .st | some s => if free s = true then .ok () (fr.set i (.li false false ds)) else .st := by
  unfold stM
  cases fr[i]? <;> rfl
@[simp] theorem stM_al {j : Nat} : stM i (.al j) fr = match fr[i]? with | none => .st | some s => if free s = true then (match fz fr (.al j) with | some (d, fr') => .ok () (fr'.set i (.sh d)) | none => .st) else .st := by
  unfold stM
  cases fr[i]? <;> rfl
@[simp ↓] theorem wp_bU {u v : Fr → Rs Unit} : wp (bU u v fr) U E = wp (u fr) (fun _ fr1 => wp (v fr1) U E) E := by
  unfold bU
  cases u fr <;> rfl
@[simp] theorem tgN_nil : tgN [] fr = .ok () fr := rfl
@[simp] theorem tgC_cons {ms : List PyData → Fr → Rs Unit} : tgC m ms (D :: ds) fr = bU (m (.sh D)) (ms ds) fr := rfl
@[simp] theorem tgT_app {n : Nat} {ms : List PyData → Fr → Rs Unit} {x : Ev} : tgT n ms x fr = match rd fr x with | some (.tuple ds) => if ds.length = n then ms ds fr else .st | _ => .st := rfl
def sub2 (i : Nat) (x : Ev) (k : Ev) : Fr → Rs Unit := fun fr => match rd fr k with
  | some (.int n) => match fz fr x with
    | some (d, fr') => setIx i n d fr'
    | none => .st
  | _ => .st
def sub1 (h : Fr → Rs Ev) (x : Ev) (o : Ev) : Fr → Rs Unit := match o with
  | .al i => bnd h (sub2 i x)
  | _ => fun _ => .st
@[simp] theorem sub2_app {x k : Ev} : sub2 i x k fr = match rd fr k with | some (.int n) => (match fz fr x with | some (d, fr') => setIx i n d fr' | none => .st) | _ => .st := rfl
@[simp] theorem sub1_al {x : Ev} : sub1 e x (.al i) fr = bnd e (sub2 i x) fr := rfl
@[simp ↓] theorem wp_tgSub {x : Ev} : wp (tgSub e e2 x fr) U E = wp (e fr) (fun o fr1 => wp (sub1 e2 x o fr1) U (fun _ _ _ => False)) (fun _ _ _ => False) := by
  unfold tgSub bndN
  cases e fr with
  | ok o fr1 =>
    cases o with
    | al i =>
      simp only [wp_ok, sub1_al]
      unfold bnd
      cases e2 fr1 with
      | ok k fr2 =>
        dsimp only
        unfold sub2
        cases rd fr2 k with
        | none => rfl
        | some d =>
          cases d with
          | int n =>
            dsimp only
            cases fz fr2 x with
            | none => rfl
            | some p =>
              dsimp only
              unfold setIx
              repeat' split
              all_goals rfl
          | _ => rfl
      | ex c w b => rfl
      | st => rfl
    | _ => rfl
  | ex c w b => rfl
  | st => rfl
@[simp] theorem setIx_app {k : Int} : setIx i k D fr = match fr[i]? with | some (.li io false ds) => (match L2.ixN ds.length k with | some j => .ok () (fr.set i (.li io false (ds.set j D))) | none => .st) | _ => .st := rfl
@[simp ↓] theorem wp_parS {is : List Nat} {es : Fr → Rs (List Ev)} : wp (parS is es fr) Q E = wp (es fr) (fun xs fr1 => wp (nrmAll xs fr1) (fun ys fr2 => wp (stAll is ys fr2) (fun _ fr3 => Q .nx fr3) E) E) E := by
  unfold parS
  rw [wp_bnd]
  refine wp_cong fun x fr1 => ?_
  rw [wp_bnd]
  refine wp_cong fun y fr2 => ?_
  exact wp_unS
@[simp] theorem nrm_sh : nrm (.sh D) fr = .ok (.sh D) fr := rfl
@[simp] theorem nrm_ow : nrm (.ow ds) fr = .ok (.ow ds) fr := rfl
@[simp] theorem nrm_al : nrm (.al i) fr = match fz fr (.al i) with | some (d, fr') => .ok (.sh d) fr' | none => .st := rfl
@[simp] theorem nrmAll_nil : nrmAll [] fr = .ok [] fr := rfl
@[simp ↓] theorem wp_nrmAll {x : Ev} {xs : List Ev} {L : List Ev → Fr → Prop} {E : Str → PyData → Fr → Prop} : wp (nrmAll (x :: xs) fr) L E = wp (nrm x fr) (fun y fr1 => wp (nrmAll xs fr1) (fun ys fr2 => L (y :: ys) fr2) (fun _ _ _ => False)) (fun _ _ _ => False) := by
  show wp (match nrm x fr with
    | .ok e' fr1 => match nrmAll xs fr1 with
      | .ok es' fr2 => .ok (e' :: es') fr2
      | _ => .st
    | _ => .st) L E = _
  cases nrm x fr with
  | ok y fr1 =>
    dsimp only
    simp only [wp_ok]
    cases nrmAll xs fr1 <;> rfl
  | ex => rfl
  | st => rfl
@[simp] theorem stAll_nil : stAll [] [] fr = .ok () fr := rfl
@[simp ↓] theorem wp_stAll {is : List Nat} {x : Ev} {xs : List Ev} {E : Str → PyData → Fr → Prop} : wp (stAll (i :: is) (x :: xs) fr) U E = wp (stAll is xs fr) (fun _ fr1 => wp (stM i x fr1) U E) (fun _ _ _ => False) := by
  show wp (match stAll is xs fr with | .ok _ fr' => stM i x fr' | _ => .st) U E = _
  cases stAll is xs fr <;> rfl
@[simp ↓] theorem wp_augS {g : Int → Int → Int} : wp (augS i g e fr) Q E = wp (match fr[i]? with
  | some (.sh (.int n)) => bnd e (fun y fr1 => match rd fr1 y with
    | some (.int k) => unS (stM i (.sh (.int (g n k)))) fr1
    | _ => .st) fr
  | _ => .st) Q E := rfl
@[simp ↓] theorem wp_augSS {g : Int → Int → Int} {fo fi fe : Fr → Rs Ev} : wp (augSS g fo fi fe fr) Q E = wp (fo fr) (fun x fr1 => wp (match x with
  | .al i => bnd fi (fun k fr => match rd fr k, fr[i]? with
    | some (.int n), some (.li io false ds) => match L2.atI ds n with
      | some (.int old) => bnd fe (fun y fr1 => match rd fr1 y, fr1[i]? with
        | some (.int v), some (.li io1 false ds1) => match L2.ixN ds1.length n with
          | some j => .ok .nx (fr1.set i (.li io1 false (ds1.set j (.int (g old v)))))
          | none => .st
        | _, _ => .st) fr
      | _ => .st
    | _, _ => .st) fr1
  | _ => .st) Q E) E := by
  unfold augSS
  rw [wp_bnd]
  refine wp_cong fun x fr1 => ?_
  cases x <;> rfl
/-! ### locks, hidden names -/
@[simp] theorem mapI_nil {f : Nat → Sv → Sv} {k : Nat} : mapI f k [] = [] := rfl
@[simp] theorem mapI_cons {f : Nat → Sv → Sv} {k : Nat} {s : Sv} {r : Fr} : mapI f k (s :: r) = f k s :: mapI f (k + 1) r := rfl
@[simp] theorem hid_cons {vs : List Nat} {s : Sv} {r : Fr} : hid vs (s :: r) = mapI (hidS vs) 0 (s :: r) := rfl
@[simp] theorem relock_cons {s : Sv} {r : Fr} : relock fr0 (s :: r) = mapI (rlS fr0) 0 (s :: r) := rfl
@[simp] theorem lkAll_cons {lks : List Nat} {s : Sv} {r : Fr} : lkAll lks (s :: r) = mapI (lkS lks) 0 (s :: r) := rfl
@[simp] theorem rst_cons {vs : List Nat} {s : Sv} {r : Fr} : rst vs fr0 (s :: r) = mapI (rstS vs fr0) 0 (s :: r) := rfl
@[simp] theorem hidS_app {vs : List Nat} {s : Sv} : hidS vs i s = if vs.contains i = true then .no else s := rfl
@[simp] theorem rstS_app {vs : List Nat} {s : Sv} : rstS vs fr0 i s = if vs.contains i = true then (fr0[i]?).getD .no else s := rfl
@[simp] theorem rlS_no : rlS fr0 i .no = .no := by unfold rlS; cases fr0[i]? with | none => rfl | some s => cases s <;> rfl
@[simp] theorem rlS_sh : rlS fr0 i (.sh D) = .sh D := by unfold rlS; cases fr0[i]? with | none => rfl | some s => cases s <;> rfl
@[simp] theorem rlS_fn {m : Fm} : rlS fr0 i (.fn m) = .fn m := by unfold rlS; cases fr0[i]? with | none => rfl | some s => cases s <;> rfl
@[simp] theorem rlS_jk {o : Option PyData} : rlS fr0 i (jk o) = jk o := by cases o <;> simp [jk]
@[simp] theorem rlS_li {io lk : Bool} : rlS fr0 i (.li io lk ds) = match fr0[i]? with | some (.li _ lk0 _) => .li io lk0 ds | _ => .li io lk ds := by
  unfold rlS
  cases fr0[i]? with | none => rfl | some s => cases s <;> rfl
@[simp] theorem rlS_self {s : Sv} (h : fr0[i]? = some s) : rlS fr0 i s = s := by
  unfold rlS
  rw [h]
  cases s <;> rfl
@[simp] theorem rlS_at_no {s : Sv} (h : fr0[i]? = some .no) : rlS fr0 i s = s := by
  unfold rlS
  rw [h]
@[simp] theorem rlS_at_sh {s : Sv} (h : fr0[i]? = some (.sh D)) : rlS fr0 i s = s := by
  unfold rlS
  rw [h]
@[simp] theorem rlS_at_jk {s : Sv} {o : Option PyData} (h : fr0[i]? = some (jk o)) : rlS fr0 i s = s := by
  unfold rlS
  rw [h]
  cases o <;> cases s <;> rfl
@[simp] theorem lkS_no {lks : List Nat} : lkS lks i .no = .no := rfl
@[simp] theorem lkS_sh {lks : List Nat} : lkS lks i (.sh D) = .sh D := rfl
@[simp] theorem lkS_fn {lks : List Nat} {m : Fm} : lkS lks i (.fn m) = .fn m := rfl
@[simp] theorem lkS_jk {lks : List Nat} {o : Option PyData} : lkS lks i (jk o) = jk o := by cases o <;> rfl
@[simp] theorem lkS_li {lks : List Nat} {io lk : Bool} : lkS lks i (.li io lk ds) = .li io (lk || lks.contains i) ds := rfl
@[simp] theorem lkS_nil {s : Sv} : lkS [] i s = s := by
  cases s <;> simp [lkS]
@[simp] theorem lkAll_no {fr : Fr} : lkAll [] fr = fr := lkAll_nil
/-! ### what is walked -/
variable {S : SrcD → Fr → Prop}
@[simp ↓] theorem wp_srcB {o : List PyData → Option (List PyData)} {es : Fr → Rs (List Ev)} : wp (srcB o es fr) S E = wp (es fr) (fun xs fr1 => wp (match rds fr1 xs with | some ds => (match o ds with | some items => .ok ⟨items, []⟩ fr1 | none => .st) | none => .st) S E) E := by
  unfold srcB
  exact wp_bnd
@[simp ↓] theorem wp_seqI : wp (seqI e fr) S E = wp (e fr) (fun x fr1 => wp (seqM x fr1) S E) E := by
  unfold seqI
  exact wp_bnd
@[simp] theorem seqM_al : seqM (.al i) fr = match fr[i]? with | some (.li _ _ ds) => .ok ⟨ds, [i]⟩ fr | some (.sh d) => (match itemsOf d with | some ds => .ok ⟨ds, []⟩ fr | none => .st) | _ => .st := rfl
@[simp] theorem seqM_sh : seqM (.sh D) fr = match itemsOf D with | some ds => .ok ⟨ds, []⟩ fr | none => .st := rfl
@[simp] theorem seqM_ow : seqM (.ow ds) fr = .ok ⟨ds, []⟩ fr := rfl
@[simp] theorem itemsOf_list : itemsOf (.list ds) = some ds := rfl
@[simp] theorem itemsOf_tuple : itemsOf (.tuple ds) = some ds := rfl
@[simp ↓] theorem wp_enumI : wp (enumI e fr) S E = wp (e fr) (fun x fr1 => wp (enumM x fr1) S E) E := by
  unfold enumI
  exact wp_bnd
@[simp] theorem enumM_al : enumM (.al i) fr = match fr[i]? with | some (.li _ _ ds) => .ok ⟨enumD 0 ds, [i]⟩ fr | some (.sh (.list ds)) => .ok ⟨enumD 0 ds, []⟩ fr | some (.sh (.tuple ds)) => .ok ⟨enumD 0 ds, []⟩ fr | _ => .st := rfl
@[simp] theorem enumM_l : enumM (.sh (.list ds)) fr = .ok ⟨enumD 0 ds, []⟩ fr := rfl
@[simp] theorem enumM_t : enumM (.sh (.tuple ds)) fr = .ok ⟨enumD 0 ds, []⟩ fr := rfl
@[simp] theorem enumM_ow : enumM (.ow ds) fr = .ok ⟨enumD 0 ds, []⟩ fr := rfl
@[simp ↓] theorem wp_forS {src : Fr → Rs SrcD} {tgt : Ev → Fr → Rs Unit} {body : Fr → Rs Fl} : wp (forS src tgt body fr) Q E = wp (src fr) (fun s fr1 => wp (rlR fr1 (forL tgt body s.items (lkAll s.lks fr1))) Q E) E := by
  unfold forS
  exact wp_bnd
/-- a loop by its invariant: k items taken -/
theorem wp_for {tgt : Ev → Fr → Rs Unit} {body : Fr → Rs Fl} {items : List PyData} (I : Nat → Fr → Prop) (h0 : I 0 fr)
    (hs : ∀ k (hk : k < items.length) fr', I k fr' → wp (tgt (.sh items[k]) fr') (fun _ fr1 => wp (body fr1) (fun x fr2 => match x with | .nx => Hid (I (k + 1) fr2) | .ct => Hid (I (k + 1) fr2) | .bk => Q .nx (relock fr0 fr2) | .rt e => Q (.rt e) (relock fr0 fr2)) (fun c w fr2 => E c w (relock fr0 fr2))) (fun _ _ _ => False))
    (hq : ∀ fr', I items.length fr' → Q .nx (relock fr0 fr')) : wp (rlR fr0 (forL tgt body items fr)) Q E := by
  have key : ∀ (n k : Nat) fr', n + k = items.length → I k fr' → wp (rlR fr0 (forL tgt body (items.drop k) fr')) Q E := by
    intro n
    induction n with
    | zero =>
      intro k fr' hk hI
      rw [List.drop_eq_nil_of_le (by omega)]
      unfold forL
      have : k = items.length := by omega
      subst this
      exact hq _ hI
    | succ n ih =>
      intro k fr' hk hI
      have hk' : k < items.length := by omega
      rw [List.drop_eq_getElem_cons hk']
      unfold forL
      have h := hs k hk' fr' hI
      cases e1 : tgt (.sh items[k]) fr' with
      | ok u fr1 =>
        rw [e1] at h
        simp only [wp_ok] at h
        dsimp only
        cases e2 : body fr1 with
        | ok x fr2 =>
          rw [e2] at h
          cases x with
          | nx => exact ih (k + 1) fr2 (by omega) h
          | ct => exact ih (k + 1) fr2 (by omega) h
          | bk => exact h
          | rt e => exact h
        | ex c w fr2 =>
          rw [e2] at h
          exact h
        | st =>
          rw [e2] at h
          exact h.elim
      | ex c w fr1 =>
        rw [e1] at h
        exact h.elim
      | st =>
        rw [e1] at h
        exact h.elim
  have := key items.length 0 fr (by omega) h0
  simpa using this
/-- a while: n falls -/
theorem wp_while {c : Fr → Rs Bool} {body : Fr → Rs Fl} (I : Nat → Fr → Prop) {n : Nat} (h0 : I n fr)
    (hs : ∀ n fr', I n fr' → wp (c fr') (fun b fr1 => if b = true then wp (body fr1) (fun x fr2 => match x with | .nx => Hid (∃ m, m < n ∧ I m fr2) | .ct => Hid (∃ m, m < n ∧ I m fr2) | .bk => Q .nx fr2 | .rt e => Q (.rt e) fr2) E else Q .nx fr1) E) : wp (whileS c body fr) Q E := by
  have key : ∀ n fr', I n fr' → ∃ k, wp (whileF c body k fr') Q E := by
    intro n
    induction n using Nat.strongRecOn with
    | ind n ih =>
      intro fr' hI
      have h := hs n fr' hI
      cases e1 : c fr' with
      | ok b fr1 =>
        rw [e1] at h
        simp only [wp_ok] at h
        cases b with
        | false => exact ⟨1, by unfold whileF; rw [e1]; exact h⟩
        | true =>
          simp only [if_true] at h
          cases e2 : body fr1 with
          | ok x fr2 =>
            rw [e2] at h
            simp only [wp_ok] at h
            cases x with
            | nx =>
              obtain ⟨m, hm, hI'⟩ := h
              obtain ⟨k, hk⟩ := ih m hm fr2 hI'
              exact ⟨k + 1, by unfold whileF; rw [e1]; dsimp only; rw [e2]; exact hk⟩
            | ct =>
              obtain ⟨m, hm, hI'⟩ := h
              obtain ⟨k, hk⟩ := ih m hm fr2 hI'
              exact ⟨k + 1, by unfold whileF; rw [e1]; dsimp only; rw [e2]; exact hk⟩
            | bk => exact ⟨1, by unfold whileF; rw [e1]; dsimp only; rw [e2]; exact h⟩
            | rt e => exact ⟨1, by unfold whileF; rw [e1]; dsimp only; rw [e2]; exact h⟩
          | ex c' w fr2 =>
            rw [e2] at h
            exact ⟨1, by unfold whileF; rw [e1]; dsimp only; rw [e2]; exact h⟩
          | st => rw [e2] at h; exact h.elim
      | ex c' w fr1 =>
        rw [e1] at h
        exact ⟨1, by unfold whileF; rw [e1]; exact h⟩
      | st => rw [e1] at h; exact h.elim
  obtain ⟨k, hk⟩ := key n fr h0
  have hne : whileF c body k fr ≠ .st := fun z => by rw [z] at hk; exact hk
  rw [whileS_of hne]
  exact hk
/-! ### comprehensions -/
variable {P : Ev → Fr → Prop} {L : List PyData → Fr → Prop}
@[simp ↓] theorem wp_lcE {vs : List Nat} {src : Fr → Rs SrcD} {tgt : Ev → Fr → Rs Unit} {tst : Fr → Rs Bool} {el : Fr → Rs Ev} : wp (lcE vs src tgt tst el fr) P E = wp (src fr) (fun s fr1 => (s.lks.all fun i => !vs.contains i) = true ∧ wp (lcL vs tgt tst el s.items (hid vs (lkAll s.lks fr1))) (fun acc fr' => acc.length ≤ sizeLine ∧ P (.ow acc) (relock fr1 (rst vs (lkAll s.lks fr1) fr'))) (fun _ _ _ => False)) E := by
  unfold lcE
  rw [wp_bnd]
  refine wp_cong fun s fr1 => ?_
  rw [wp_guard]
  congr 1
  cases lcL vs tgt tst el s.items (hid vs (lkAll s.lks fr1)) with
  | ok acc fr' => simp only [wp_ok, wp_guard]
  | ex => rfl
  | st => rfl
theorem lcL_nex {vs : List Nat} {tgt : Ev → Fr → Rs Unit} {tst : Fr → Rs Bool} {el : Fr → Rs Ev} {items : List PyData} {fr fr' : Fr} {c : Str} {w : PyData} : lcL vs tgt tst el items fr ≠ .ex c w fr' := by
  induction items generalizing fr with
  | nil => intro z; cases z
  | cons d ds ih =>
    unfold lcL
    intro z
    repeat' (first | (cases z; done) | (split at z))
    all_goals first | (cases z; done) | exact ih z
theorem wp_lc {vs : List Nat} {tgt : Ev → Fr → Rs Unit} {tst : Fr → Rs Bool} {el : Fr → Rs Ev} {items : List PyData} (I : Nat → List PyData → Fr → Prop) (h0 : I 0 [] fr)
    (hs : ∀ k (hk : k < items.length) acc fr', I k acc fr' → wp (tgt (.sh items[k]) fr') (fun _ fr1 => wp (tst fr1) (fun b fr2 => if b = true then wp (el fr2) (fun x fr3 => wp (fzM x fr3) (fun d fr4 => wp (.ok () (hid vs fr4) : Rs Unit) (fun _ fr5 => Hid (I (k + 1) (acc ++ [d]) fr5)) (fun _ _ _ => False)) (fun _ _ _ => False)) (fun _ _ _ => False) else wp (.ok () (hid vs fr2) : Rs Unit) (fun _ fr5 => Hid (I (k + 1) acc fr5)) (fun _ _ _ => False)) (fun _ _ _ => False)) (fun _ _ _ => False))
    (hq : ∀ acc fr', I items.length acc fr' → L acc fr') : wp (lcL vs tgt tst el items fr) L E := by
  have key : ∀ (n k : Nat) acc fr', n + k = items.length → I k acc fr' → wp (lcL vs tgt tst el (items.drop k) fr') (fun r fr2 => L (acc ++ r) fr2) E := by
    intro n
    induction n with
    | zero =>
      intro k acc fr' hk hI
      rw [List.drop_eq_nil_of_le (by omega)]
      unfold lcL
      have : k = items.length := by omega
      subst this
      simp only [wp_ok, List.append_nil]
      exact hq _ _ hI
    | succ n ih =>
      intro k acc fr' hk hI
      have hk' : k < items.length := by omega
      rw [List.drop_eq_getElem_cons hk']
      unfold lcL
      have h := hs k hk' acc fr' hI
      cases e1 : tgt (.sh items[k]) fr' with
      | ok u fr1 =>
        rw [e1] at h
        simp only [wp_ok] at h
        dsimp only
        cases e2 : tst fr1 with
        | ok b fr2 =>
          rw [e2] at h
          simp only [wp_ok] at h
          cases b with
          | false => exact ih (k + 1) acc (hid vs fr2) (by omega) h
          | true =>
            simp only [if_true] at h
            dsimp only
            cases e3 : el fr2 with
            | ok x fr3 =>
              rw [e3] at h
              simp only [wp_ok] at h
              dsimp only
              unfold fzM at h
              cases e4 : fz fr3 x with
              | none => rw [e4] at h; exact h.elim
              | some p =>
                rw [e4] at h
                simp only [wp_ok] at h
                obtain ⟨dx, fr4⟩ := p
                dsimp only
                have := ih (k + 1) (acc ++ [dx]) (hid vs fr4) (by omega) h
                cases e5 : lcL vs tgt tst el (items.drop (k + 1)) (hid vs fr4) with
                | ok rs fr5 =>
                  rw [e5] at this
                  simp only [wp_ok, List.append_assoc, List.singleton_append] at this
                  exact this
                | ex c w fr5 =>
                  exact absurd e5 lcL_nex
                | st => rw [e5] at this; exact this.elim
            | ex => rw [e3] at h; exact h.elim
            | st => rw [e3] at h; exact h.elim
        | ex => rw [e2] at h; exact h.elim
        | st => rw [e2] at h; exact h.elim
      | ex => rw [e1] at h; exact h.elim
      | st => rw [e1] at h; exact h.elim
  have := key items.length 0 [] fr (by omega) h0
  simpa using this
/-- a comprehension whose element and test turn nothing -/
theorem wp_lcP {vs : List Nat} {tgt : Ev → Fr → Rs Unit} {tst : Fr → Rs Bool} {el : Fr → Rs Ev} {items : List PyData} (p : PyData → Bool) (g : PyData → PyData)
    (hs : ∀ d ∈ items, wp (tgt (.sh d) fr) (fun _ fr1 => wp (tst fr1) (fun b fr2 => b = p d ∧ if b = true then wp (el fr2) (fun x fr3 => wp (fzM x fr3) (fun d' fr4 => d' = g d ∧ hid vs fr4 = fr) (fun _ _ _ => False)) (fun _ _ _ => False) else hid vs fr2 = fr) (fun _ _ _ => False)) (fun _ _ _ => False))
    (hq : L ((items.filter p).map g) fr) : wp (lcL vs tgt tst el items fr) L E := by
  refine wp_lc (fun k acc fr' => acc = ((items.take k).filter p).map g ∧ fr' = fr) ⟨by simp, rfl⟩ ?_ ?_
  · intro k hk acc fr' ⟨ha, hf⟩
    subst hf
    refine (hs items[k] (List.getElem_mem hk)).mono (fun _ fr1 h => h.mono (fun b fr2 h => ?_) fun _ _ _ h => h) fun _ _ _ h => h
    obtain ⟨hb, h⟩ := h
    have e : (items.take (k + 1)).filter p = (items.take k).filter p ++ (if p items[k] then [items[k]] else []) := by
      rw [List.take_succ_eq_append_getElem hk, List.filter_append]
      congr 1
      simp [List.filter_cons]
    by_cases hp : b = true
    · rw [if_pos hp] at h ⊢
      refine h.mono (fun x fr3 h => h.mono (fun d fr4 h => ?_) fun _ _ _ h => h) fun _ _ _ h => h
      refine ⟨?_, h.2⟩
      rw [e, if_pos (by rw [← hb]; exact hp), ha, h.1]
      simp
    · rw [if_neg hp] at h ⊢
      refine ⟨?_, h⟩
      rw [e, if_neg (by rw [← hb]; exact hp), ha]
      simp
  · rintro acc fr' ⟨rfl, rfl⟩
    rw [List.take_length]
    exact hq
/-! ### a def -/
variable {QD : Rv → List (List PyData) → Prop} {ED : Str → PyData → List (List PyData) → Prop}
@[simp ↓] theorem wpD_mkM {np N : Nat} {body : Fr → Rs Fl} {das : List DA} : wpD (mkM np N body das) QD ED = (das.length = np ∧ wp (body (FL.fr0 N das)) (fun x fr => wpD (finish das (.ok x fr)) QD ED) (fun c w fr => wpD (finish das (.ex c w fr)) QD ED)) := by
  unfold mkM
  by_cases h : das.length = np
  · rw [if_pos h]
    simp only [h, true_and]
    cases body (FL.fr0 N das) <;> rfl
  · rw [if_neg h]
    simp [h]
@[simp] theorem toSv_d : toSv (.d D) = .sh D := rfl
@[simp] theorem toSv_io : toSv (.io ds) = .li true false ds := rfl
@[simp] theorem toSv_fn {m : Fm} : toSv (.fn m) = .fn m := rfl
@[simp] theorem fr0_app {N : Nat} {das : List DA} : FL.fr0 N das = das.map toSv ++ List.replicate (N - das.length) .no := rfl
@[simp] theorem iosOf_nil {fr : Fr} : iosOf [] fr = some [] := by cases fr <;> rfl
@[simp] theorem iosOf_io {das : List DA} {lk : Bool} {es : List PyData} {fr : Fr} : iosOf (.io ds :: das) (.li true lk es :: fr) = (iosOf das fr).map (es :: ·) := rfl
@[simp] theorem iosOf_d {das : List DA} {s : Sv} {fr : Fr} : iosOf (.d D :: das) (s :: fr) = iosOf das fr := by cases s <;> rfl
@[simp] theorem rvOf_sh : rvOf fr (.sh D) = some (.sh D) := rfl
@[simp] theorem rvOf_ow : rvOf fr (.ow ds) = some (.ow ds) := rfl
@[simp] theorem rvOf_al : rvOf fr (.al i) = match fr[i]? with | some (.sh d) => some (.sh d) | some (.li false _ ds) => some (.ow ds) | _ => none := rfl
@[simp] theorem finish_rt {das : List DA} {x : Ev} : finish das (.ok (.rt x) fr) = match rvOf fr x, iosOf das fr with | some rv, some ios => .ret rv ios | _, _ => .st := rfl
@[simp] theorem finish_nx {das : List DA} : finish das (.ok .nx fr) = match iosOf das fr with | some ios => .ret (.sh .none) ios | none => .st := rfl
@[simp] theorem finish_ex {das : List DA} {c : Str} {w : PyData} : finish das (.ex c w fr) = match iosOf das fr with | some ios => .ex c w ios | none => .st := rfl
end
/-! ### operators on data -/
section
variable {i j : Int} {x y : PyData} {ds es : List PyData} {b c : Bool} {s t : Str}
@[simp] theorem oAdd_int : oAdd (.int i) (.int j) = some (.sh (.int (i + j))) := rfl
@[simp] theorem oAdd_list : oAdd (.list ds) (.list es) = if ds.length + es.length ≤ sizeLine then some (.ow (ds ++ es)) else none := rfl
@[simp] theorem oAdd_tuple : oAdd (.tuple ds) (.tuple es) = if ds.length + es.length ≤ sizeLine then some (.sh (.tuple (ds ++ es))) else none := rfl
@[simp] theorem oSub_int : oSub (.int i) (.int j) = some (.sh (.int (i - j))) := rfl
@[simp] theorem oCmp_int {p : Int → Int → Bool} : oCmp p (.int i) (.int j) = some (.sh (.bool (p i j))) := rfl
@[simp] theorem oIsN_none : oIsN x .none = some (.sh (.bool (isNoneD x))) := rfl
@[simp] theorem oNotN_none : oNotN x .none = some (.sh (.bool (!isNoneD x))) := rfl
@[simp] theorem isNoneD_none : isNoneD .none = true := rfl
@[simp] theorem isNoneD_int : isNoneD (.int i) = false := rfl
@[simp] theorem isNoneD_bool : isNoneD (.bool b) = false := rfl
@[simp] theorem isNoneD_str : isNoneD (.str s) = false := rfl
@[simp] theorem isNoneD_list : isNoneD (.list ds) = false := rfl
@[simp] theorem isNoneD_tuple : isNoneD (.tuple ds) = false := rfl
@[simp] theorem oIx_list : oIx (.list ds) (.int i) = (L2.atI ds i).map .sh := rfl
@[simp] theorem oIx_tuple : oIx (.tuple ds) (.int i) = (L2.atI ds i).map .sh := rfl
@[simp] theorem oLen_list : oLen [.list ds] = some (.sh (.int ds.length)) := rfl
@[simp] theorem oLen_tuple : oLen [.tuple ds] = some (.sh (.int ds.length)) := rfl
@[simp] theorem oInt_int : oInt [.int i] = some (.sh (.int i)) := rfl
@[simp] theorem oMax2_int : oMax2 [.int i, .int j] = some (.sh (.int (if j > i then j else i))) := rfl
@[simp] theorem oMin2_int : oMin2 [.int i, .int j] = some (.sh (.int (if j < i then j else i))) := rfl
@[simp] theorem oAbs_int : oAbs [.int i] = some (.sh (.int (if i < 0 then -i else i))) := rfl
@[simp] theorem oList_list : oList [.list ds] = some (.ow ds) := rfl
@[simp] theorem oList_tuple : oList [.tuple ds] = some (.ow ds) := rfl
@[simp] theorem oTuple_list : oTuple [.list ds] = some (.sh (.tuple ds)) := rfl
@[simp] theorem oTuple_tuple : oTuple [.tuple ds] = some (.sh (.tuple ds)) := rfl
@[simp] theorem oGcd_int : oGcd [.int i, .int j] = some (.sh (.int ((Nat.gcd i.natAbs j.natAbs : Nat) : Int))) := rfl
@[simp] theorem fAppend_app : fAppend [x] ds = if ds.length < sizeLine then some (ds ++ [x], .none) else none := rfl
@[simp] theorem rng1M_int : rng1M [.int j] = if rgOk j = true then some (rngD 0 j.toNat) else none := rfl
@[simp] theorem rng2M_int : rng2M [.int i, .int j] = if rgOk i = true ∧ rgOk j = true then some (rngD i (j - i).toNat) else none := rfl
@[simp] theorem rngD_len {lo : Int} {n : Nat} : (rngD lo n).length = n := by simp [rngD]
@[simp] theorem rngD_get {lo : Int} {n k : Nat} (h : k < (rngD lo n).length) : (rngD lo n)[k] = .int (lo + k) := by simp [rngD]
theorem oMinL_ints {ns : List Int} (h : ns ≠ []) : oMinL [.list (ns.map PyData.int)] = some (.sh (.int (minI ns))) := by
  simp [oMinL, intsOf_map, h]
theorem oMaxL_ints {ns : List Int} (h : ns ≠ []) : oMaxL [.list (ns.map PyData.int)] = some (.sh (.int (maxI ns))) := by
  simp [oMaxL, intsOf_map, h]
@[simp] theorem rngC_len {lo c : Int} {n : Nat} : (rngC lo c n).length = n := by simp [rngC]
@[simp] theorem filter_tt {α : Type} {l : List α} : l.filter (fun _ => true) = l := by simp
@[simp] theorem oFdiv_int : oFdiv (.int i) (.int j) = if DivFits i j then some (.sh (.int (fdv i j))) else none := rfl
@[simp] theorem fdv_pos (h : 0 < j) : fdv i j = i / j := if_pos h
@[simp] theorem fmd_pos (h : 0 < j) : fmd i j = i % j := if_pos h
@[simp] theorem rgOk_d (h1 : -1000000000000 ≤ i) (h2 : i ≤ 1000000000000) : rgOk i = true := by rw [rgOk_iff]; omega
@[simp] theorem MulFits_r (h1 : -1000000000000000000 ≤ j) (h2 : j ≤ 1000000000000000000) : MulFits i j := .right (by omega)
@[simp] theorem MulFits_l (h1 : -1000000000000000000 ≤ i) (h2 : i ≤ 1000000000000000000) : MulFits i j := .left (by omega)
@[simp] theorem DivFits_d (h1 : 0 < j) (h2 : j < 1073741824) : DivFits i j := .small (by omega) (by omega)
@[simp] theorem line_le {n : Nat} (h : n ≤ 1000000) : n ≤ sizeLine := by rw [sizeLine_eq]; omega
@[simp] theorem line_lt {n : Nat} (h : n ≤ 1000000) : n < sizeLine := by rw [sizeLine_eq]; omega
@[simp] theorem oMod_int : oMod (.int i) (.int j) = if j ≠ 0 then some (.sh (.int (fmd i j))) else none := rfl
@[simp] theorem ixN_nat {n k : Nat} : L2.ixN n (k : Int) = if k < n then some k else none := by
  unfold L2.ixN
  by_cases h : k < n
  · simp [h]
  · simp [h]
theorem cut_take {ds : List PyData} {n : Nat} : FL.cutD ds none (some (n : Int)) = ds.take n := by
  unfold FL.cutD
  rw [HT.sIx_nat, HT.sIx_none, List.drop_zero, Nat.sub_zero]
  rcases Nat.le_total n ds.length with h | h
  · rw [Nat.min_eq_left h]
  · rw [Nat.min_eq_right h, List.take_length, List.take_of_length_le h]
end
end FL


set_option Elab.async false
set_option maxRecDepth 100000
set_option maxHeartbeats 4000000
/-! FMG: lemmas for mirrors that lean on no law -/
namespace FL
open PySem PySem.Spec PyProof.Rows L2
theorem df {i j : Int} (h : 0 < j) (h2 : j < 1073741824) : DivFits i j := .small (by omega) (by omega)
theorem mf1 {i j : Int} (h : -18446744073709551616 < i) (h2 : i < 18446744073709551616) : MulFits i j := .left (by omega)
theorem mf2 {i j : Int} (h : -18446744073709551616 < j) (h2 : j < 18446744073709551616) : MulFits i j := .right (by omega)
theorem mem_rngD {lo : Int} {n : Nat} {x : PyData} (h : x ∈ rngD lo n) : ∃ i : Nat, i < n ∧ x = .int (lo + i) := by
  unfold rngD at h
  obtain ⟨i, hi, rfl⟩ := List.mem_map.mp h
  exact ⟨i, List.mem_range.mp hi, rfl⟩
theorem ty_ii {i : Int} : isTy "int" (.int i) = true := by
  show (kitB "int" "int").getD false = true
  decide +kernel
theorem ty_ib {i : Int} : isTy "bool" (.int i) = false := by
  show (kitB "int" "bool").getD false = false
  decide +kernel
@[simp] theorem ty_tt {ds : List PyData} : isTy "tuple" (.tuple ds) = true := by
  show (kitB "tuple" "tuple").getD false = true
  decide +kernel
@[simp] theorem shp_int {i : Int} : SeqAt.shaped (.int i) = true := by
  simp [SeqAt.shaped, PyData.canLay0, PyData.depth]
@[simp] theorem oNe_int {i j : Int} : oNe (.int i) (.int j) = some (.sh (.bool (!decide (i = j)))) := by
  rw [oNe, if_pos ⟨shp_int, shp_int⟩]
  simp [PyData.eqv]
  exact Bool.eq_iff_iff.mpr (by simp)
@[simp] theorem oEq_int {i j : Int} : oEq (.int i) (.int j) = some (.sh (.bool (decide (i = j)))) := by
  rw [oEq, if_pos ⟨shp_int, shp_int⟩]
  simp [PyData.eqv]
  exact Bool.eq_iff_iff.mpr (by simp)
theorem lineN {n : Nat} (h : n ≤ 1000000) : n ≤ sizeLine := by rw [sizeLine_eq]; omega
theorem lineL {n : Nat} (h : n ≤ 1000000) : n < sizeLine := by rw [sizeLine_eq]; omega
theorem rgN {n : Nat} (h : n ≤ 1000000) : rgOk (n : Int) = true := by rw [rgOk_iff]; omega
theorem is_nat {i : Int} (h : 0 ≤ i) : ∃ n : Nat, i = n := ⟨i.toNat, by omega⟩
theorem shp_ints {ns : List Int} : SeqAt.shaped (.list (ns.map PyData.int)) = true := by
  have h1 : ∀ ns : List Int, PyData.canLayAll0 (ns.map PyData.int) = true := by
    intro ns
    induction ns with
    | nil => rfl
    | cons n ns ih => simp [PyData.canLayAll0, PyData.canLay0, ih]
  have h2 : ∀ ns : List Int, PyData.depthAll (ns.map PyData.int) ≤ 1 := by
    intro ns
    induction ns with
    | nil => simp [PyData.depthAll]
    | cons n ns ih => simp only [List.map_cons, PyData.depthAll, PyData.depth]; omega
  simp only [SeqAt.shaped, PyData.canLay0, h1, PyData.depth, Bool.true_and]
  refine decide_eq_true ?_
  exact Nat.le_trans (Nat.succ_le_succ (h2 ns)) (show 2 ≤ 64 by decide)
theorem atI_nat {xs : List PyData} {k : Nat} (h : k < xs.length) : L2.atI xs (k : Int) = some xs[k] := by
  simp [L2.atI, h]
theorem pop_nat {xs : List PyData} {k : Nat} (h : k < xs.length) (hl : xs.length ≤ 1000000) : fPop [.int (k : Nat)] xs = some (xs.eraseIdx k, xs[k]) := by
  have h0 : ¬ (k : Int) < 0 := by omega
  have h1 : seqIndex? (k : Int) xs.length = some k := by
    simp [seqIndex?, h, h0]
  have h2 : smallB (k : Int) 4611686018427387904 = true := smallB_iff.mpr (by omega)
  simp [fPop, h1, h2, h]
theorem perm_erase {xs : List PyData} {k : Nat} (h : k < xs.length) : (xs[k] :: xs.eraseIdx k).Perm xs := by
  induction xs generalizing k with
  | nil => simp at h
  | cons x xs ih =>
    cases k with
    | zero => simp
    | succ k =>
      simp only [List.getElem_cons_succ, List.eraseIdx_cons_succ]
      exact (List.Perm.swap ..).trans ((ih (by simpa using h)).cons x)
@[simp] theorem sh_none : isTy "tuple" .none = false := by show (kitB _ _).getD false = _; simp only [tyN]; decide +kernel
@[simp] theorem tt_1 {b} : isTy "tuple" (.bool b) = false := by show (kitB _ _).getD false = _; simp only [tyN]; decide +kernel
@[simp] theorem tt_2 {b} : isTy "tuple" (.int b) = false := by show (kitB _ _).getD false = _; simp only [tyN]; decide +kernel
@[simp] theorem tt_3 {b} : isTy "tuple" (.str b) = false := by show (kitB _ _).getD false = _; simp only [tyN]; decide +kernel
@[simp] theorem tt_4 {b} : isTy "tuple" (.list b) = false := by show (kitB _ _).getD false = _; simp only [tyN]; decide +kernel
@[simp] theorem tl_0 : isTy "list" .none = false := by show (kitB _ _).getD false = _; simp only [tyN]; decide +kernel
@[simp] theorem tl_1 {b} : isTy "list" (.bool b) = false := by show (kitB _ _).getD false = _; simp only [tyN]; decide +kernel
@[simp] theorem tl_2 {b} : isTy "list" (.int b) = false := by show (kitB _ _).getD false = _; simp only [tyN]; decide +kernel
@[simp] theorem tl_3 {b} : isTy "list" (.str b) = false := by show (kitB _ _).getD false = _; simp only [tyN]; decide +kernel
@[simp] theorem tl_4 {b} : isTy "list" (.list b) = true := by show (kitB _ _).getD false = _; simp only [tyN]; decide +kernel
@[simp] theorem tl_5 {b} : isTy "list" (.tuple b) = false := by show (kitB _ _).getD false = _; simp only [tyN]; decide +kernel
@[simp] theorem tb_0' : isTy "bool" .none = false := by show (kitB _ _).getD false = _; simp only [tyN]; decide +kernel
@[simp] theorem tb_1 {b} : isTy "bool" (.bool b) = true := by show (kitB _ _).getD false = _; simp only [tyN]; decide +kernel
@[simp] theorem tb_2 {b} : isTy "bool" (.int b) = false := by show (kitB _ _).getD false = _; simp only [tyN]; decide +kernel
@[simp] theorem tb_3 {b} : isTy "bool" (.str b) = false := by show (kitB _ _).getD false = _; simp only [tyN]; decide +kernel
@[simp] theorem tb_4 {b} : isTy "bool" (.list b) = false := by show (kitB _ _).getD false = _; simp only [tyN]; decide +kernel
@[simp] theorem tb_5 {b} : isTy "bool" (.tuple b) = false := by show (kitB _ _).getD false = _; simp only [tyN]; decide +kernel
@[simp] theorem ti_0 : isTy "int" .none = false := by show (kitB _ _).getD false = _; simp only [tyN]; decide +kernel
@[simp] theorem ti_1 {b} : isTy "int" (.bool b) = true := by show (kitB _ _).getD false = _; simp only [tyN]; decide +kernel
@[simp] theorem ti_2 {b} : isTy "int" (.int b) = true := by show (kitB _ _).getD false = _; simp only [tyN]; decide +kernel
@[simp] theorem ti_3 {b} : isTy "int" (.str b) = false := by show (kitB _ _).getD false = _; simp only [tyN]; decide +kernel
@[simp] theorem ti_4 {b} : isTy "int" (.list b) = false := by show (kitB _ _).getD false = _; simp only [tyN]; decide +kernel
@[simp] theorem ti_5 {b} : isTy "int" (.tuple b) = false := by show (kitB _ _).getD false = _; simp only [tyN]; decide +kernel
@[simp] theorem ts_3 {b} : isTy "str" (.str b) = true := by show (kitB _ _).getD false = _; simp only [tyN]; decide +kernel
@[simp] theorem shp_bool {i} : SeqAt.shaped (.bool i) = true := by simp [SeqAt.shaped, PyData.canLay0, PyData.depth]
@[simp] theorem shp_nil : SeqAt.shaped (.list []) = true := shp_ints (ns := [])
theorem shp_str {s : Str} (h : PyData.canLay0 (.str s) = true) : SeqAt.shaped (.str s) = true := by simp [SeqAt.shaped, h, PyData.depth]
@[simp] theorem oEq_bool {i j : Bool} : oEq (.bool i) (.bool j) = some (.sh (.bool (i == j))) := by
  rw [oEq, if_pos ⟨shp_bool, shp_bool⟩]
  simp [PyData.eqv]
@[simp] theorem oNe_bool {i j : Bool} : oNe (.bool i) (.bool j) = some (.sh (.bool (!(i == j)))) := by
  rw [oNe, if_pos ⟨shp_bool, shp_bool⟩]
  simp [PyData.eqv]
@[simp] theorem oEq_nil : oEq (.list []) (.list []) = some (.sh (.bool true)) := by
  rw [oEq, if_pos ⟨shp_nil, shp_nil⟩]
  simp [PyData.eqv, PyData.eqvAll]
/-- data that can be told the same -/
def okD : Nat → PyData → Prop
  | _, .none => True
  | _, .bool _ => True
  | _, .int _ => True
  | _, .str s => PyData.canLay0 (.str s) = true
  | 0, _ => False
  | n + 1, .list ds => ds.length ≤ 1000000 ∧ ∀ d ∈ ds, okD n d
  | n + 1, .tuple ds => ds.length ≤ 1000000 ∧ ∀ d ∈ ds, okD n d
  | _, .dict _ => False
theorem wp_for_cons {tgt : Ev → Fr → Rs Unit} {body : Fr → Rs Fl} {d : PyData} {ds : List PyData} {fr fr0 : Fr} {Q : Fl → Fr → Prop} {E : Str → PyData → Fr → Prop} : wp (rlR fr0 (forL tgt body (d :: ds) fr)) Q E = wp (tgt (.sh d) fr) (fun _ fr1 => wp (body fr1) (fun x fr2 => match x with
    | .nx => wp (rlR fr0 (forL tgt body ds fr2)) Q E
    | .ct => wp (rlR fr0 (forL tgt body ds fr2)) Q E
    | .bk => Q .nx (relock fr0 fr2)
    | .rt e => Q (.rt e) (relock fr0 fr2)) (fun c w fr2 => E c w (relock fr0 fr2))) (fun _ _ _ => False) := by
  unfold forL
  cases tgt (.sh d) fr with
  | ok u fr1 =>
    simp only [wp_ok]
    cases body fr1 with
    | ok x fr2 => cases x <;> rfl
    | ex c w fr2 => rfl
    | st => rfl
  | ex c w fr1 => rfl
  | st => rfl
theorem wp_for_nil {tgt : Ev → Fr → Rs Unit} {body : Fr → Rs Fl} {fr fr0 : Fr} {Q : Fl → Fr → Prop} {E : Str → PyData → Fr → Prop} : wp (rlR fr0 (forL tgt body [] fr)) Q E = Q .nx (relock fr0 fr) := rfl
theorem wp_lc_cons {vs : List Nat} {tgt : Ev → Fr → Rs Unit} {tst : Fr → Rs Bool} {el : Fr → Rs Ev} {d : PyData} {ds : List PyData} {fr : Fr} {L : List PyData → Fr → Prop} {E : Str → PyData → Fr → Prop} : wp (lcL vs tgt tst el (d :: ds) fr) L E = wp (tgt (.sh d) fr) (fun _ fr1 => wp (tst fr1) (fun b fr2 => if b = true then wp (el fr2) (fun x fr3 => wp (fzM x fr3) (fun dx fr4 => wp (lcL vs tgt tst el ds (hid vs fr4)) (fun rs fr5 => L (dx :: rs) fr5) (fun _ _ _ => False)) (fun _ _ _ => False)) (fun _ _ _ => False) else wp (lcL vs tgt tst el ds (hid vs fr2)) L E) (fun _ _ _ => False)) (fun _ _ _ => False) := by
  show wp (match tgt (.sh d) fr with
    | .ok _ fr1 => match tst fr1 with
      | .ok true fr2 => match el fr2 with
        | .ok x fr3 => match fz fr3 x with
          | some (dx, fr4) => match lcL vs tgt tst el ds (hid vs fr4) with
            | .ok rs fr' => .ok (dx :: rs) fr'
            | _ => .st
          | none => .st
        | _ => .st
      | .ok false fr2 => lcL vs tgt tst el ds (hid vs fr2)
      | _ => .st
    | _ => .st) L E = _
  cases tgt (.sh d) fr with
  | ok u fr1 =>
    simp only [wp_ok]
    cases tst fr1 with
    | ok b fr2 =>
      cases b with
      | true =>
        simp only [wp_ok, if_true]
        cases el fr2 with
        | ok x fr3 =>
          simp only [wp_ok]
          unfold fzM
          cases fz fr3 x with
          | none => rfl
          | some p =>
            obtain ⟨dx, fr4⟩ := p
            simp only [wp_ok]
            cases lcL vs tgt tst el ds (hid vs fr4) <;> rfl
        | ex c w fr2 => rfl
        | st => rfl
      | false => rfl
    | ex c w fr2 => rfl
    | st => rfl
  | ex c w fr1 => rfl
  | st => rfl
theorem wp_lc_nil {vs : List Nat} {tgt : Ev → Fr → Rs Unit} {tst : Fr → Rs Bool} {el : Fr → Rs Ev} {fr : Fr} {L : List PyData → Fr → Prop} {E : Str → PyData → Fr → Prop} : wp (lcL vs tgt tst el [] fr) L E = L [] fr := rfl
theorem lay_told : PyData.canLay0 (.str "told") = true := by decide +kernel
/-- ("told", n) and its like -/
theorem ok_pair {n : Nat} {s : Str} {d : PyData} (hs : PyData.canLay0 (.str s) = true) (hd : okD n d) : okD (n + 1) (.tuple [.str s, d]) := ⟨by simp, fun x hx => by
  simp at hx
  rcases hx with rfl | rfl
  · cases n <;> exact hs
  · exact hd⟩
theorem ok_int {n : Nat} {i : Int} : okD n (.int i) := by cases n <;> exact trivial
theorem ok_bool {n : Nat} {i : Bool} : okD n (.bool i) := by cases n <;> exact trivial
@[simp] theorem at2_0 {x y : PyData} : L2.atI [x, y] 0 = some x := rfl
@[simp] theorem at2_1 {x y : PyData} : L2.atI [x, y] 1 = some y := rfl
@[simp] theorem at3_0 {x y z : PyData} : L2.atI [x, y, z] 0 = some x := rfl
@[simp] theorem at3_1 {x y z : PyData} : L2.atI [x, y, z] 1 = some y := rfl
@[simp] theorem at3_2 {x y z : PyData} : L2.atI [x, y, z] 2 = some z := rfl
@[simp] theorem at4_0 {x y z w : PyData} : L2.atI [x, y, z, w] 0 = some x := rfl
@[simp] theorem at4_1 {x y z w : PyData} : L2.atI [x, y, z, w] 1 = some y := rfl
@[simp] theorem at4_2 {x y z w : PyData} : L2.atI [x, y, z, w] 2 = some z := rfl
@[simp] theorem at4_3 {x y z w : PyData} : L2.atI [x, y, z, w] 3 = some w := rfl
@[simp] theorem ix3_0 : L2.ixN 3 0 = some 0 := rfl
@[simp] theorem ix3_1 : L2.ixN 3 1 = some 1 := rfl
@[simp] theorem ix3_2 : L2.ixN 3 2 = some 2 := rfl
@[simp] theorem ts_0 : isTy "str" .none = false := by show (kitB _ _).getD false = _; simp only [tyN]; decide +kernel
@[simp] theorem ts_1 {b} : isTy "str" (.bool b) = false := by show (kitB _ _).getD false = _; simp only [tyN]; decide +kernel
@[simp] theorem ts_2 {b} : isTy "str" (.int b) = false := by show (kitB _ _).getD false = _; simp only [tyN]; decide +kernel
@[simp] theorem ts_4 {b} : isTy "str" (.list b) = false := by show (kitB _ _).getD false = _; simp only [tyN]; decide +kernel
@[simp] theorem ts_5 {b} : isTy "str" (.tuple b) = false := by show (kitB _ _).getD false = _; simp only [tyN]; decide +kernel
end FL


set_option Elab.async false
set_option maxRecDepth 100000
set_option maxHeartbeats 400000
namespace K26
open PySem PySem.Spec PyProof.Rows L2 FL LamX
variable {QD : Rv → List (List PyData) → Prop} {ED : Str → PyData → List (List PyData) → Prop}
theorem take_wp {jar : List PyData} {many : Int} (hj : J jar) (h1 : 0 < many) (h2 : many < 1073741824) (h : ∀ (r : Nat) jar', (r : Int) < many → J jar' → QD (.sh (.int r)) [jar']) : wpD (m__law_take [.io jar, .d (.int many)]) QD ED := by
  obtain ⟨r, jar', r0, r1, hj', e⟩ := take_spec hj h1 h2
  rw [e]
  obtain ⟨n, rfl⟩ := is_nat r0
  exact h n jar' r1 hj'
theorem one_wp {jar xs : List PyData} (hj : J jar) (h1 : xs ≠ []) (h2 : xs.length < 1073741824) (h : ∀ x jar', x ∈ xs → J jar' → QD (.sh x) [jar']) : wpD (m__law_one [.io jar, .d (.list xs)]) QD ED := by
  obtain ⟨x, jar', hx, hj', e⟩ := one_spec hj h1 h2
  rw [e]
  exact h x jar' hx hj'
end K26


set_option Elab.async false
set_option maxRecDepth 100000
set_option maxHeartbeats 1000000
namespace K26
open PySem PySem.Spec PyProof.Rows L2 FL LamX
variable {QD : Rv → List (List PyData) → Prop} {ED : Str → PyData → List (List PyData) → Prop}
/-! ### motions as numbers -/
/-- turned t times -/
def rt : Nat → Int × Int → Int × Int
  | 0, p => p
  | t + 1, p => (-(rt t p).2, (rt t p).1)
structure Mo where
  t : Nat
  f : Bool
  r : Int
  u : Int
def fi (f : Bool) : Int := if f then 1 else 0
def Mo.d (g : Mo) : PyData := .tuple [.int g.t, .int (fi g.f), .int g.r, .int g.u]
def Mo.act (g : Mo) (p : Int × Int) : Int × Int :=
  let q := rt g.t (p.1, if g.f then -p.2 else p.2)
  (q.1 + g.r, q.2 + g.u)
def pt (p : Int × Int) : PyData := .tuple [.int p.1, .int p.2]
@[simp] theorem fi_t : fi true = 1 := rfl
@[simp] theorem fi_f : fi false = 0 := rfl
theorem spun_eq (g : Mo) (p : Int × Int) (ht : g.t ≤ 3) : m_spun [.d g.d, .d (.int p.1), .d (.int p.2)] = .ret (.sh (pt (g.act p))) [] := by
  obtain ⟨t, f, r, u⟩ := g
  obtain ⟨x, y⟩ := p
  have ht : t ≤ 3 := ht
  apply wpD_eq
  have loop : ∀ (y0 : Int) (fr0 : FL.Fr) (Q : Fl → FL.Fr → Prop) (E : Str → PyData → FL.Fr → Prop), (∀ a : Option PyData, Q .nx (relock fr0 [.sh (Mo.d ⟨t, f, r, u⟩), .sh (.int (rt t (x, y0)).1), .sh (.int (rt t (x, y0)).2), .sh (.int t), .sh (.int (fi f)), .sh (.int r), .sh (.int u), jk a])) →
      wp (rlR fr0 (forL (FL.stM 7) p_spun_1 (rngD 0 t) [.sh (Mo.d ⟨t, f, r, u⟩), .sh (.int x), .sh (.int y0), .sh (.int t), .sh (.int (fi f)), .sh (.int r), .sh (.int u), .no])) Q E := by
    intro y0 fr0 Q E hq
    refine wp_for (fun k fr => ∃ a, fr = [.sh (Mo.d ⟨t, f, r, u⟩), .sh (.int (rt k (x, y0)).1), .sh (.int (rt k (x, y0)).2), .sh (.int t), .sh (.int (fi f)), .sh (.int r), .sh (.int u), jk a]) ⟨none, rfl⟩ ?_ ?_
    · rintro k hk fr' ⟨a, rfl⟩
      simp [p_spun_1]
      exact ⟨some (.int k), rfl⟩
    · rintro fr' ⟨a, rfl⟩
      rw [rngD_len]
      exact hq a
  have hr : rgOk (t : Int) = true := rgN (by omega)
  cases f with
  | true =>
    have l := loop (-y)
    simp only [Mo.d, fi_t] at l
    simp [m_spun, b_spun, Mo.d, hr]
    refine l _ _ _ fun a => ?_
    simp [pt, Mo.act]
  | false =>
    have l := loop y
    simp only [Mo.d, fi_f] at l
    simp [m_spun, b_spun, Mo.d, hr]
    refine l _ _ _ fun a => ?_
    simp [pt, Mo.act]
end K26


set_option Elab.async false
set_option maxRecDepth 100000
set_option maxHeartbeats 1000000
namespace K26
open PySem PySem.Spec PyProof.Rows L2 FL LamX
variable {QD : Rv → List (List PyData) → Prop} {ED : Str → PyData → List (List PyData) → Prop}
theorem moved_eq (g : Mo) (p : Int × Int) (ht : g.t ≤ 3) : m__law_moved_dot [.d g.d, .d (.int p.1), .d (.int p.2)] = .ret (.sh (pt (g.act p))) [] := by
  obtain ⟨t, f, r, u⟩ := g
  obtain ⟨x, y⟩ := p
  have ht : t ≤ 3 := ht
  apply wpD_eq
  have loop : ∀ (y0 : Int) (fr0 : FL.Fr) (Q : Fl → FL.Fr → Prop) (E : Str → PyData → FL.Fr → Prop), (∀ a : Option PyData, Q .nx (relock fr0 [.sh (Mo.d ⟨t, f, r, u⟩), .sh (.int (rt t (x, y0)).1), .sh (.int (rt t (x, y0)).2), .sh (.int t), .sh (.int (fi f)), .sh (.int r), .sh (.int u), jk a])) →
      wp (rlR fr0 (forL (FL.stM 7) p__law_moved_dot_1 (rngD 0 t) [.sh (Mo.d ⟨t, f, r, u⟩), .sh (.int x), .sh (.int y0), .sh (.int t), .sh (.int (fi f)), .sh (.int r), .sh (.int u), .no])) Q E := by
    intro y0 fr0 Q E hq
    refine wp_for (fun k fr => ∃ a, fr = [.sh (Mo.d ⟨t, f, r, u⟩), .sh (.int (rt k (x, y0)).1), .sh (.int (rt k (x, y0)).2), .sh (.int t), .sh (.int (fi f)), .sh (.int r), .sh (.int u), jk a]) ⟨none, rfl⟩ ?_ ?_
    · rintro k hk fr' ⟨a, rfl⟩
      simp [p__law_moved_dot_1]
      exact ⟨some (.int k), rfl⟩
    · rintro fr' ⟨a, rfl⟩
      rw [rngD_len]
      exact hq a
  have hr : rgOk (t : Int) = true := rgN (by omega)
  cases f with
  | true =>
    have l := loop (-y)
    simp only [Mo.d, fi_t] at l
    simp [m__law_moved_dot, b__law_moved_dot, Mo.d, hr]
    refine l _ _ _ fun a => ?_
    simp [pt, Mo.act]
  | false =>
    have l := loop y
    simp only [Mo.d, fi_f] at l
    simp [m__law_moved_dot, b__law_moved_dot, Mo.d, hr]
    refine l _ _ _ fun a => ?_
    simp [pt, Mo.act]
/-- one after the other -/
def jo (a b : Mo) : Mo := ⟨if a.f then (a.t + 3 * b.t) % 4 else (a.t + b.t) % 4, xor a.f b.f, (a.act (b.r, b.u)).1, (a.act (b.r, b.u)).2⟩
def ba (g : Mo) : Mo :=
  let b := if g.f then g.t else (4 - g.t) % 4
  let q := (Mo.mk b g.f 0 0).act (g.r, g.u)
  ⟨b, g.f, -q.1, -q.2⟩
theorem jo_t (a b : Mo) : (jo a b).t ≤ 3 := by
  unfold jo
  dsimp only
  split <;> omega
theorem ba_t (g : Mo) (h : g.t ≤ 3) : (ba g).t ≤ 3 := by
  unfold ba
  dsimp only
  split <;> omega
theorem joined_eq (a b : Mo) (ha : a.t ≤ 3) (hb : b.t ≤ 3) : m_joined [.d a.d, .d b.d] = .ret (.sh (jo a b).d) [] := by
  have e := spun_eq a (b.r, b.u) ha
  obtain ⟨t, f, r, u⟩ := a
  obtain ⟨t2, f2, r2, u2⟩ := b
  dsimp only at ha hb e
  simp only [Mo.d] at e
  apply wpD_eq
  cases f <;> cases f2
  · skip
    simp at e
    simp [m_joined, b_joined, Mo.d, e, pt, jo]
  · skip
    simp at e
    simp [m_joined, b_joined, Mo.d, e, pt, jo]
  · have : ((t : Int) - t2) % 4 = ((t + 3 * t2) % 4 : Nat) := by omega
    generalize hn : (t + 3 * t2) % 4 = n at this
    simp at e
    simp [m_joined, b_joined, Mo.d, e, pt, jo, this, hn]
    omega
  · have : ((t : Int) - t2) % 4 = ((t + 3 * t2) % 4 : Nat) := by omega
    generalize hn : (t + 3 * t2) % 4 = n at this
    simp at e
    simp [m_joined, b_joined, Mo.d, e, pt, jo, this, hn]
    omega
theorem then_eq (a b : Mo) (ha : a.t ≤ 3) (hb : b.t ≤ 3) : m__law_then_motion [.d a.d, .d b.d] = .ret (.sh (jo a b).d) [] := by
  have e := moved_eq a (b.r, b.u) ha
  obtain ⟨t, f, r, u⟩ := a
  obtain ⟨t2, f2, r2, u2⟩ := b
  dsimp only at ha hb e
  simp only [Mo.d] at e
  apply wpD_eq
  cases f <;> cases f2
  · skip
    simp at e
    simp [m__law_then_motion, b__law_then_motion, Mo.d, e, pt, jo]
  · skip
    simp at e
    simp [m__law_then_motion, b__law_then_motion, Mo.d, e, pt, jo]
  · have : ((t : Int) + -t2) % 4 = ((t + 3 * t2) % 4 : Nat) := by omega
    generalize hn : (t + 3 * t2) % 4 = n at this
    simp at e
    simp [m__law_then_motion, b__law_then_motion, Mo.d, e, pt, jo, this, hn]
    omega
  · have : ((t : Int) + -t2) % 4 = ((t + 3 * t2) % 4 : Nat) := by omega
    generalize hn : (t + 3 * t2) % 4 = n at this
    simp at e
    simp [m__law_then_motion, b__law_then_motion, Mo.d, e, pt, jo, this, hn]
    omega
theorem backed_eq (g : Mo) (h : g.t ≤ 3) : m_backed [.d g.d] = .ret (.sh (ba g).d) [] := by
  have e := spun_eq ⟨if g.f then g.t else (4 - g.t) % 4, g.f, 0, 0⟩ (g.r, g.u) (by dsimp only; split <;> omega)
  obtain ⟨t, f, r, u⟩ := g
  dsimp only at h e
  simp only [Mo.d] at e
  apply wpD_eq
  cases f
  · have h2 : (-(t : Int)) % 4 = ((4 - t) % 4 : Nat) := by omega
    simp at e
    simp [m_backed, b_backed, Mo.d, h2, e, pt, ba]
  · simp at e
    simp [m_backed, b_backed, Mo.d, e, pt, ba]
theorem back_eq (g : Mo) (h : g.t ≤ 3) : m__law_back_motion [.d g.d] = .ret (.sh (ba g).d) [] := by
  have e := moved_eq ⟨if g.f then g.t else (4 - g.t) % 4, g.f, 0, 0⟩ (g.r, g.u) (by dsimp only; split <;> omega)
  obtain ⟨t, f, r, u⟩ := g
  dsimp only at h e
  simp only [Mo.d] at e
  apply wpD_eq
  cases f
  · have h2 : (-(t : Int)) % 4 = ((4 - t) % 4 : Nat) := by omega
    simp at e
    simp [m__law_back_motion, b__law_back_motion, Mo.d, h2, e, pt, ba]
  · simp at e
    simp [m__law_back_motion, b__law_back_motion, Mo.d, e, pt, ba]
theorem cases4 {t : Nat} (h : t ≤ 3) : t = 0 ∨ t = 1 ∨ t = 2 ∨ t = 3 := by omega
theorem act_jo (a b : Mo) (ha : a.t ≤ 3) (hb : b.t ≤ 3) (p : Int × Int) : (jo a b).act p = a.act (b.act p) := by
  obtain ⟨t, f, r, u⟩ := a
  obtain ⟨t2, f2, r2, u2⟩ := b
  obtain ⟨x, y⟩ := p
  dsimp only at ha hb
  rcases cases4 ha with rfl | rfl | rfl | rfl <;> rcases cases4 hb with rfl | rfl | rfl | rfl <;> cases f <;> cases f2 <;> simp [jo, Mo.act, rt] <;> omega
theorem ba_act (g : Mo) (h : g.t ≤ 3) (p : Int × Int) : (ba g).act (g.act p) = p := by
  obtain ⟨t, f, r, u⟩ := g
  obtain ⟨x, y⟩ := p
  dsimp only at h
  rcases cases4 h with rfl | rfl | rfl | rfl <;> cases f <;> simp [ba, Mo.act, rt] <;> omega
end K26


set_option Elab.async false
set_option maxRecDepth 100000
set_option maxHeartbeats 1000000
namespace K26
open PySem PySem.Spec PyProof.Rows L2 FL LamX
variable {QD : Rv → List (List PyData) → Prop} {ED : Str → PyData → List (List PyData) → Prop}
def itr (f : Int × Int → Int × Int) : Nat → Int × Int → Int × Int
  | 0, p => p
  | n + 1, p => f (itr f n p)
theorem itr_double (f : Int × Int → Int × Int) : ∀ (m : Nat) (p : Int × Int), itr (fun q => f (f q)) m p = itr f (2 * m) p
  | 0, p => rfl
  | m + 1, p => by
    show f (f (itr (fun q => f (f q)) m p)) = f (f (itr f (2 * m) p))
    rw [itr_double f m p]
theorem itr_congr {f g : Int × Int → Int × Int} (h : ∀ p, f p = g p) : ∀ (m : Nat) (p : Int × Int), itr f m p = itr g m p
  | 0, p => rfl
  | m + 1, p => by
    show f (itr f m p) = g (itr g m p)
    rw [itr_congr h m p, h]
def ido : Mo := ⟨0, false, 0, 0⟩
theorem ido_act (p : Int × Int) : ido.act p = p := by
  obtain ⟨x, y⟩ := p
  simp [ido, Mo.act, rt]
def ido_d : PyData := .tuple [.int 0, .int 0, .int 0, .int 0]
theorem ido_eq : ido.d = .tuple [.int 0, .int 0, .int 0, .int 0] := rfl
/-- n times, back where n is below 0 -/
def pwr (g : Mo) (n : Int) (p : Int × Int) : Int × Int := if n < 0 then itr (ba g).act n.natAbs p else itr g.act n.natAbs p
theorem inv_even {a b : Mo} {m : Nat} {F : Int × Int → Int × Int} {N : Nat} (hb : b.t ≤ 3) (he : m % 2 = 0) (h : ∀ p, a.act (itr b.act m p) = itr F N p) (p : Int × Int) : a.act (itr (jo b b).act (m / 2) p) = itr F N p := by
  rw [itr_congr (act_jo b b hb hb) (m / 2) p, itr_double b.act, show 2 * (m / 2) = m by omega]
  exact h p
theorem inv_odd {a b : Mo} {m : Nat} {F : Int × Int → Int × Int} {N : Nat} (ha : a.t ≤ 3) (hb : b.t ≤ 3) (he : m % 2 = 1) (h : ∀ p, a.act (itr b.act m p) = itr F N p) (p : Int × Int) : (jo a b).act (itr (jo b b).act (m / 2) p) = itr F N p := by
  rw [act_jo a b ha hb, itr_congr (act_jo b b hb hb) (m / 2) p, itr_double b.act, ← h p]
  have : m = 2 * (m / 2) + 1 := by omega
  conv => rhs; rw [this]
  rfl
theorem half {m : Nat} : (m : Int) / 2 = ((m / 2 : Nat) : Int) := by omega
theorem par {m : Nat} : (m : Int) % 2 = ((m % 2 : Nat) : Int) := by omega
theorem far_loop (g b0 : Mo) (n : Int) (N : Nat) (hb0 : b0.t ≤ 3) {Q : Fl → FL.Fr → Prop} {E : Str → PyData → FL.Fr → Prop} (hq : ∀ (h : Mo) (s4 : Sv), h.t ≤ 3 → (∀ p, h.act p = itr b0.act N p) → ∀ s3, Q .nx [.sh g.d, .sh (.int n), .sh h.d, s3, s4]) :
    wp (whileS p_far_power_1 p_far_power_2 [.sh g.d, .sh (.int n), .sh ido.d, .sh b0.d, .sh (.int N)]) Q E := by
  refine wp_while (fun m fr => ∃ a b : Mo, fr = [.sh g.d, .sh (.int n), .sh a.d, .sh b.d, .sh (.int m)] ∧ a.t ≤ 3 ∧ b.t ≤ 3 ∧ ∀ p, a.act (itr b.act m p) = itr b0.act N p) (n := N) ⟨ido, b0, rfl, by decide, hb0, fun p => ido_act _⟩ ?_
  rintro m fr' ⟨a, b, rfl, ha, hb, hi⟩
  by_cases hm : m = 0
  · subst hm
    simp [p_far_power_1]
    exact hq a _ ha hi _
  · have h1 := joined_eq a b ha hb
    have h2 := joined_eq b b hb hb
    have hp : 0 < m := by omega
    by_cases he : m % 2 = 1
    · have he' : (m : Int) % 2 = 1 := by omega
      have hh := half (m := m)
      have fin := inv_odd ha hb he hi
      generalize m / 2 = k at hh fin
      simp [p_far_power_1, p_far_power_2, hp, he', h1, h2, hh]
      exact ⟨k, by omega, jo a b, jo b b, rfl, jo_t _ _, jo_t _ _, fin⟩
    · have he' : (m : Int) % 2 = 0 := by omega
      have hh := half (m := m)
      have fin := inv_even hb (by omega) hi
      generalize m / 2 = k at hh fin
      simp [p_far_power_1, p_far_power_2, hp, he', h1, h2, hh]
      exact ⟨k, by omega, a, jo b b, rfl, ha, jo_t _ _, fin⟩
theorem far_spec (g : Mo) (n : Int) (hg : g.t ≤ 3) : ∃ h : Mo, m_far_power [.d g.d, .d (.int n)] = .ret (.sh h.d) [] ∧ h.t ≤ 3 ∧ ∀ p, h.act p = pwr g n p := by
  have key : wpD (m_far_power [.d g.d, .d (.int n)]) (fun rv ios => ∃ h : Mo, rv = .sh h.d ∧ ios = [] ∧ h.t ≤ 3 ∧ ∀ p, h.act p = pwr g n p) (fun _ _ _ => False) := by
    have hb := backed_eq g hg
    by_cases hn : n < 0
    · have l := far_loop g (ba g) n n.natAbs (ba_t g hg) (Q := fun x fr => x = .nx ∧ ∃ (h : Mo) (s3 s4 : Sv), h.t ≤ 3 ∧ (∀ p, h.act p = itr (ba g).act n.natAbs p) ∧ fr = [.sh g.d, .sh (.int n), .sh h.d, s3, s4]) (E := fun _ _ _ => False) fun h s4 h1 h2 s3 => ⟨rfl, h, s3, s4, h1, h2, rfl⟩
      rw [ido_eq, show ((n.natAbs : Nat) : Int) = -n by omega] at l
      simp [m_far_power, b_far_power, hn, hb]
      refine l.mono ?_ fun _ _ _ z => z.elim
      rintro x fr ⟨rfl, h, s3, s4, h1, h2, rfl⟩
      simp
      exact ⟨h, rfl, h1, fun p q => by rw [h2, pwr, if_pos hn]⟩
    · have l := far_loop g g n n.natAbs hg (Q := fun x fr => x = .nx ∧ ∃ (h : Mo) (s3 s4 : Sv), h.t ≤ 3 ∧ (∀ p, h.act p = itr g.act n.natAbs p) ∧ fr = [.sh g.d, .sh (.int n), .sh h.d, s3, s4]) (E := fun _ _ _ => False) fun h s4 h1 h2 s3 => ⟨rfl, h, s3, s4, h1, h2, rfl⟩
      rw [ido_eq, show ((n.natAbs : Nat) : Int) = n by omega] at l
      simp [m_far_power, b_far_power, hn]
      refine l.mono ?_ fun _ _ _ z => z.elim
      rintro x fr ⟨rfl, h, s3, s4, h1, h2, rfl⟩
      simp
      exact ⟨h, rfl, h1, fun p q => by rw [h2, pwr, if_neg hn]⟩
  cases e : m_far_power [.d g.d, .d (.int n)] with
  | ret rv ios =>
    rw [e] at key
    obtain ⟨h, rfl, rfl, h1, h2⟩ := key
    exact ⟨h, rfl, h1, h2⟩
  | ex c w ios => rw [e] at key; exact key.elim
  | st => rw [e] at key; exact key.elim
theorem powm_loop (g b0 : Mo) (n : Int) (N : Nat) (hb0 : b0.t ≤ 3) {Q : Fl → FL.Fr → Prop} {E : Str → PyData → FL.Fr → Prop} (hq : ∀ (h : Mo) (s4 : Sv), h.t ≤ 3 → (∀ p, h.act p = itr b0.act N p) → ∀ s3, Q .nx [.sh g.d, .sh (.int n), .sh h.d, s3, s4]) :
    wp (whileS p__law_power_motion_1 p__law_power_motion_2 [.sh g.d, .sh (.int n), .sh ido.d, .sh b0.d, .sh (.int N)]) Q E := by
  refine wp_while (fun m fr => ∃ a b : Mo, fr = [.sh g.d, .sh (.int n), .sh a.d, .sh b.d, .sh (.int m)] ∧ a.t ≤ 3 ∧ b.t ≤ 3 ∧ ∀ p, a.act (itr b.act m p) = itr b0.act N p) (n := N) ⟨ido, b0, rfl, by decide, hb0, fun p => ido_act _⟩ ?_
  rintro m fr' ⟨a, b, rfl, ha, hb, hi⟩
  by_cases hm : m = 0
  · subst hm
    simp [p__law_power_motion_1]
    exact hq a _ ha hi _
  · have h1 := then_eq a b ha hb
    have h2 := then_eq b b hb hb
    have hp : 0 < m := by omega
    by_cases he : m % 2 = 1
    · have he' : (m : Int) % 2 = 1 := by omega
      have hh := half (m := m)
      have fin := inv_odd ha hb he hi
      generalize m / 2 = k at hh fin
      simp [p__law_power_motion_1, p__law_power_motion_2, hp, he', h1, h2, hh]
      exact ⟨k, by omega, jo a b, jo b b, rfl, jo_t _ _, jo_t _ _, fin⟩
    · have he' : (m : Int) % 2 = 0 := by omega
      have hh := half (m := m)
      have fin := inv_even hb (by omega) hi
      generalize m / 2 = k at hh fin
      simp [p__law_power_motion_1, p__law_power_motion_2, hp, he', h1, h2, hh]
      exact ⟨k, by omega, a, jo b b, rfl, ha, jo_t _ _, fin⟩
theorem powm_spec (g : Mo) (n : Int) (hg : g.t ≤ 3) : ∃ h : Mo, m__law_power_motion [.d g.d, .d (.int n)] = .ret (.sh h.d) [] ∧ h.t ≤ 3 ∧ ∀ p, h.act p = pwr g n p := by
  have key : wpD (m__law_power_motion [.d g.d, .d (.int n)]) (fun rv ios => ∃ h : Mo, rv = .sh h.d ∧ ios = [] ∧ h.t ≤ 3 ∧ ∀ p, h.act p = pwr g n p) (fun _ _ _ => False) := by
    have hb := back_eq g hg
    by_cases hn : n < 0
    · have l := powm_loop g (ba g) n n.natAbs (ba_t g hg) (Q := fun x fr => x = .nx ∧ ∃ (h : Mo) (s3 s4 : Sv), h.t ≤ 3 ∧ (∀ p, h.act p = itr (ba g).act n.natAbs p) ∧ fr = [.sh g.d, .sh (.int n), .sh h.d, s3, s4]) (E := fun _ _ _ => False) fun h s4 h1 h2 s3 => ⟨rfl, h, s3, s4, h1, h2, rfl⟩
      rw [ido_eq, show ((n.natAbs : Nat) : Int) = -n by omega] at l
      have hn' : ¬ 0 ≤ n := by omega
      simp [m__law_power_motion, b__law_power_motion, hn, hb, hn']
      refine l.mono ?_ fun _ _ _ z => z.elim
      rintro x fr ⟨rfl, h, s3, s4, h1, h2, rfl⟩
      simp
      exact ⟨h, rfl, h1, fun p q => by rw [h2, pwr, if_pos hn]⟩
    · have l := powm_loop g g n n.natAbs hg (Q := fun x fr => x = .nx ∧ ∃ (h : Mo) (s3 s4 : Sv), h.t ≤ 3 ∧ (∀ p, h.act p = itr g.act n.natAbs p) ∧ fr = [.sh g.d, .sh (.int n), .sh h.d, s3, s4]) (E := fun _ _ _ => False) fun h s4 h1 h2 s3 => ⟨rfl, h, s3, s4, h1, h2, rfl⟩
      rw [ido_eq, show ((n.natAbs : Nat) : Int) = n by omega] at l
      have hn' : 0 ≤ n := by omega
      simp [m__law_power_motion, b__law_power_motion, hn, hn']
      refine l.mono ?_ fun _ _ _ z => z.elim
      rintro x fr ⟨rfl, h, s3, s4, h1, h2, rfl⟩
      simp
      exact ⟨h, rfl, h1, fun p q => by rw [h2, pwr, if_neg hn]⟩
  cases e : m__law_power_motion [.d g.d, .d (.int n)] with
  | ret rv ios =>
    rw [e] at key
    obtain ⟨h, rfl, rfl, h1, h2⟩ := key
    exact ⟨h, rfl, h1, h2⟩
  | ex c w ios => rw [e] at key; exact key.elim
  | st => rw [e] at key; exact key.elim
/-- two motions that do the same are the same -/
theorem mo_ext {a b : Mo} (ha : a.t ≤ 3) (hb : b.t ≤ 3) (h : ∀ p, a.act p = b.act p) : a = b := by
  obtain ⟨t, f, r, u⟩ := a
  obtain ⟨t2, f2, r2, u2⟩ := b
  dsimp only at ha hb
  have h0 := h (0, 0)
  have h1 := h (1, 0)
  have h2 := h (0, 1)
  rcases cases4 ha with rfl | rfl | rfl | rfl <;> rcases cases4 hb with rfl | rfl | rfl | rfl <;> cases f <;> cases f2 <;> simp [Mo.act, rt] at h0 h1 h2 ⊢ <;> omega
theorem pow2 (g : Mo) (hg : g.t ≤ 3) : m__law_power_motion [.d g.d, .d (.int 2)] = .ret (.sh (jo g g).d) [] := by
  obtain ⟨h, e, h1, h2⟩ := powm_spec g 2 hg
  rw [e, mo_ext h1 (jo_t g g) fun p => by rw [h2, act_jo g g hg hg]; rfl]
theorem pow3 (g : Mo) (hg : g.t ≤ 3) : m__law_power_motion [.d g.d, .d (.int 3)] = .ret (.sh (jo g (jo g g)).d) [] := by
  obtain ⟨h, e, h1, h2⟩ := powm_spec g 3 hg
  rw [e, mo_ext h1 (jo_t g (jo g g)) fun p => by rw [h2, act_jo g (jo g g) hg (jo_t g g), act_jo g g hg hg]; rfl]
theorem pow4 (g : Mo) (hg : g.t ≤ 3) : m__law_power_motion [.d g.d, .d (.int 4)] = .ret (.sh (jo (jo g g) (jo g g)).d) [] := by
  obtain ⟨h, e, h1, h2⟩ := powm_spec g 4 hg
  rw [e, mo_ext h1 (jo_t _ _) fun p => by rw [h2, act_jo _ _ (jo_t g g) (jo_t g g), act_jo g g hg hg, act_jo g g hg hg]; rfl]
end K26


set_option Elab.async false
set_option maxRecDepth 100000
set_option maxHeartbeats 1000000
namespace K26
open PySem PySem.Spec PyProof.Rows L2 FL LamX
/-! ### a running motion's row (no program in sight) -/
def wy (g : Mo) : Int × Int := if g.f then ((jo g g).r, (jo g g).u) else if g.t = 0 then (g.r, g.u) else (0, 0)
def at_ (g : Mo) (m : Int) (p : Int × Int) : Int × Int :=
  if g.f then (let q := if m % 2 = 0 then p else g.act p; (q.1 + m / 2 * (wy g).1, q.2 + m / 2 * (wy g).2)) else (p.1 + m * g.r, p.2 + m * g.u)
def lv (w p : Int × Int) : Int := w.1 * p.1 + w.2 * p.2
def rs (g : Mo) : Int := lv (wy g) (g.r, g.u)
/-- one that may run -/
structure Rn (g : Mo) : Prop where
  t : g.t ≤ 3
  w : wy g ≠ (0, 0)
theorem Rn.tf {g : Mo} (h : Rn g) : g.f = true ∨ (g.f = false ∧ g.t = 0) := by
  have := h.w
  unfold wy at this
  cases hf : g.f with
  | true => exact .inl rfl
  | false =>
    rw [hf] at this
    by_cases ht : g.t = 0
    · exact .inr ⟨rfl, ht⟩
    · simp [ht] at this
theorem at_zero (g : Mo) (p : Int × Int) : at_ g 0 p = p := by
  unfold at_
  split <;> simp
theorem at_step {g : Mo} (h : Rn g) (m : Int) (p : Int × Int) : g.act (at_ g m p) = at_ g (m + 1) p := by
  obtain ⟨x, y⟩ := p
  have ht := h.t
  rcases h.tf with hf | ⟨hf, h0⟩
  · obtain ⟨t, f, r, u⟩ := g
    dsimp only at ht hf
    subst hf
    rcases (show m % 2 = 0 ∨ m % 2 = 1 by omega) with hm | hm
    · have h1 : (m + 1) % 2 = 1 := by omega
      have h2 : (m + 1) / 2 = m / 2 := by omega
      generalize hk : m / 2 = k at *
      rcases cases4 ht with rfl | rfl | rfl | rfl <;> simp [at_, wy, jo, Mo.act, rt, hm, h1, h2, hk] <;> grind
    · have h1 : (m + 1) % 2 = 0 := by omega
      have h2 : (m + 1) / 2 = m / 2 + 1 := by omega
      generalize hk : m / 2 = k at *
      rcases cases4 ht with rfl | rfl | rfl | rfl <;> simp [at_, wy, jo, Mo.act, rt, hm, h1, h2, hk] <;> grind
  · obtain ⟨t, f, r, u⟩ := g
    dsimp only at ht hf h0
    subst hf h0
    simp [at_, Mo.act, rt]
    grind
theorem at_back {g : Mo} (h : Rn g) (m : Int) (p : Int × Int) : (ba g).act (at_ g m p) = at_ g (m - 1) p := by
  have := at_step h (m - 1) p
  rw [show m - 1 + 1 = m by omega] at this
  rw [← this, ba_act g h.t]
theorem at_itr {g : Mo} (h : Rn g) (j : Int) (p : Int × Int) : ∀ n : Nat, itr g.act n (at_ g j p) = at_ g (n + j) p
  | 0 => by rw [itr]; congr 1; omega
  | n + 1 => by
    show g.act (itr g.act n _) = _
    rw [at_itr h j p n, at_step h]
    congr 1
    omega
theorem at_itrB {g : Mo} (h : Rn g) (j : Int) (p : Int × Int) : ∀ n : Nat, itr (ba g).act n (at_ g j p) = at_ g (j - n) p
  | 0 => by rw [itr]; congr 1; omega
  | n + 1 => by
    show (ba g).act (itr (ba g).act n _) = _
    rw [at_itrB h j p n, at_back h]
    congr 1
    omega
theorem pwr_at {g : Mo} (h : Rn g) (n j : Int) (p : Int × Int) : pwr g n (at_ g j p) = at_ g (n + j) p := by
  unfold pwr
  split
  · rw [at_itrB h]
    congr 1
    omega
  · rw [at_itr h]
    congr 1
    omega
theorem pwr_eq {g : Mo} (h : Rn g) (n : Int) (p : Int × Int) : pwr g n p = at_ g n p := by
  have := pwr_at h n 0 p
  rwa [at_zero, Int.add_zero] at this
theorem at_add {g : Mo} (h : Rn g) (i j : Int) (p : Int × Int) : at_ g i (at_ g j p) = at_ g (i + j) p := by
  rw [← pwr_eq h i, pwr_at h]
theorem lv_at {g : Mo} (h : Rn g) (m : Int) (p : Int × Int) : lv (wy g) (at_ g m p) = lv (wy g) p + m * rs g := by
  obtain ⟨x, y⟩ := p
  have ht := h.t
  rcases h.tf with hf | ⟨hf, h0⟩
  · obtain ⟨t, f, r, u⟩ := g
    dsimp only at ht hf
    subst hf
    rcases (show m % 2 = 0 ∨ m % 2 = 1 by omega) with hm | hm
    · have h2 : m = 2 * (m / 2) := by omega
      generalize hk : m / 2 = k at *
      rcases cases4 ht with rfl | rfl | rfl | rfl <;> simp [at_, wy, jo, Mo.act, rt, hm, hk, lv, rs] <;> grind
    · have h2 : m = 2 * (m / 2) + 1 := by omega
      generalize hk : m / 2 = k at *
      rcases cases4 ht with rfl | rfl | rfl | rfl <;> simp [at_, wy, jo, Mo.act, rt, hm, hk, lv, rs] <;> grind
  · obtain ⟨t, f, r, u⟩ := g
    dsimp only at ht hf h0
    subst hf h0
    simp [at_, lv, rs, wy]
    grind
theorem sq_pos {a : Int} (h : a ≠ 0) : 0 < a * a := by
  rcases Int.lt_or_gt_of_ne h with h | h
  · exact Int.mul_pos_of_neg_of_neg h h
  · exact Int.mul_pos h h
theorem sq_nn (a : Int) : 0 ≤ a * a := by
  by_cases h : a = 0
  · subst h; simp
  · exact Int.le_of_lt (sq_pos h)
theorem rs_pos {g : Mo} (h : Rn g) : 0 < rs g := by
  have ht := h.t
  have hw := h.w
  rcases h.tf with hf | ⟨hf, h0⟩
  · obtain ⟨t, f, r, u⟩ := g
    dsimp only at ht hf
    subst hf
    rcases cases4 ht with rfl | rfl | rfl | rfl
    · simp [wy, jo, Mo.act, rt] at hw
      simp [wy, jo, Mo.act, rt, lv, rs]
      have := sq_pos (a := r) (by omega)
      grind
    · simp [wy, jo, Mo.act, rt] at hw
      simp [wy, jo, Mo.act, rt, lv, rs]
      have := sq_pos (a := r + u) (by omega)
      grind
    · simp [wy, jo, Mo.act, rt] at hw
      simp [wy, jo, Mo.act, rt, lv, rs]
      have := sq_pos (a := u) (by omega)
      grind
    · simp [wy, jo, Mo.act, rt] at hw
      simp [wy, jo, Mo.act, rt, lv, rs]
      have := sq_pos (a := r - u) (by omega)
      grind
  · obtain ⟨t, f, r, u⟩ := g
    dsimp only at ht hf h0
    subst hf h0
    simp [wy] at hw
    simp [wy, lv, rs]
    have h1 := sq_nn r
    have h2 := sq_nn u
    by_cases hr : r = 0
    · have := sq_pos (hw hr)
      omega
    · have := sq_pos hr
      omega
/-- the number that division tells -/
def nm_ (g : Mo) (p : Int × Int) : Int := lv (wy g) p / rs g
theorem nm_at {g : Mo} (h : Rn g) (m : Int) (p : Int × Int) : nm_ g (at_ g m p) = nm_ g p + m := by
  unfold nm_
  rw [lv_at h, Int.add_mul_ediv_right _ _ (by have := rs_pos h; omega)]
/-- the lead of all dots of the row is the same -/
theorem lead_at {g : Mo} (h : Rn g) (m : Int) (p : Int × Int) : at_ g (-(nm_ g (at_ g m p))) (at_ g m p) = at_ g (-(nm_ g p)) p := by
  rw [nm_at h, at_add h]
  congr 1
  omega
theorem nm_lead {g : Mo} (h : Rn g) (p : Int × Int) : nm_ g (at_ g (-(nm_ g p)) p) = 0 := by
  rw [nm_at h]
  omega
end K26


set_option Elab.async false
set_option maxRecDepth 100000
set_option maxHeartbeats 1000000
namespace K26
open PySem PySem.Spec PyProof.Rows L2 FL LamX
variable {QD : Rv → List (List PyData) → Prop} {ED : Str → PyData → List (List PyData) → Prop}
theorem shp_t2 {a b : Int} : SeqAt.shaped (.tuple [.int a, .int b]) = true := by simp [SeqAt.shaped, PyData.canLay0, PyData.canLayAll0, PyData.depth, PyData.depthAll]
theorem shp_t4 {a b c d : Int} : SeqAt.shaped (.tuple [.int a, .int b, .int c, .int d]) = true := by simp [SeqAt.shaped, PyData.canLay0, PyData.canLayAll0, PyData.depth, PyData.depthAll]
@[simp] theorem oEq_t2 {a b c d : Int} : oEq (.tuple [.int a, .int b]) (.tuple [.int c, .int d]) = some (.sh (.bool (decide (a = c) && decide (b = d)))) := by
  rw [oEq, if_pos ⟨shp_t2, shp_t2⟩]
  simp [PyData.eqv, PyData.eqvAll]
  exact Bool.eq_iff_iff.mpr (by simp)
@[simp] theorem oNe_t2 {a b c d : Int} : oNe (.tuple [.int a, .int b]) (.tuple [.int c, .int d]) = some (.sh (.bool (!(decide (a = c) && decide (b = d))))) := by
  rw [oNe, if_pos ⟨shp_t2, shp_t2⟩]
  simp [PyData.eqv, PyData.eqvAll]
  exact Bool.eq_iff_iff.mpr (by simp)
@[simp] theorem oEq_t4 {a b c d a' b' c' d' : Int} : oEq (.tuple [.int a, .int b, .int c, .int d]) (.tuple [.int a', .int b', .int c', .int d']) = some (.sh (.bool (decide (a = a') && decide (b = b') && decide (c = c') && decide (d = d')))) := by
  rw [oEq, if_pos ⟨shp_t4, shp_t4⟩]
  simp [PyData.eqv, PyData.eqvAll]
  exact Bool.eq_iff_iff.mpr (by simp [and_assoc])
@[simp] theorem cut4a {a b c d : PyData} : FL.cutD [a, b, c, d] none (some 2) = [a, b] := rfl
@[simp] theorem cut4b {a b c d : PyData} : FL.cutD [a, b, c, d] (some 2) none = [c, d] := rfl
/-! ### ways, levels, rises -/
theorem raw_way_eq (g : Mo) (h : g.t ≤ 3) : m_raw_way [.d g.d] = .ret (.sh (pt (wy g))) [] := by
  have e := joined_eq g g h h
  obtain ⟨t, f, r, u⟩ := g
  simp only [Mo.d] at e
  apply wpD_eq
  cases f with
  | true =>
    simp at e
    simp [m_raw_way, b_raw_way, Mo.d, e, pt, wy]
  | false =>
    by_cases h0 : t = 0
    · subst h0
      simp [m_raw_way, b_raw_way, Mo.d, pt, wy]
    · simp [m_raw_way, b_raw_way, Mo.d, pt, wy, h0]
theorem way_of_eq (g : Mo) (h : g.t ≤ 3) (hf : g.f = true ∨ (g.f = false ∧ g.t = 0)) : m__law_way_of [.d g.d] = .ret (.sh (pt (wy g))) [] := by
  have e := pow2 g h
  obtain ⟨t, f, r, u⟩ := g
  simp only [Mo.d] at e
  apply wpD_eq
  rcases hf with hf | ⟨hf, h0⟩
  · dsimp only at hf
    subst hf
    simp at e
    simp [m__law_way_of, b__law_way_of, Mo.d, e, pt, wy, oSl]
  · dsimp only at hf h0
    subst hf h0
    simp [m__law_way_of, b__law_way_of, Mo.d, pt, wy, oSl]
/-- within the bounds -/
def Bd (g : Mo) : Prop := (-1000000 ≤ g.r ∧ g.r ≤ 1000000) ∧ (-1000000 ≤ g.u ∧ g.u ≤ 1000000)
theorem wy_bd {g : Mo} (h : g.t ≤ 3) (hb : Bd g) : (-4000000 ≤ (wy g).1 ∧ (wy g).1 ≤ 4000000) ∧ (-4000000 ≤ (wy g).2 ∧ (wy g).2 ≤ 4000000) := by
  obtain ⟨t, f, r, u⟩ := g
  obtain ⟨⟨b1, b2⟩, b3, b4⟩ := hb
  dsimp only at h b1 b2 b3 b4
  cases f with
  | true => rcases cases4 h with rfl | rfl | rfl | rfl <;> simp [wy, jo, Mo.act, rt] <;> omega
  | false =>
    by_cases h0 : t = 0
    · simp [wy, h0]; omega
    · simp [wy, h0]
theorem runs_eq (g : Mo) (h : g.t ≤ 3) : m_runs [.d g.d] = .ret (.sh (.bool (!decide (wy g = (0, 0))))) [] := by
  apply wpD_eq
  simp [m_runs, b_runs, raw_way_eq g h, pt]
  rw [Bool.eq_iff_iff]
  simp [Prod.ext_iff]
theorem level_eq {w p : Int × Int} (h : (-4000000 ≤ w.1 ∧ w.1 ≤ 4000000) ∧ (-4000000 ≤ w.2 ∧ w.2 ≤ 4000000)) : m_level_of [.d (pt w), .d (.int p.1), .d (.int p.2)] = .ret (.sh (.int (lv w p))) [] := by
  apply wpD_eq
  simp (disch := first | omega | simp) [m_level_of, b_level_of, pt, lv]
theorem lev_eq {w p : Int × Int} (h : (-4000000 ≤ w.1 ∧ w.1 ≤ 4000000) ∧ (-4000000 ≤ w.2 ∧ w.2 ≤ 4000000)) : m__law_level [.d (pt w), .d (.int p.1), .d (.int p.2)] = .ret (.sh (.int (lv w p))) [] := by
  apply wpD_eq
  simp (disch := first | omega | simp) [m__law_level, b__law_level, pt, lv]
theorem rise_eq {w : Int × Int} {g : Mo} (h : (-4000000 ≤ w.1 ∧ w.1 ≤ 4000000) ∧ (-4000000 ≤ w.2 ∧ w.2 ≤ 4000000)) : m_rise_by [.d (pt w), .d g.d] = .ret (.sh (.int (lv w (g.r, g.u)))) [] := by
  apply wpD_eq
  simp (disch := first | omega | simp) [m_rise_by, b_rise_by, pt, lv, Mo.d]
theorem lvof_eq {g : Mo} {p : Int × Int} (h : Rn g) (hb : Bd g) : m__law_level_of [.d g.d, .d (.int p.1), .d (.int p.2)] = .ret (.sh (.int (lv (wy g) p))) [] := by
  have b := wy_bd h.t hb
  apply wpD_eq
  simp (disch := first | omega | simp) [m__law_level_of, b__law_level_of, way_of_eq g h.t h.tf, pt, lv]
theorem rsof_eq {g : Mo} (h : Rn g) (hb : Bd g) : m__law_rise_of [.d g.d] = .ret (.sh (.int (rs g))) [] := by
  have e := lvof_eq (p := (g.r, g.u)) h hb
  apply wpD_eq
  simp [m__law_rise_of, b__law_rise_of]
  simp only [Mo.d] at e ⊢
  simp at e ⊢
  rw [e]
  simp [rs]
theorem rs_bd {g : Mo} (h : Rn g) (hb : Bd g) : rs g < 1000000000000000 := by
  have b := wy_bd h.t hb
  obtain ⟨⟨b1, b2⟩, b3, b4⟩ := hb
  have k1 : (wy g).1 * g.r ≤ 4000000 * 1000000 := by
    have : ((wy g).1 * g.r).natAbs ≤ 4000000 * 1000000 := by
      rw [Int.natAbs_mul]
      exact Nat.mul_le_mul (by omega) (by omega)
    omega
  have k2 : (wy g).2 * g.u ≤ 4000000 * 1000000 := by
    have : ((wy g).2 * g.u).natAbs ≤ 4000000 * 1000000 := by
      rw [Int.natAbs_mul]
      exact Nat.mul_le_mul (by omega) (by omega)
    omega
  unfold rs lv
  dsimp only
  omega
theorem at_eq {g : Mo} {m : Int} {p : Int × Int} (h : Rn g) (hb : Bd g) : m__law_ld_at [.d g.d, .d (.int m), .d (pt p)] = .ret (.sh (pt (at_ g m p))) [] := by
  have b := wy_bd h.t hb
  have e := moved_eq g p h.t
  have ew := way_of_eq g h.t h.tf
  obtain ⟨⟨b1, b2⟩, b3, b4⟩ := hb
  apply wpD_eq
  rcases h.tf with hf | ⟨hf, h0⟩
  · generalize hw : wy g = w at *
    generalize ha : g.act p = q at *
    have hd : at_ g m p = (if m % 2 = 0 then (p.1 + m / 2 * w.1, p.2 + m / 2 * w.2) else (q.1 + m / 2 * w.1, q.2 + m / 2 * w.2)) := by
      unfold at_
      rw [if_pos hf, hw, ha]
      dsimp only
      split <;> rfl
    rw [hd]
    have hd1 : L2.atI [PyData.int g.t, .int (fi g.f), .int g.r, .int g.u] 1 = some (.int 1) := by rw [hf]; rfl
    by_cases hm : m % 2 = 0
    · rw [if_pos hm]
      simp (disch := first | omega | simp) [m__law_ld_at, b__law_ld_at, ew]
      simp only [Mo.d, hf, fi_t] at e ew ⊢
      simp (disch := first | omega | simp) [pt, ew, hm]
    · rw [if_neg hm]
      simp (disch := first | omega | simp) [m__law_ld_at, b__law_ld_at, ew]
      simp only [Mo.d, hf, fi_t] at e ew ⊢
      simp (disch := first | omega | simp) [pt, ew, hm] at e ⊢
      simp (disch := first | omega | simp) [e, pt]
  · have hd : at_ g m p = (p.1 + m * g.r, p.2 + m * g.u) := by
      unfold at_
      rw [if_neg (by rw [hf]; exact Bool.false_ne_true)]
    rw [hd]
    simp (disch := first | omega | simp) [m__law_ld_at, b__law_ld_at, Mo.d, hf, pt]
end K26


set_option Elab.async false
set_option maxRecDepth 100000
set_option maxHeartbeats 1000000
namespace K26
open PySem PySem.Spec PyProof.Rows L2 FL LamX
variable {QD : Rv → List (List PyData) → Prop} {ED : Str → PyData → List (List PyData) → Prop}
theorem whole_int {i lo hi : Int} : m_whole [.d (.int i), .d (.int lo), .d (.int hi)] = .ret (.sh (.bool (decide (lo ≤ i) && decide (i ≤ hi)))) [] := by
  apply wpD_eq
  by_cases h : lo ≤ i
  · simp [m_whole, b_whole, ty_ii, ty_ib, h, oLe]
  · simp [m_whole, b_whole, ty_ii, ty_ib, h, oLe]
theorem fi_le (f : Bool) : 0 ≤ fi f ∧ fi f ≤ 1 := by cases f <;> simp
theorem made_eq {g : Mo} (h : g.t ≤ 3) (hb : Bd g) : m_made_motion [.d g.d] = .ret (.sh g.d) [] := by
  obtain ⟨⟨b1, b2⟩, b3, b4⟩ := hb
  have hf := fi_le g.f
  have h3 : (g.t : Int) ≤ 3 := by omega
  have e : m_bad_motion [.d g.d, .d (.bool false)] = .ret (.sh .none) [] := by
    apply wpD_eq
    simp [m_bad_motion, b_bad_motion, Mo.d, enumD, wp_for_cons, wp_for_nil, p_bad_motion_1, p_bad_motion_2, whole_int, hf.1, hf.2, h3, b1, b2, b3, b4]
  apply wpD_eq
  simp [m_made_motion, b_made_motion, e]
  simp [Mo.d]
/-- a dot within the bounds -/
def Pd (p : Int × Int) : Prop := (-1000000 ≤ p.1 ∧ p.1 ≤ 1000000) ∧ (-1000000 ≤ p.2 ∧ p.2 ≤ 1000000)
theorem asked_eq {p : Int × Int} (h : Pd p) : m_asked_dot [.d (pt p)] = .ret (.sh (pt p)) [] := by
  obtain ⟨⟨b1, b2⟩, b3, b4⟩ := h
  have e : m_bad_dot [.d (pt p)] = .ret (.sh .none) [] := by
    apply wpD_eq
    simp [m_bad_dot, b_bad_dot, pt, wp_for_cons, wp_for_nil, p_bad_dot_1, whole_int, b1, b2, b3, b4]
  apply wpD_eq
  simp [m_asked_dot, b_asked_dot, e]
  simp [pt]
theorem rs_fits {g : Mo} (h : Rn g) (hb : Bd g) {i : Int} : DivFits i (rs g) := by
  have h1 := rs_pos h
  have h2 := rs_bd h hb
  refine .wide h1 ?_
  have : (rs g).natAbs.log2 < 60 := by
    rw [Nat.log2_lt (by omega)]
    have : (2 : Nat) ^ 60 = 1152921504606846976 := by decide
    omega
  omega
theorem rlead_eq {g : Mo} {p : Int × Int} (h : Rn g) (hb : Bd g) : m_running_lead [.d g.d, .d (.int p.1), .d (.int p.2)] = .ret (.sh (.tuple [.int (at_ g (-(nm_ g p)) p).1, .int (at_ g (-(nm_ g p)) p).2, .int (nm_ g p)])) [] := by
  have b := wy_bd h.t hb
  have e1 := raw_way_eq g h.t
  have e2 := level_eq (p := p) b
  have e3 := rise_eq (g := g) b
  have hd := rs_fits h hb (i := lv (wy g) p)
  have hp := rs_pos h
  obtain ⟨k, e4, hk, hk2⟩ := far_spec g (-(nm_ g p)) h.t
  have e5 := spun_eq k p hk
  rw [hk2, pwr_eq h] at e5
  change DivFits _ (lv (wy g) (g.r, g.u)) at hd
  change 0 < lv (wy g) (g.r, g.u) at hp
  have hn : nm_ g p = lv (wy g) p / lv (wy g) (g.r, g.u) := rfl
  rw [hn] at e4 e5 ⊢
  apply wpD_eq
  simp [m_running_lead, b_running_lead, e1, e2, e3, hd, hp, e4, e5, FL.fdv_pos hp]
  simp [pt]
theorem lead_run {g : Mo} {p : Int × Int} (h : Rn g) (hb : Bd g) (hp : Pd p) : m_lead [.d g.d, .d (pt p)] = .ret (.sh (.tuple [pt (at_ g (-(nm_ g p)) p), .int (nm_ g p)])) [] := by
  have e1 := made_eq h.t hb
  have e2 := asked_eq hp
  have e3 : m_lead_of [.d g.d, .d (.int p.1), .d (.int p.2)] = .ret (.sh (.tuple [.int (at_ g (-(nm_ g p)) p).1, .int (at_ g (-(nm_ g p)) p).2, .int (nm_ g p)])) [] := by
    apply wpD_eq
    simp [m_lead_of, b_lead_of, runs_eq g h.t, h.w, rlead_eq h hb]
  apply wpD_eq
  simp [m_lead, b_lead, e1, e2]
  simp [pt, e3]
theorem told_run {g : Mo} {p : Int × Int} (h : Rn g) (hb : Bd g) (hp : Pd p) : m__law_ld_lead [.d g.d, .d (pt p)] = .ret (.sh (.tuple [.str "told", .tuple [pt (at_ g (-(nm_ g p)) p), .int (nm_ g p)]])) [] := by
  apply wpD_eq
  simp [m__law_ld_lead, b__law_ld_lead, lead_run h hb hp]
theorem first_eq {g : Mo} {p : Int × Int} (h : Rn g) (hb : Bd g) : m__law_ld_first [.d g.d, .d (pt p)] = .ret (.sh (.tuple [pt (at_ g (-(nm_ g p)) p), .int (nm_ g p)])) [] := by
  have b := wy_bd h.t hb
  have e1 := way_of_eq g h.t h.tf
  have e2 := lev_eq (p := p) b
  have e3 := rsof_eq h hb
  have hd := rs_fits h hb (i := lv (wy g) p)
  have hp := rs_pos h
  have e4 := at_eq (m := -(nm_ g p)) (p := p) h hb
  have hn : nm_ g p = lv (wy g) p / rs g := rfl
  rw [hn] at e4 ⊢
  simp only [pt] at e4
  apply wpD_eq
  simp [m__law_ld_first, b__law_ld_first, e1, pt]
  simp only [pt] at e2
  simp [e2, e3, hd, FL.fdv_pos hp, e4]
theorem in_eq (p : Int × Int) : m__law_ld_in [.d (pt p)] = .ret (.sh (.bool (decide ((-1000000 ≤ p.1 ∧ p.1 ≤ 1000000) ∧ (-1000000 ≤ p.2 ∧ p.2 ≤ 1000000))))) [] := by
  apply wpD_eq
  simp [m__law_ld_in, b__law_ld_in, pt, oLe]
  rw [Bool.eq_iff_iff]
  simp
  split <;> split <;> split <;> omega
end K26


set_option Elab.async false
set_option maxRecDepth 100000
set_option maxHeartbeats 1000000
namespace K26
open PySem PySem.Spec PyProof.Rows L2 FL LamX
variable {QD : Rv → List (List PyData) → Prop} {ED : Str → PyData → List (List PyData) → Prop}
/-! ### the same (written by tmpl.py) -/
@[simp] theorem oIsB_app {a b : Bool} : oIsB (.bool a) (.bool b) = some (.sh (.bool (decide (a = b)))) := rfl
theorem is_whole_int {i : Int} : m__law_yq_is_whole [.d (.int i)] = .ret (.sh (.bool true)) [] := by
  apply wpD_eq
  simp [m__law_yq_is_whole, b__law_yq_is_whole, ty_ii, ty_ib]
theorem same_all : ∀ (n : Nat) (d : PyData), okD n d → m__law_yq_same (n + 1) [.d d, .d d] = .ret (.sh (.bool true)) [] := by
  have flat : ∀ (n m : Nat) (d : PyData), flatD d = true → okD m d → m__law_yq_same (n + 1) [.d d, .d d] = .ret (.sh (.bool true)) [] := by
    intro n m d hf h
    apply wpD_eq
    rw [m__law_yq_same]
    cases d with
    | none => simp [b__law_yq_same]
    | bool b => cases b <;> simp [b__law_yq_same]
    | int b => simp [b__law_yq_same, is_whole_int]
    | str b =>
      have h' : PyData.canLay0 (.str b) = true := by cases m <;> exact h
      have e : oEq (.str b) (.str b) = some (.sh (.bool true)) := by
        rw [oEq, if_pos ⟨shp_str h', shp_str h'⟩]
        simp [PyData.eqv]
      simp [b__law_yq_same, e]
    | list b => cases hf
    | tuple b => cases hf
    | dict b => cases hf
  intro n
  induction n with
  | zero =>
    intro d h
    cases d with
    | list b => exact h.elim
    | tuple b => exact h.elim
    | dict b => exact h.elim
    | none => exact flat 0 0 _ rfl h
    | bool b => exact flat 0 0 _ rfl h
    | int b => exact flat 0 0 _ rfl h
    | str b => exact flat 0 0 _ rfl h
  | succ n ih =>
    have key : ∀ (ds : List PyData), (∀ d ∈ ds, okD n d) → ds.length ≤ 1000000 → ∀ (mk : List PyData → PyData) (hmk : ∀ es i, oIx (mk es) (.int i) = (L2.atI es i).map .sh) (fr0 : FL.Fr) (Q : Fl → FL.Fr → Prop) (E : Str → PyData → FL.Fr → Prop), (∀ a : Option PyData, Q .nx (relock fr0 [.sh (mk ds), .sh (mk ds), jk a])) →
        wp (rlR fr0 (forL (FL.stM 2) (p__law_yq_same_1 (m__law_yq_same (n + 1))) (rngD 0 ds.length) [.sh (mk ds), .sh (mk ds), .no])) Q E := by
      intro ds hd hl mk hmk fr0 Q E hq
      refine wp_for (fun k fr => ∃ a, fr = [.sh (mk ds), .sh (mk ds), jk a]) ⟨none, rfl⟩ ?_ ?_
      · rintro k hk fr' ⟨a, rfl⟩
        have hk' : k < ds.length := by simpa using hk
        simp [p__law_yq_same_1, hmk, FL.atI_nat hk', ih _ (hd _ (List.getElem_mem hk'))]
        exact ⟨some (.int k), rfl⟩
      · rintro fr' ⟨a, rfl⟩
        exact hq a
    intro d h
    cases d with
    | list b =>
      have k := key b h.2 h.1 .list (fun _ _ => rfl)
      apply wpD_eq
      rw [m__law_yq_same]
      simp [b__law_yq_same, rgN h.1]
      refine k _ _ _ fun a => ?_
      simp
    | tuple b =>
      have k := key b h.2 h.1 .tuple (fun _ _ => rfl)
      apply wpD_eq
      rw [m__law_yq_same]
      simp [b__law_yq_same, rgN h.1]
      refine k _ _ _ fun a => ?_
      simp
    | dict b => exact h.elim
    | none => exact flat _ (n + 1) _ rfl h
    | bool b => exact flat _ (n + 1) _ rfl h
    | int b => exact flat _ (n + 1) _ rfl h
    | str b => exact flat _ (n + 1) _ rfl h
theorem same_wp {d : PyData} (hd : okD 7 d) (h : QD (.sh (.bool true)) []) : wpD (m__law_yq_same 8 [.d d, .d d]) QD ED := by
  rw [same_all 7 d hd]
  exact h
end K26


set_option Elab.async false
set_option maxRecDepth 100000
set_option maxHeartbeats 2000000
namespace K26
open PySem PySem.Spec PyProof.Rows L2 FL LamX
variable {QD : Rv → List (List PyData) → Prop} {ED : Str → PyData → List (List PyData) → Prop}
theorem small_wp {jar : List PyData} {most : Nat} (hj : J jar) (h1 : most ≤ 10000000) (h : ∀ (z : Int) jar', -(most : Int) ≤ z → z ≤ most → J jar' → QD (.sh (.int z)) [jar']) : wpD (m__law_small [.io jar, .d (.int most)]) QD ED := by
  simp [m__law_small, b__law_small]
  refine take_wp hj (by omega) (by omega) fun r jar' hr hj' => ?_
  simp
  exact h _ jar' (by omega) (by omega) hj'
theorem rn_f {r u : Int} (h : r ≠ 0 ∨ u ≠ 0) : Rn ⟨0, false, r, u⟩ := ⟨by simp, by simp [wy]; omega⟩
theorem rn_0 {r u : Int} (h : r ≠ 0) : Rn ⟨0, true, r, u⟩ := ⟨by simp, by simp [wy, jo, Mo.act, rt]; omega⟩
theorem rn_1 {r u : Int} (h : r + u ≠ 0) : Rn ⟨1, true, r, u⟩ := ⟨by simp, by simp [wy, jo, Mo.act, rt]; omega⟩
theorem rn_2 {r u : Int} (h : u ≠ 0) : Rn ⟨2, true, r, u⟩ := ⟨by simp, by simp [wy, jo, Mo.act, rt]; omega⟩
theorem rn_3 {r u : Int} (h : r - u ≠ 0) : Rn ⟨3, true, r, u⟩ := ⟨by simp, by simp [wy, jo, Mo.act, rt]; omega⟩
theorem running_wp {jar : List PyData} (hj : J jar) (h : ∀ g jar', Rn g → Bd g → J jar' → QD (.sh g.d) [jar']) : wpD (m__law_ld_running [.io jar]) QD ED := by
  simp [m__law_ld_running, b__law_ld_running]
  refine one_wp hj (by simp) (by simp) fun x jar1 hx hj1 => ?_
  obtain ⟨far, rfl, f0, f1, f2⟩ : ∃ far : Int, x = .int far ∧ far ≠ 0 ∧ -1000000 ≤ far ∧ far ≤ 1000000 := by
    simp at hx
    rcases hx with rfl | rfl | rfl | rfl | rfl | rfl | rfl | rfl | rfl <;> exact ⟨_, rfl, by omega, by omega, by omega⟩
  simp
  refine small_wp (most := 9) hj1 (by omega) fun off jar2 o1 o2 hj2 => ?_
  simp
  refine one_wp hj2 (by simp) (by simp) fun x jar3 hx hj3 => ?_
  simp
  simp at hx
  rcases hx with rfl | rfl | rfl | rfl | rfl | rfl | rfl | rfl | rfl | rfl
  · exact h ⟨0, false, far, off⟩ jar3 (rn_f (.inl f0)) ⟨⟨by dsimp only; omega, by dsimp only; omega⟩, by dsimp only; omega, by dsimp only; omega⟩ hj3
  · exact h ⟨0, false, off, far⟩ jar3 (rn_f (.inr f0)) ⟨⟨by dsimp only; omega, by dsimp only; omega⟩, by dsimp only; omega, by dsimp only; omega⟩ hj3
  · exact h ⟨0, true, far, off⟩ jar3 (rn_0 f0) ⟨⟨by dsimp only; omega, by dsimp only; omega⟩, by dsimp only; omega, by dsimp only; omega⟩ hj3
  · exact h ⟨2, true, off, far⟩ jar3 (rn_2 f0) ⟨⟨by dsimp only; omega, by dsimp only; omega⟩, by dsimp only; omega, by dsimp only; omega⟩ hj3
  · exact h ⟨1, true, far, 0⟩ jar3 (rn_1 (by omega)) ⟨⟨by dsimp only; omega, by dsimp only; omega⟩, by dsimp only; omega, by dsimp only; omega⟩ hj3
  · exact h ⟨3, true, far, 0⟩ jar3 (rn_3 (by omega)) ⟨⟨by dsimp only; omega, by dsimp only; omega⟩, by dsimp only; omega, by dsimp only; omega⟩ hj3
  · exact h ⟨0, false, far, far⟩ jar3 (rn_f (.inl f0)) ⟨⟨by dsimp only; omega, by dsimp only; omega⟩, by dsimp only; omega, by dsimp only; omega⟩ hj3
  · exact h ⟨1, true, 0, far⟩ jar3 (rn_1 (by omega)) ⟨⟨by dsimp only; omega, by dsimp only; omega⟩, by dsimp only; omega, by dsimp only; omega⟩ hj3
  · exact h ⟨3, true, 0, far⟩ jar3 (rn_3 (by omega)) ⟨⟨by dsimp only; omega, by dsimp only; omega⟩, by dsimp only; omega, by dsimp only; omega⟩ hj3
  · exact h ⟨0, false, far, 0⟩ jar3 (rn_f (.inl f0)) ⟨⟨by dsimp only; omega, by dsimp only; omega⟩, by dsimp only; omega, by dsimp only; omega⟩ hj3
theorem rn_ba {g : Mo} (h : Rn g) : Rn (ba g) := by
  refine ⟨ba_t g h.t, ?_⟩
  have ht := h.t
  have hw := h.w
  rcases h.tf with hf | ⟨hf, h0⟩
  · obtain ⟨t, f, r, u⟩ := g
    dsimp only at ht hf
    subst hf
    rcases cases4 ht with rfl | rfl | rfl | rfl <;> simp [wy, jo, ba, Mo.act, rt] at hw ⊢ <;> omega
  · obtain ⟨t, f, r, u⟩ := g
    dsimp only at ht hf h0
    subst hf h0
    simp [wy, jo, ba, Mo.act, rt] at hw ⊢
    omega
theorem rn_2p {g : Mo} (h : Rn g) : Rn (jo g g) := by
  refine ⟨jo_t g g, ?_⟩
  have ht := h.t
  have hw := h.w
  rcases h.tf with hf | ⟨hf, h0⟩
  · obtain ⟨t, f, r, u⟩ := g
    dsimp only at ht hf
    subst hf
    rcases cases4 ht with rfl | rfl | rfl | rfl <;> simp [wy, jo, ba, Mo.act, rt] at hw ⊢ <;> omega
  · obtain ⟨t, f, r, u⟩ := g
    dsimp only at ht hf h0
    subst hf h0
    simp [wy, jo, ba, Mo.act, rt] at hw ⊢
    omega
theorem rn_3p {g : Mo} (h : Rn g) : Rn (jo g (jo g g)) := by
  refine ⟨jo_t g _, ?_⟩
  have ht := h.t
  have hw := h.w
  rcases h.tf with hf | ⟨hf, h0⟩
  · obtain ⟨t, f, r, u⟩ := g
    dsimp only at ht hf
    subst hf
    rcases cases4 ht with rfl | rfl | rfl | rfl <;> simp [wy, jo, ba, Mo.act, rt] at hw ⊢ <;> omega
  · obtain ⟨t, f, r, u⟩ := g
    dsimp only at ht hf h0
    subst hf h0
    simp [wy, jo, ba, Mo.act, rt] at hw ⊢
    omega
theorem told_at {g : Mo} {m : Int} {q : Int × Int} (h : Rn g) (hb : Bd g) (h0 : nm_ g q = 0) (hp : Pd (at_ g m q)) : m__law_ld_lead [.d g.d, .d (pt (at_ g m q))] = .ret (.sh (.tuple [.str "told", .tuple [pt q, .int m]])) [] := by
  have e := told_run h hb hp
  rw [nm_at h, h0, at_add h, show -(0 + m) + m = 0 by omega, at_zero, Int.zero_add] at e
  exact e
theorem ok_told {q : Int × Int} {m : Int} : okD 7 (.tuple [.str "told", .tuple [pt q, .int m]]) := by simp [okD, pt, lay_told]
end K26


set_option Elab.async false
set_option maxRecDepth 100000
set_option maxHeartbeats 2000000
namespace K26
open PySem PySem.Spec PyProof.Rows L2 FL LamX
variable {QD : Rv → List (List PyData) → Prop} {ED : Str → PyData → List (List PyData) → Prop}
theorem pt_def (p : Int × Int) : pt p = .tuple [.int p.1, .int p.2] := rfl
theorem in_yes {p : Int × Int} (h : Pd p) : m__law_ld_in [.d (pt p)] = .ret (.sh (.bool true)) [] := by
  have h' : ((-1000000 ≤ p.1 ∧ p.1 ≤ 1000000) ∧ (-1000000 ≤ p.2 ∧ p.2 ≤ 1000000)) := h
  rw [in_eq, decide_eq_true h']
theorem in_no {p : Int × Int} (h : ¬ Pd p) : m__law_ld_in [.d (pt p)] = .ret (.sh (.bool false)) [] := by
  have h' : ¬ ((-1000000 ≤ p.1 ∧ p.1 ≤ 1000000) ∧ (-1000000 ≤ p.2 ∧ p.2 ≤ 1000000)) := h
  rw [in_eq, decide_eq_false h']
theorem base_wp {jar : List PyData} (hj : J jar) (k : ∀ (p : Int × Int) jar', Pd p → J jar' → QD (.sh (pt p)) [jar']) {a b c : Int} (ha : -9 ≤ a ∧ a ≤ 9) (hb : -9 ≤ b ∧ b ≤ 9) (hc : -1000000 ≤ c ∧ c ≤ 1000000) :
    wpD (m__law_one [.io jar, .d (.list [.tuple [.int a, .int b], .tuple [.int 1000000, .int c], .tuple [.int (-1000000), .int 1000000]])]) QD ED := by
  refine one_wp hj (by simp) (by simp) fun x jar1 hx hj1 => ?_
  simp at hx
  rcases hx with rfl | rfl | rfl
  · exact k (a, b) jar1 ⟨⟨by dsimp only; omega, by dsimp only; omega⟩, by dsimp only; omega, by dsimp only; omega⟩ hj1
  · exact k (1000000, c) jar1 ⟨⟨by dsimp only; omega, by dsimp only; omega⟩, by dsimp only; omega, by dsimp only; omega⟩ hj1
  · exact k (-1000000, 1000000) jar1 ⟨⟨by dsimp only; omega, by dsimp only; omega⟩, by dsimp only; omega, by dsimp only; omega⟩ hj1
theorem running_right_wp {jar : List PyData} (hj : J jar) (hq : ∀ jar', J jar' → QD (.sh (.bool true)) [jar']) : wpD (m__law_ld_running_right [.io jar]) QD ED := by
  simp [m__law_ld_running_right, b__law_ld_running_right]
  refine running_wp hj fun g jar1 hg hb hj1 => ?_
  simp
  refine small_wp (most := 9) hj1 (by omega) fun a jar2 a1 a2 hj2 => ?_
  simp
  refine small_wp (most := 9) hj2 (by omega) fun b jar3 b1 b2 hj3 => ?_
  simp
  refine small_wp (most := 1000000) hj3 (by omega) fun c jar4 c1 c2 hj4 => ?_
  simp
  refine base_wp hj4 (fun p jar5 hp hj5 => ?_) ⟨a1, a2⟩ ⟨b1, b2⟩ ⟨c1, c2⟩
  simp [first_eq hg hb]
  generalize hn : nm_ g p = n
  generalize hqq : at_ g (-n) p = q
  have h0 : nm_ g q = 0 := by
    rw [← hqq, ← hn]
    exact nm_lead hg p
  refine small_wp (most := 30) hj5 (by omega) fun w1 jar6 _ _ hj6 => ?_
  simp
  refine small_wp (most := 1000) hj6 (by omega) fun w2 jar7 _ _ hj7 => ?_
  simp
  refine small_wp (most := 2000000) hj7 (by omega) fun w3 jar8 _ _ hj8 => ?_
  simp
  generalize hz : [PyData.int 0, .int 1, .int (-1), .int 2, .int w1, .int w2, .int w3, .int (-n)] = ways
  have hways : ∀ x ∈ ways, ∃ z : Int, x = .int z := by
    subst hz
    intro x hx
    simp at hx
    rcases hx with rfl | rfl | rfl | rfl | rfl | rfl | rfl | rfl <;> exact ⟨_, rfl⟩
  generalize hsome : [PyData.tuple [.int a, .int b], .tuple [.int 1000000, .int c]] = some2
  refine wp_for (fun k fr => ∃ a7 a8, fr = [.li true false jar8, .sh g.d, .li false false some2, .sh (pt p), .sh (pt q), .sh (.int n), .li false true ways, jk a7, jk a8, .no, .no]) ⟨none, none, rfl⟩ ?_ ?_
  · rintro k hk fr' ⟨a7, a8, rfl⟩
    obtain ⟨z, e⟩ := hways ways[k] (List.getElem_mem hk)
    have ea := at_eq (m := n + z) (p := q) hg hb
    rw [e]
    by_cases hpd : Pd (at_ g (n + z) q)
    · have et := told_at hg hb h0 hpd
      have ei' := in_yes hpd
      simp [p__law_ld_running_right_1, ea, ei', et]
      refine same_wp ok_told ?_
      simp
      exact ⟨some (.int z), some (pt (at_ g (n + z) q)), rfl⟩
    · have ei' := in_no hpd
      simp [p__law_ld_running_right_1, ea, ei']
      exact ⟨some (.int z), some (pt (at_ g (n + z) q)), rfl⟩
  rintro fr' ⟨a7, a8, rfl⟩
  have ew := way_of_eq g hg.t hg.tf
  have el := lev_eq (p := q) (wy_bd hg.t hb)
  have er := rsof_eq hg hb
  have hrp := rs_pos hg
  have hlv : 0 ≤ lv (wy g) q ∧ lv (wy g) q < rs g := by
    unfold nm_ at h0
    have h1 := Int.mul_ediv_add_emod (lv (wy g) q) (rs g)
    rw [h0] at h1
    have h2 := Int.emod_nonneg (lv (wy g) q) (show rs g ≠ 0 by omega)
    have h3 := Int.emod_lt_of_pos (lv (wy g) q) hrp
    omega
  simp only [pt] at ew el
  simp [pt, ew, el, er, hlv.1, hlv.2, oLe, oLt]
  have e1 := back_eq g hg.t
  have e2 := pow2 g hg.t
  have e3 := pow3 g hg.t
  have body : ∀ (h : Mo) (fr0 : FL.Fr) (s7 s8 s10 : Sv) (Q : Fl → FL.Fr → Prop) (E : Str → PyData → FL.Fr → Prop), Rn h → Q .nx [.li true false jar8, .sh g.d, .li false false some2, .sh (pt p), .sh (pt q), .sh (.int n), .li false false ways, s7, s8, s10, .sh h.d] →
      wp (p__law_ld_running_right_2 [.li true false jar8, .sh g.d, .li false false some2, .sh (pt p), .sh (pt q), .sh (.int n), .li false false ways, s7, s8, s10, .sh h.d]) Q E := by
    intro h fr0 s7 s8 s10 Q E hh hQ
    by_cases hpd : Pd (h.r, h.u)
    · have ei := in_yes hpd
      simp only [pt] at ei
      have hbb : Bd h := hpd
      have et := told_run hh hbb hp
      have ef := first_eq (p := p) hh hbb
      simp only [Mo.d] at et ef
      simp [p__law_ld_running_right_2, Mo.d, oSl, ei, et, ef]
      refine same_wp ok_told ?_
      simpa [Mo.d] using hQ
    · have ei := in_no hpd
      simp only [pt] at ei
      simp [p__law_ld_running_right_2, Mo.d, oSl, ei]
      simpa [Mo.d] using hQ
  simp only [pt] at body
  simp [e1, e2, e3, -wp_for_cons]
  rw [wp_for_cons]
  simp
  refine body (ba g) [] _ _ _ _ _ (rn_ba hg) ?_
  dsimp only
  rw [wp_for_cons]
  simp
  refine body (jo g g) [] _ _ _ _ _ (rn_2p hg) ?_
  dsimp only
  rw [wp_for_cons]
  simp
  refine body (jo g (jo g g)) [] _ _ _ _ _ (rn_3p hg) ?_
  dsimp only
  rw [wp_for_nil]
  simp
  exact hq jar8 hj8
end K26


set_option Elab.async false
set_option maxRecDepth 100000
set_option maxHeartbeats 2000000
namespace K26
open PySem PySem.Spec PyProof.Rows L2 FL LamX
variable {QD : Rv → List (List PyData) → Prop} {ED : Str → PyData → List (List PyData) → Prop}
/-! ### the least of some pairs -/
theorem ltP_irr (p : Int × Int) : ltP p p = false := by simp [FL.ltP]
theorem ltP_iff {p q : Int × Int} : ltP p q = true ↔ p.1 < q.1 ∨ (p.1 = q.1 ∧ p.2 < q.2) := by simp [FL.ltP]
theorem ltP_asym {p q : Int × Int} (h1 : ltP p q = false) (h2 : ltP q p = false) : p = q := by
  have h1' : ¬ (p.1 < q.1 ∨ (p.1 = q.1 ∧ p.2 < q.2)) := fun z => by rw [ltP_iff.mpr z] at h1; cases h1
  have h2' : ¬ (q.1 < p.1 ∨ (q.1 = p.1 ∧ q.2 < p.2)) := fun z => by rw [ltP_iff.mpr z] at h2; cases h2
  exact Prod.ext (by omega) (by omega)
theorem minP_mem : ∀ (ps : List (Int × Int)) (p : Int × Int), minP p ps ∈ p :: ps
  | [], p => by simp [minP]
  | q :: r, p => by
    show minP (if ltP q p = true then q else p) r ∈ _
    have := minP_mem r (if ltP q p = true then q else p)
    rcases List.mem_cons.mp this with e | e
    · rw [e]
      split <;> simp
    · simp [e]
theorem ltP_tr {p q m : Int × Int} (h1 : ltP q p = false) (h2 : ltP p m = false) : ltP q m = false := by
  refine Bool.eq_false_iff.mpr fun z => ?_
  have z' := ltP_iff.mp z
  have h1' : ¬ (q.1 < p.1 ∨ (q.1 = p.1 ∧ q.2 < p.2)) := fun z => by rw [ltP_iff.mpr z] at h1; cases h1
  have h2' : ¬ (p.1 < m.1 ∨ (p.1 = m.1 ∧ p.2 < m.2)) := fun z => by rw [ltP_iff.mpr z] at h2; cases h2
  omega
theorem minP_le : ∀ (ps : List (Int × Int)) (p : Int × Int), ∀ q ∈ p :: ps, ltP q (minP p ps) = false
  | [], p, q, hq => by
    rw [List.mem_singleton.mp hq]
    exact ltP_irr p
  | x :: r, p, q, hq => by
    show ltP q (minP (if ltP x p = true then x else p) r) = false
    have ih := minP_le r (if ltP x p = true then x else p)
    have h0 := ih _ List.mem_cons_self
    by_cases hx : ltP x p = true
    · rw [if_pos hx] at ih h0 ⊢
      rcases List.mem_cons.mp hq with e | e
      · subst e
        refine ltP_tr (p := x) ?_ h0
        refine Bool.eq_false_iff.mpr fun z => ?_
        have := ltP_iff.mp z
        have := ltP_iff.mp hx
        omega
      · exact ih q (by simpa using e)
    · rw [if_neg hx] at ih h0 ⊢
      rcases List.mem_cons.mp hq with e | e
      · subst e; exact h0
      · rcases List.mem_cons.mp e with e | e
        · subst e
          exact ltP_tr (Bool.eq_false_iff.mpr hx) h0
        · exact ih q (by simp [e])
theorem minP_same {p p' : Int × Int} {ps ps' : List (Int × Int)} (h : ∀ q, q ∈ p :: ps ↔ q ∈ p' :: ps') : minP p ps = minP p' ps' :=
  ltP_asym (minP_le _ _ _ ((h _).mp (minP_mem _ _))) (minP_le _ _ _ ((h _).mpr (minP_mem _ _)))
/-! ### motions that stand -/
structure St (g : Mo) : Prop where
  t : g.t ≤ 3
  w : wy g = (0, 0)
def od (g : Mo) : Nat := if g.f then 2 else if g.t = 2 then 2 else if g.t = 0 then 1 else 4
theorem od_id {g : Mo} (h : St g) (p : Int × Int) : itr g.act (od g) p = p := by
  have ht := h.t
  have hw := h.w
  obtain ⟨t, f, r, u⟩ := g
  obtain ⟨x, y⟩ := p
  dsimp only at ht
  rcases cases4 ht with rfl | rfl | rfl | rfl <;> cases f <;> simp [wy, jo, Mo.act, rt] at hw <;> simp [od, itr, Mo.act, rt] <;> omega
theorem od_cases (g : Mo) : od g = 1 ∨ od g = 2 ∨ od g = 4 := by
  unfold od
  split
  · simp
  · split
    · simp
    · split <;> simp
theorem itr_add (f : Int × Int → Int × Int) (p : Int × Int) (m : Nat) : ∀ n : Nat, itr f (n + m) p = itr f n (itr f m p)
  | 0 => by simp [itr]
  | n + 1 => by
    rw [show n + 1 + m = (n + m) + 1 by omega]
    show f (itr f (n + m) p) = f (itr f n (itr f m p))
    rw [itr_add f p m n]
theorem per4 {g : Mo} (h : St g) (p : Int × Int) : itr g.act 4 p = p := by
  have e := od_id h
  rcases od_cases g with o | o | o <;> rw [o] at e
  · show g.act (g.act (g.act (g.act p))) = p
    have e1 : ∀ p, g.act p = p := e
    rw [e1, e1, e1, e1]
  · have e2 : ∀ p, g.act (g.act p) = p := e
    show g.act (g.act (g.act (g.act p))) = p
    rw [e2, e2]
  · exact e p
theorem itr_mod {g : Mo} (h : St g) (p : Int × Int) (n : Nat) : itr g.act (n % 4) p = itr g.act n p := by
  have key : ∀ k m : Nat, itr g.act (4 * k + m) p = itr g.act m p := by
    intro k
    induction k with
    | zero => intro m; rw [Nat.mul_zero, Nat.zero_add]
    | succ k ih =>
      intro m
      rw [show 4 * (k + 1) + m = 4 + (4 * k + m) by omega, itr_add, per4 h, ih]
  have := key (n / 4) (n % 4)
  rw [show 4 * (n / 4) + n % 4 = n by omega] at this
  exact this.symm
/-- the least of a round -/
def mn (g : Mo) (p : Int × Int) : Int × Int := minP p [itr g.act 1 p, itr g.act 2 p, itr g.act 3 p]
theorem mn_act {g : Mo} (h : St g) (p : Int × Int) : mn g (g.act p) = mn g p := by
  have e := per4 h p
  refine minP_same fun q => ?_
  simp only [itr] at e ⊢
  simp only [e, List.mem_cons, List.not_mem_nil, or_false]
  constructor <;> (intro z; rcases z with z | z | z | z <;> simp [z])
theorem mn_itr {g : Mo} (h : St g) (p : Int × Int) : ∀ n : Nat, mn g (itr g.act n p) = mn g p
  | 0 => rfl
  | n + 1 => by
    show mn g (g.act (itr g.act n p)) = _
    rw [mn_act h, mn_itr h p n]
/-- it is met within the round -/
theorem mn_at (g : Mo) (p : Int × Int) : ∃ n : Nat, n < 4 ∧ itr g.act n p = mn g p := by
  have := minP_mem [itr g.act 1 p, itr g.act 2 p, itr g.act 3 p] p
  simp only [List.mem_cons, List.not_mem_nil, or_false] at this
  rcases this with e | e | e | e
  · exact ⟨0, by omega, e.symm⟩
  · exact ⟨1, by omega, e.symm⟩
  · exact ⟨2, by omega, e.symm⟩
  · exact ⟨3, by omega, e.symm⟩
/-- the least number of times -/
theorem least_n {g : Mo} (h : St g) (p : Int × Int) : ∃ n : Nat, n < 4 ∧ itr g.act n (mn g p) = p ∧ ∀ m, m < n → itr g.act m (mn g p) ≠ p := by
  obtain ⟨k, hk, e⟩ := mn_at g p
  have ex : ∃ n, n < 4 ∧ itr g.act n (mn g p) = p := by
    refine ⟨(4 - k) % 4, by omega, ?_⟩
    rw [← e, ← itr_add]
    by_cases h0 : k = 0
    · subst h0; rfl
    · rw [show (4 - k) % 4 + k = 4 by omega, per4 h]
  have h0 := fun (z : itr g.act 0 (mn g p) = p) => z
  by_cases c0 : itr g.act 0 (mn g p) = p
  · exact ⟨0, by omega, c0, fun m hm => by omega⟩
  by_cases c1 : itr g.act 1 (mn g p) = p
  · exact ⟨1, by omega, c1, fun m hm => by rw [show m = 0 by omega]; exact c0⟩
  by_cases c2 : itr g.act 2 (mn g p) = p
  · exact ⟨2, by omega, c2, fun m hm => by
      rcases (show m = 0 ∨ m = 1 by omega) with rfl | rfl
      · exact c0
      · exact c1⟩
  obtain ⟨n, hn, en⟩ := ex
  rcases cases4 (show n ≤ 3 by omega) with rfl | rfl | rfl | rfl
  · exact absurd en c0
  · exact absurd en c1
  · exact absurd en c2
  · exact ⟨3, by omega, en, fun m hm => by
      rcases (show m = 0 ∨ m = 1 ∨ m = 2 by omega) with rfl | rfl | rfl
      · exact c0
      · exact c1
      · exact c2⟩
/-- the least of the dots that are met -/
def met (g : Mo) (p : Int × Int) (n : Nat) : List (Int × Int) := (List.range n).map fun i => itr g.act i p
theorem met_min {g : Mo} (h : St g) (p : Int × Int) : ∃ q qs, met g p (od g) = q :: qs ∧ minP q qs = mn g p := by
  have e := od_id h
  rcases od_cases g with o | o | o <;> rw [o] at e
  · have e1 : ∀ p, g.act p = p := e
    refine ⟨p, [], by rw [o]; rfl, minP_same fun q => ?_⟩
    simp [itr, e1]
  · have e2 : ∀ p, g.act (g.act p) = p := e
    refine ⟨p, [itr g.act 1 p], by rw [o]; rfl, minP_same fun q => ?_⟩
    simp only [itr, e2, List.mem_cons, List.not_mem_nil, or_false]
    constructor
    · rintro (z | z) <;> simp [z]
    · rintro (z | z | z | z) <;> simp [z]
  · exact ⟨p, [itr g.act 1 p, itr g.act 2 p, itr g.act 3 p], by rw [o]; rfl, rfl⟩
end K26


set_option Elab.async false
set_option maxRecDepth 100000
set_option maxHeartbeats 2000000
namespace K26
open PySem PySem.Spec PyProof.Rows L2 FL LamX
variable {QD : Rv → List (List PyData) → Prop} {ED : Str → PyData → List (List PyData) → Prop}
theorem raw_order_eq {g : Mo} (h : St g) : m_raw_order [.d g.d] = .ret (.sh (.int (od g))) [] := by
  have e := runs_eq g h.t
  have hw := h.w
  have ht := h.t
  obtain ⟨t, f, r, u⟩ := g
  dsimp only at ht
  simp only [Mo.d, hw] at e
  apply wpD_eq
  rcases cases4 ht with rfl | rfl | rfl | rfl <;> cases f <;> simp at e <;> simp [m_raw_order, b_raw_order, Mo.d, e, od]
theorem oMinA_pairs {q : Int × Int} {qs : List (Int × Int)} : oMinA [.list ((q :: qs).map pD)] = some (.sh (pD (minP q qs))) := by
  have e := pairsOf_map (q :: qs)
  rw [List.map_cons] at e ⊢
  unfold oMinA
  dsimp only
  rw [e]
theorem pt_pD (p : Int × Int) : pt p = pD p := rfl
theorem met_succ (g : Mo) (p : Int × Int) (k : Nat) : (met g p k).map pt ++ [pt (itr g.act k p)] = (met g p (k + 1)).map pt := by
  simp [met, List.range_succ]
theorem met_len (g : Mo) (p : Int × Int) (k : Nat) : (met g p k).length = k := by simp [met]
theorem lead_std_of {g : Mo} {p : Int × Int} {n : Nat} (h : St g) (hn : n < 4) (h1 : itr g.act n (mn g p) = p) (h2 : ∀ m, m < n → itr g.act m (mn g p) ≠ p) :
    m_lead_of [.d g.d, .d (.int p.1), .d (.int p.2)] = .ret (.sh (.tuple [.int (mn g p).1, .int (mn g p).2, .int n])) [] := by
  have er := runs_eq g h.t
  have eo := raw_order_eq h
  rw [h.w] at er
  have ho : od g ≤ 4 := by rcases od_cases g with o | o | o <;> omega
  obtain ⟨q, qs, em, eq⟩ := met_min h p
  have emin : oMinA [.list ((met g p (od g)).map pt)] = some (.sh (pt (mn g p))) := by
    rw [em, show (pt : Int × Int → PyData) = pD from rfl, oMinA_pairs, eq]
  apply wpD_eq
  simp at er
  simp [m_lead_of, b_lead_of, er, eo, rgN (show od g ≤ 1000000 by omega)]
  refine wp_for (fun k fr => ∃ a, k ≤ 4 ∧ fr = [.sh g.d, .sh (.int p.1), .sh (.int p.2), .li false false ((met g p k).map pt), .sh (pt (itr g.act k p)), jk a, .no, .no]) ⟨none, by omega, rfl⟩ ?_ ?_
  · rintro k hk fr' ⟨a, hk4, rfl⟩
    rw [rngD_len] at hk
    have es := spun_eq g (itr g.act k p) h.t
    have hl : (met g p k).length < sizeLine := by rw [met_len]; exact line_lt (by omega)
    have e2 := met_succ g p k
    have e3 : itr g.act (k + 1) p = g.act (itr g.act k p) := rfl
    rw [← e2, e3] 
    simp only [pt] at es ⊢
    simp [p_lead_of_1, hl, es]
    exact ⟨by omega, some (.int k), rfl⟩
  · rintro fr' ⟨a, hk4, rfl⟩
    rw [rngD_len]
    simp [emin]
    refine wp_while (fun m fr => ∃ i : Nat, m = n - i ∧ i ≤ n ∧ fr = [.sh g.d, .sh (.int p.1), .sh (.int p.2), .li false false ((met g p (od g)).map pt), .sh (pt (itr g.act i (mn g p))), jk a, .sh (pt (mn g p)), .sh (.int i)]) (n := n) ⟨0, by omega, by omega, rfl⟩ ?_
    rintro m fr' ⟨i, rfl, hi, rfl⟩
    by_cases hin : i = n
    · subst hin
      simp [p_lead_of_2, h1, pt]
    · have hne := h2 i (by omega)
      have es := spun_eq g (itr g.act i (mn g p)) h.t
      have hne' : ¬ ((itr g.act i (mn g p)).1 = p.1 ∧ (itr g.act i (mn g p)).2 = p.2) := fun z => hne (Prod.ext z.1 z.2)
      have ei : itr g.act (i + 1) (mn g p) = g.act (itr g.act i (mn g p)) := rfl
      simp only [pt] at es ⊢
      simp [p_lead_of_2, p_lead_of_3, es]
      rw [if_pos (by omega)]
      exact ⟨n - (i + 1), by omega, i + 1, rfl, by omega, by rw [ei]; simp⟩
/-- what lead tells of a standing motion -/
theorem told_std {g : Mo} {p : Int × Int} {n : Nat} (h : St g) (hb : Bd g) (hp : Pd p) (hn : n < 4) (h1 : itr g.act n (mn g p) = p) (h2 : ∀ m, m < n → itr g.act m (mn g p) ≠ p) :
    m__law_ld_lead [.d g.d, .d (pt p)] = .ret (.sh (.tuple [.str "told", .tuple [pt (mn g p), .int n]])) [] := by
  have e1 := made_eq h.t hb
  have e2 := asked_eq hp
  have e3 := lead_std_of h hn h1 h2
  have e4 : m_lead [.d g.d, .d (pt p)] = .ret (.sh (.tuple [pt (mn g p), .int n])) [] := by
    apply wpD_eq
    simp [m_lead, b_lead, e1, e2]
    simp [pt, e3]
  apply wpD_eq
  simp [m__law_ld_lead, b__law_ld_lead, e4]
end K26


set_option Elab.async false
set_option maxRecDepth 100000
set_option maxHeartbeats 2000000
namespace K26
open PySem PySem.Spec PyProof.Rows L2 FL LamX
variable {QD : Rv → List (List PyData) → Prop} {ED : Str → PyData → List (List PyData) → Prop}
theorem shp_s {s : Str} (h : PyData.canLay0 (.str s) = true) : SeqAt.shaped (.str s) = true := shp_str h
theorem oEq_s {s t : Str} (h : PyData.canLay0 (.str s) = true) (h' : PyData.canLay0 (.str t) = true) : oEq (.str s) (.str t) = some (.sh (.bool (decide (s = t)))) := by
  rw [oEq, if_pos ⟨shp_str h, shp_str h'⟩]
  simp [PyData.eqv]
  exact Bool.eq_iff_iff.mpr (by simp)
theorem standing_wp {jar : List PyData} {most : Nat} (hj : J jar) (hm : most ≤ 100000) (h : ∀ g jar', St g → Bd g → J jar' → QD (.sh g.d) [jar']) : wpD (m__law_standing_motion [.io jar, .d (.int most)]) QD ED := by
  have lr : PyData.canLay0 (.str "rest") = true := by decide +kernel
  have lt : PyData.canLay0 (.str "turn") = true := by decide +kernel
  have lm : PyData.canLay0 (.str "mirror") = true := by decide +kernel
  have ls : PyData.canLay0 (.str "step") = true := by decide +kernel
  have n1 : ¬ (("turn" : Str) = "rest") := by decide +kernel
  have n2 : ¬ (("turn" : Str) = "step") := by decide +kernel
  have n3 : ¬ (("mirror" : Str) = "rest") := by decide +kernel
  have n4 : ¬ (("mirror" : Str) = "step") := by decide +kernel
  have n5 : ¬ (("mirror" : Str) = "turn") := by decide +kernel
  simp [m__law_standing_motion, b__law_standing_motion]
  refine one_wp hj (by simp) (by simp) fun x jar1 hx hj1 => ?_
  have kinds : x = .str "rest" ∨ x = .str "turn" ∨ x = .str "mirror" := by
    simpa using hx
  simp [m__law_motion_by, b__law_motion_by]
  refine small_wp hj1 (by omega) fun a jar2 a1 a2 hj2 => ?_
  simp
  refine small_wp hj2 (by omega) fun b jar3 b1 b2 hj3 => ?_
  rcases kinds with rfl | rfl | rfl
  · simp [oEq_s lr lr]
    exact h ⟨0, false, 0, 0⟩ jar3 ⟨by simp, by simp [wy]⟩ ⟨⟨by simp, by simp⟩, by simp, by simp⟩ hj3
  · simp [oEq_s lt lr, oEq_s lt ls, oEq_s lt lt, n1, n2]
    refine take_wp hj3 (by omega) (by omega) fun r jar4 hr hj4 => ?_
    simp
    have := h ⟨1 + r, false, a, b⟩ jar4 ⟨by dsimp only; omega, by simp [wy] <;> omega⟩ ⟨⟨by dsimp only; omega, by dsimp only; omega⟩, by dsimp only; omega, by dsimp only; omega⟩ hj4
    simpa [Mo.d] using this
  · simp [oEq_s lm lr, oEq_s lm ls, oEq_s lm lt, n3, n4, n5]
    refine take_wp hj3 (by omega) (by omega) fun r jar4 hr hj4 => ?_
    have hr' : r = 0 ∨ r = 1 ∨ r = 2 ∨ r = 3 := by omega
    have q0 : ∀ {x y z w : PyData}, L2.atI [x, y, z, w] 0 = some x := rfl
    have fin : ∀ c d : Int, (St ⟨r, true, c, d⟩) → (-100000 ≤ c ∧ c ≤ 100000) → (-100000 ≤ d ∧ d ≤ 100000) → QD (.sh (.tuple [.int r, .int 1, .int c, .int d])) [jar4] := fun c d s1 s2 s3 => by
      have := h ⟨r, true, c, d⟩ jar4 s1 ⟨⟨by dsimp only; omega, by dsimp only; omega⟩, by dsimp only; omega, by dsimp only; omega⟩ hj4
      simpa [Mo.d] using this
    by_cases ha : a = 0
    · rcases hr' with rfl | rfl | rfl | rfl
      · simp [ha, oEq_s lm lm]
        exact fin 0 b ⟨by simp, by simp [wy, jo, Mo.act, rt] <;> omega⟩ (by omega) (by omega)
      · simp [ha, oEq_s lm lm]
        exact fin b (-b) ⟨by simp, by simp [wy, jo, Mo.act, rt] <;> omega⟩ (by omega) (by omega)
      · simp [ha, oEq_s lm lm]
        exact fin b 0 ⟨by simp, by simp [wy, jo, Mo.act, rt] <;> omega⟩ (by omega) (by omega)
      · simp [ha, oEq_s lm lm]
        exact fin b b ⟨by simp, by simp [wy, jo, Mo.act, rt] <;> omega⟩ (by omega) (by omega)
    · rcases hr' with rfl | rfl | rfl | rfl
      · simp [ha, oEq_s lm lm]
        exact fin 0 b ⟨by simp, by simp [wy, jo, Mo.act, rt] <;> omega⟩ (by omega) (by omega)
      · simp [ha, oEq_s lm lm]
        exact fin b (-b) ⟨by simp, by simp [wy, jo, Mo.act, rt] <;> omega⟩ (by omega) (by omega)
      · simp [ha, oEq_s lm lm]
        exact fin b 0 ⟨by simp, by simp [wy, jo, Mo.act, rt] <;> omega⟩ (by omega) (by omega)
      · simp [ha, oEq_s lm lm]
        exact fin b b ⟨by simp, by simp [wy, jo, Mo.act, rt] <;> omega⟩ (by omega) (by omega)
end K26


set_option Elab.async false
set_option maxRecDepth 100000
set_option maxHeartbeats 2000000
namespace K26
open PySem PySem.Spec PyProof.Rows L2 FL LamX
variable {QD : Rv → List (List PyData) → Prop} {ED : Str → PyData → List (List PyData) → Prop}
@[simp] theorem oEq_pt {p q : Int × Int} : oEq (pt p) (pt q) = some (.sh (.bool (decide (p = q)))) := by
  rw [pt, pt, oEq_t2]
  congr 3
  rw [Bool.eq_iff_iff]
  simp [Prod.ext_iff]
theorem last1 {x : PyData} : L2.atI [x] (-1) = some x := rfl
theorem last2 {x y : PyData} : L2.atI [x, y] (-1) = some y := rfl
theorem last3 {x y z : PyData} : L2.atI [x, y, z] (-1) = some z := rfl
theorem ptx {p : Int × Int} : oIx (pt p) (.int 0) = some (.sh (.int p.1)) := rfl
theorem pty {p : Int × Int} : oIx (pt p) (.int 1) = some (.sh (.int p.2)) := rfl
theorem least4 {c : Nat → Bool} (h : ∃ n, n < 4 ∧ c n = true) : ∃ n, n < 4 ∧ c n = true ∧ ∀ m, m < n → c m = false := by
  obtain ⟨n, hn, hc⟩ := h
  by_cases c0 : c 0 = true
  · exact ⟨0, by omega, c0, fun m hm => by omega⟩
  by_cases c1 : c 1 = true
  · exact ⟨1, by omega, c1, fun m hm => by rw [show m = 0 by omega]; exact Bool.eq_false_iff.mpr c0⟩
  by_cases c2 : c 2 = true
  · exact ⟨2, by omega, c2, fun m hm => by
      rcases (show m = 0 ∨ m = 1 by omega) with rfl | rfl
      · exact Bool.eq_false_iff.mpr c0
      · exact Bool.eq_false_iff.mpr c1⟩
  rcases cases4 (show n ≤ 3 by omega) with rfl | rfl | rfl | rfl
  · exact absurd hc c0
  · exact absurd hc c1
  · exact absurd hc c2
  · exact ⟨3, by omega, hc, fun m hm => by
      rcases (show m = 0 ∨ m = 1 ∨ m = 2 by omega) with rfl | rfl | rfl
      · exact Bool.eq_false_iff.mpr c0
      · exact Bool.eq_false_iff.mpr c1
      · exact Bool.eq_false_iff.mpr c2⟩
def byN (c : Nat → Bool) (d : PyData) : Bool := match d with
  | .int z => c z.toNat
  | _ => false
theorem rng4 : rngD 0 4 = [.int 0, .int 1, .int 2, .int 3] := by simp [rngD, List.range, List.range.loop]
theorem head_of {c : Nat → Bool} {n : Nat} (hn : n < 4) (h1 : c n = true) (h2 : ∀ m, m < n → c m = false) : ∃ r, (List.filter (byN c) (rngD 0 4)).map id = .int n :: r := by
  rw [rng4]
  rcases cases4 (show n ≤ 3 by omega) with rfl | rfl | rfl | rfl
  · simp only [List.filter_cons, byN, Int.toNat_zero, h1, if_true, List.map_cons]
    exact ⟨_, rfl⟩
  · have e0 := h2 0 (by omega)
    simp only [List.filter_cons, byN, Int.toNat_zero, e0, show (1 : Int).toNat = 1 from rfl, h1, if_true, List.map_cons, Bool.false_eq_true, if_false]
    exact ⟨_, rfl⟩
  · have e0 := h2 0 (by omega)
    have e1 := h2 1 (by omega)
    simp only [List.filter_cons, byN, Int.toNat_zero, e0, e1, show (1 : Int).toNat = 1 from rfl, show (2 : Int).toNat = 2 from rfl, h1, if_true, List.map_cons, Bool.false_eq_true, if_false]
    exact ⟨_, rfl⟩
  · have e0 := h2 0 (by omega)
    have e1 := h2 1 (by omega)
    have e2 := h2 2 (by omega)
    simp only [List.filter_cons, byN, Int.toNat_zero, e0, e1, e2, show (1 : Int).toNat = 1 from rfl, show (2 : Int).toNat = 2 from rfl, show (3 : Int).toNat = 3 from rfl, h1, if_true, List.map_cons, Bool.false_eq_true, if_false]
    exact ⟨_, rfl⟩
theorem head_len {c : Nat → Bool} : ((List.filter (byN c) (rngD 0 4)).map id).length ≤ 4 := by
  rw [List.length_map]
  have := List.length_filter_le (byN c) (rngD 0 4)
  simpa using this
theorem pow4_std {g : Mo} (h : St g) : m__law_power_motion [.d g.d, .d (.int 4)] = .ret (.sh (.tuple [.int 0, .int 0, .int 0, .int 0])) [] := by
  rw [pow4 g h.t, ← ido_eq, mo_ext (jo_t _ _) (show ido.t ≤ 3 by decide) fun p => ?_]
  rw [act_jo _ _ (jo_t g g) (jo_t g g), act_jo g g h.t h.t, act_jo g g h.t h.t, ido_act]
  exact per4 h p
theorem at_head {x : PyData} {r : List PyData} : L2.atI (x :: r) 0 = some x := FL.atI_nat (xs := x :: r) (k := 0) (by simp)
theorem standing_right_wp {jar : List PyData} (hj : J jar) (hq : ∀ jar', J jar' → QD (.sh (.bool true)) [jar']) : wpD (m__law_ld_standing_right [.io jar]) QD ED := by
  simp [m__law_ld_standing_right, b__law_ld_standing_right]
  refine one_wp hj (by simp) (by simp) fun x jar1 hx hj1 => ?_
  obtain ⟨most, rfl, hm⟩ : ∃ most : Nat, x = .int most ∧ most ≤ 100000 := by
    simp at hx
    rcases hx with rfl | rfl | rfl
    · exact ⟨3, rfl, by omega⟩
    · exact ⟨9, rfl, by omega⟩
    · exact ⟨100000, rfl, by omega⟩
  simp
  refine standing_wp hj1 hm fun g jar2 hg hb hj2 => ?_
  simp
  refine small_wp hj2 (by omega) fun x jar3 _ _ hj3 => ?_
  simp
  refine small_wp hj3 (by omega) fun y0 jar4 _ _ hj4 => ?_
  simp
  refine one_wp hj4 (by simp) (by simp) fun yv jar5 hy hj5 => ?_
  obtain ⟨y, rfl⟩ : ∃ y : Int, yv = .int y := by
    simp at hy
    rcases hy with rfl | rfl <;> exact ⟨_, rfl⟩
  have m0 := moved_eq g (x, y) hg.t
  have m1 := moved_eq g (g.act (x, y)) hg.t
  have m2 := moved_eq g (g.act (g.act (x, y))) hg.t
  have rng3 : rngD 0 3 = [.int 0, .int 1, .int 2] := by simp [rngD, List.range, List.range.loop]
  have hxy : PyData.tuple [.int x, .int y] = pt (x, y) := rfl
  simp [rng3, hxy, rng4]
  generalize hp : (x, y) = p at m0 m1 m2
  have hx1 : x = p.1 := by rw [← hp]
  have hy1 : y = p.2 := by rw [← hp]
  rw [wp_for_cons]
  simp [p__law_ld_standing_right_1, last1, ptx, pty, m0]
  rw [wp_for_cons]
  simp [p__law_ld_standing_right_1, last2, ptx, pty, m1]
  rw [wp_for_cons]
  simp [p__law_ld_standing_right_1, last3, ptx, pty, m2]
  rw [wp_for_nil]
  have emin : oMinA [.list [pt p, pt (g.act p), pt (g.act (g.act p)), pt (g.act (g.act (g.act p)))]] = some (.sh (pt (mn g p))) := oMinA_pairs (q := p) (qs := [itr g.act 1 p, itr g.act 2 p, itr g.act 3 p])
  simp [emin]
  generalize hline : [pt p, pt (g.act p), pt (g.act (g.act p)), pt (g.act (g.act (g.act p)))] = line
  have hL : ∀ j : Nat, j < 4 → L2.atI line (j : Int) = some (pt (itr g.act j p)) := by
    intro j hj
    subst hline
    rcases cases4 (show j ≤ 3 by omega) with rfl | rfl | rfl | rfl <;> rfl
  obtain ⟨at1, ha1, ha2, ha3⟩ := least4 (c := fun j => decide (itr g.act j p = mn g p)) (by
    obtain ⟨k, hk, e⟩ := mn_at g p
    exact ⟨k, hk, by simpa using e⟩)
  obtain ⟨r, hr⟩ := head_of ha1 ha2 ha3
  have hlen := head_len (c := fun m => decide (itr g.act m p = mn g p))
  rw [hr] at hlen
  have hline2 : r.length + 1 ≤ sizeLine := line_le (by simp at hlen; omega)
  refine wp_lcP (byN fun m => decide (itr g.act m p = mn g p)) id ?_ ?_
  · intro d hd
    obtain ⟨i, hi, rfl⟩ := mem_rngD hd
    by_cases hc : itr g.act i p = mn g p
    · simp [p__law_ld_standing_right_2, hL i hi, byN, hc]
    · simp [p__law_ld_standing_right_2, hL i hi, byN, hc]
  rw [hr]
  simp [hline2, at_head]
  refine wp_for (fun k fr => ∃ a6 a9 a10 : Option PyData, k ≤ 4 ∧ fr = [.li true false jar5, .sh (.int most), .sh g.d, .sh (.int x), .sh (.int y), .li false false line, jk a6, .sh (pt (mn g p)), .sh (.int at1), jk a9, jk a10, .no]) ⟨some (.int 2), none, none, by omega, rfl⟩ ?_ ?_
  · rintro k hk fr' ⟨a6, a9, a10, _, rfl⟩
    rw [rngD_len] at hk
    have e4 := pow4_std hg
    have hmod : ((at1 : Int) + k) % 4 = (((at1 + k) % 4 : Nat) : Int) := by omega
    have hl1 := hL ((at1 + k) % 4) (by omega)
    have hat : itr g.act at1 p = mn g p := by simpa using ha2
    generalize hq1 : itr g.act ((at1 + k) % 4) p = q at hl1
    have hmn : mn g q = mn g p := by rw [← hq1]; exact mn_itr hg p _
    obtain ⟨n0, hn0, hn1, hn2⟩ := least_n hg q
    have hL2 : ∀ j : Nat, j < 4 → L2.atI line (((at1 + j) % 4 : Nat) : Int) = some (pt (itr g.act j (mn g q))) := by
      intro j hj
      rw [hL _ (by omega), itr_mod hg, Nat.add_comm at1 j, itr_add, hat, hmn]
    obtain ⟨r2, hr2⟩ := head_of (c := fun j => decide (itr g.act j (mn g q) = q)) hn0 (by simpa using hn1) (fun m hm => by simpa using hn2 m hm)
    have hlen2 := head_len (c := fun j => decide (itr g.act j (mn g q) = q))
    rw [hr2] at hlen2
    have hline3 : r2.length + 1 ≤ sizeLine := line_le (by simp at hlen2; omega)
    generalize (at1 + k) % 4 = z at hmod hl1
    simp [p__law_ld_standing_right_4, e4, hmod, hl1]
    refine wp_lcP (byN fun j => decide (itr g.act j (mn g q) = q)) id ?_ ?_
    · intro d hd
      obtain ⟨i, hi, rfl⟩ := mem_rngD hd
      have hmod2 : ((at1 : Int) + i) % 4 = (((at1 + i) % 4 : Nat) : Int) := by omega
      have hl2 := hL2 i hi
      generalize (at1 + i) % 4 = z2 at hmod2 hl2
      by_cases hc : itr g.act i (mn g q) = q
      · simp [p__law_ld_standing_right_3, hmod2, hl2, byN, hc]
      · simp [p__law_ld_standing_right_3, hmod2, hl2, byN, hc]
    rw [hr2]
    simp [hline3, at_head]
    by_cases hpd : Pd q
    · have et := told_std hg hb hpd hn0 hn1 hn2
      rw [hmn] at et
      simp [in_yes hpd, et]
      refine same_wp ok_told ?_
      simp
      exact ⟨some (.int k), some (pt q), some (.int n0), by omega, rfl⟩
    · simp [in_no hpd]
      exact ⟨some (.int k), some (pt q), some (.int n0), by omega, rfl⟩
  · rintro fr' ⟨a6, a9, a10, _, rfl⟩
    simp
    exact hq jar5 hj5
end K26


set_option Elab.async false
set_option maxRecDepth 100000
set_option maxHeartbeats 2000000
namespace FL
open PySem PySem.Spec PyProof.Rows L2
section
variable {E : Str → PyData → Fr → Prop} {fr : Fr} {Q : Ev → Fr → Prop} {S : SrcD → Fr → Prop} {f : Fr → Rs Ev} {a : Str} {i : Nat} {ds : List PyData} {D : PyData}
@[simp ↓] theorem wp_joinS : wp (joinS a f fr) Q E = wp (f fr) (fun x fr1 => wp (match rd fr1 x with | some d => (match joinD a d with | some s => .ok (.sh (.str s)) fr1 | none => .st) | none => .st) Q E) E := by
  unfold joinS
  exact wp_bnd
@[simp] theorem isXc_app {sub : Str → Str → Option Bool} {k : Str} : isXc sub i k fr = match fr[i]? with | some (.fn (.xc c w)) => (match sub c k with | some b => .ok (.sh (.bool b)) fr | none => .st) | _ => .st := rfl
@[simp] theorem whatE_app {sub : Str → Str → Option Bool} : whatE sub i fr = match fr[i]? with | some (.fn (.xc c w)) => if (sub c c).isSome = true then .ok (.sh w) fr else .st | _ => .st := rfl
@[simp ↓] theorem wp_seqIL : wp (seqIL f fr) S E = wp (f fr) (fun x fr1 => wp (seqML x fr1) S E) E := by
  unfold seqIL
  exact wp_bnd
@[simp] theorem seqML_al : seqML (.al i) fr = match fr[i]? with | some (.li _ _ ds) => .ok ⟨ds, [i]⟩ fr | some (.sh (.list ds)) => .ok ⟨ds, []⟩ fr | _ => .st := rfl
@[simp ↓] theorem wp_clrS {r : Rs Fl} {P : Fl → Fr → Prop} : wp (clrS i r) P E = wp r (fun x fr1 => wp (match clrI i fr1 with | some fr' => (if fr'.all notXc = true ∧ flNotXc (some i) x = true then (.ok x fr' : Rs Fl) else .st) | none => .st) P E) (fun _ _ _ => False) := by
  cases r <;> rfl
@[simp] theorem clrI_app : clrI i fr = match fr[i]? with | some s => if free s = true then some (fr.set i .no) else none | none => none := by
  unfold clrI
  cases fr[i]? <;> rfl
end
end FL
namespace K26
open PySem PySem.Spec PyProof.Rows L2 FL LamX
variable {QD : Rv → List (List PyData) → Prop} {ED : Str → PyData → List (List PyData) → Prop}
theorem hdl_m {w : PyData} {fr : FL.Fr} : hdl 5 (subF subs) cl__law_ld_heard "BadMotion" w fr = .ok (.sh (.tuple [.str "BadMotion", w])) fr := by
  have s1 : subF subs "BadMotion" "Refused" = some true := by decide +kernel
  have s2 : subF subs "BadMotion" "BadMotion" = some true := by decide +kernel
  have s3 : subF subs "BadMotion" "BadDot" = some false := by decide +kernel
  have j1 : joinD " " (.list [.str "BadMotion"]) = some ("BadMotion" : Str) := by decide +kernel
  have h2 : (2 : Nat) ≤ sizeLine := line_le (by omega)
  have key : wp (handle (subF subs) cl__law_ld_heard "BadMotion" w (List.replicate 5 .no)) (fun x fr1 => x = .rt (.sh (.tuple [.str "BadMotion", w])) ∧ True) (fun _ _ _ => False) := by
    simp [cl__law_ld_heard, handle, s1, inS, s2, s3]
    simp [wp_lc_cons, wp_lc_nil, j1, h2, s2, notXc, flNotXc, evNotXc]
  unfold hdl
  cases e : handle (subF subs) cl__law_ld_heard "BadMotion" w (List.replicate 5 .no) with
  | ok x fr1 =>
    rw [e] at key
    obtain ⟨rfl, _⟩ := key
    rfl
  | ex c w fr1 => rw [e] at key; exact key.elim
  | st => rw [e] at key; exact key.elim
theorem hdl_d {w : PyData} {fr : FL.Fr} : hdl 5 (subF subs) cl__law_ld_heard "BadDot" w fr = .ok (.sh (.tuple [.str "BadDot", w])) fr := by
  have s1 : subF subs "BadDot" "Refused" = some true := by decide +kernel
  have s2 : subF subs "BadDot" "BadMotion" = some false := by decide +kernel
  have s3 : subF subs "BadDot" "BadDot" = some true := by decide +kernel
  have j1 : joinD " " (.list [.str "BadDot"]) = some ("BadDot" : Str) := by decide +kernel
  have h2 : (2 : Nat) ≤ sizeLine := line_le (by omega)
  have key : wp (handle (subF subs) cl__law_ld_heard "BadDot" w (List.replicate 5 .no)) (fun x fr1 => x = .rt (.sh (.tuple [.str "BadDot", w])) ∧ True) (fun _ _ _ => False) := by
    simp [cl__law_ld_heard, handle, s1, inS, s2, s3]
    simp [wp_lc_cons, wp_lc_nil, j1, h2, s3, notXc, flNotXc, evNotXc]
  unfold hdl
  cases e : handle (subF subs) cl__law_ld_heard "BadDot" w (List.replicate 5 .no) with
  | ok x fr1 =>
    rw [e] at key
    obtain ⟨rfl, _⟩ := key
    rfl
  | ex c w fr1 => rw [e] at key; exact key.elim
  | st => rw [e] at key; exact key.elim
end K26


set_option Elab.async false
set_option maxRecDepth 100000
set_option maxHeartbeats 2000000
namespace K26
open PySem PySem.Spec PyProof.Rows L2 FL LamX
variable {QD : Rv → List (List PyData) → Prop} {ED : Str → PyData → List (List PyData) → Prop}
def tol (a b n : Int) : PyData := .tuple [.str "told", .tuple [.tuple [.int a, .int b], .int n]]
theorem t_run {t : Nat} {f : Bool} {r u x y a b n : Int} (h : Rn ⟨t, f, r, u⟩) (hb : Bd ⟨t, f, r, u⟩) (hp : Pd (x, y)) (e1 : nm_ ⟨t, f, r, u⟩ (x, y) = n) (e2 : at_ ⟨t, f, r, u⟩ (-n) (x, y) = (a, b)) :
    m__law_ld_lead [.d (.tuple [.int t, .int (fi f), .int r, .int u]), .d (.tuple [.int x, .int y])] = .ret (.sh (tol a b n)) [] := by
  have e := told_run h hb hp
  rw [e1, e2] at e
  exact e
theorem t_std {t : Nat} {f : Bool} {r u x y a b : Int} {n : Nat} (h : St ⟨t, f, r, u⟩) (hb : Bd ⟨t, f, r, u⟩) (hp : Pd (x, y)) (hn : n < 4) (e1 : mn ⟨t, f, r, u⟩ (x, y) = (a, b)) (h1 : itr (Mo.mk t f r u).act n (a, b) = (x, y)) (h2 : ∀ m, m < n → itr (Mo.mk t f r u).act m (a, b) ≠ (x, y)) :
    m__law_ld_lead [.d (.tuple [.int t, .int (fi f), .int r, .int u]), .d (.tuple [.int x, .int y])] = .ret (.sh (tol a b n)) [] := by
  have e := told_std h hb hp hn (by rw [e1]; exact h1) (by rw [e1]; exact h2)
  rw [e1] at e
  exact e
theorem k1 : m__law_ld_lead [.d (.tuple [.int 0, .int 0, .int 2, .int 0]), .d (.tuple [.int 5, .int 3])] = .ret (.sh (tol 1 3 2)) [] :=
  t_run (t := 0) (f := false) (rn_f (by decide)) (by unfold Bd; decide) (by unfold Pd; decide) (by decide) (by decide)
theorem k2 : m__law_ld_lead [.d (.tuple [.int 0, .int 0, .int 2, .int 0]), .d (.tuple [.int (-1), .int 0])] = .ret (.sh (tol 1 0 (-1))) [] :=
  t_run (t := 0) (f := false) (rn_f (by decide)) (by unfold Bd; decide) (by unfold Pd; decide) (by decide) (by decide)
theorem k3 : m__law_ld_lead [.d (.tuple [.int 0, .int 1, .int 2, .int 1]), .d (.tuple [.int 3, .int 0])] = .ret (.sh (tol 1 1 1)) [] :=
  t_run (t := 0) (f := true) (rn_0 (by decide)) (by unfold Bd; decide) (by unfold Pd; decide) (by decide) (by decide)
theorem k4 : m__law_ld_lead [.d (.tuple [.int 1, .int 0, .int 0, .int 0]), .d (.tuple [.int 1, .int 0])] = .ret (.sh (tol (-1) 0 2)) [] :=
  t_std (t := 1) (f := false) (n := 2) ⟨by decide, by decide⟩ (by unfold Bd; decide) (by unfold Pd; decide) (by decide) (by decide) (by decide) (by decide)
theorem k5 : m__law_ld_lead [.d (.tuple [.int 0, .int 0, .int 0, .int 0]), .d (.tuple [.int 4, .int 4])] = .ret (.sh (tol 4 4 0)) [] :=
  t_std (t := 0) (f := false) (n := 0) ⟨by decide, by decide⟩ (by unfold Bd; decide) (by unfold Pd; decide) (by decide) (by decide) (by decide) (by decide)
theorem k6 : m__law_ld_lead [.d (.tuple [.int 0, .int 0, .int 0, .int (-1)]), .d (.tuple [.int 1000000, .int (-1000000)])] = .ret (.sh (tol 1000000 0 1000000)) [] :=
  t_run (t := 0) (f := false) (rn_f (by decide)) (by unfold Bd; decide) (by unfold Pd; decide) (by decide) (by decide)
theorem k7 : m__law_ld_lead [.d (.tuple [.int 0, .int 0, .int 1, .int 1]), .d (.tuple [.int 1000000, .int (-1000000)])] = .ret (.sh (tol 1000000 (-1000000) 0)) [] :=
  t_run (t := 0) (f := false) (rn_f (by decide)) (by unfold Bd; decide) (by unfold Pd; decide) (by decide) (by decide)
theorem k8 : m__law_ld_lead [.d (.tuple [.int 0, .int 0, .int 1000000, .int 1000000]), .d (.tuple [.int (-1000000), .int (-1000000)])] = .ret (.sh (tol 0 0 (-1))) [] :=
  t_run (t := 0) (f := false) (rn_f (by decide)) (by unfold Bd; decide) (by unfold Pd; decide) (by decide) (by decide)
theorem k9 : m__law_ld_lead [.d (.tuple [.int 2, .int 0, .int (-1000000), .int 0]), .d (.tuple [.int 1000000, .int 7])] = .ret (.sh (tol (-2000000) (-7) 1)) [] :=
  t_std (t := 2) (f := false) (n := 1) ⟨by decide, by decide⟩ (by unfold Bd; decide) (by unfold Pd; decide) (by decide) (by decide) (by decide) (by decide)
theorem k10 : m__law_ld_lead [.d (.tuple [.int 0, .int 1, .int 1000000, .int 1000000]), .d (.tuple [.int (-1), .int (-1000000)])] = .ret (.sh (tol 999999 2000000 (-1))) [] :=
  t_run (t := 0) (f := true) (rn_0 (by decide)) (by unfold Bd; decide) (by unfold Pd; decide) (by decide) (by decide)
theorem k11 : m__law_ld_lead [.d (.tuple [.int 0, .int 0, .int 1000000, .int 0]), .d (.tuple [.int (-1), .int 1000000])] = .ret (.sh (tol 999999 1000000 (-1))) [] :=
  t_run (t := 0) (f := false) (rn_f (by decide)) (by unfold Bd; decide) (by unfold Pd; decide) (by decide) (by decide)
/-! ### what is none -/
theorem wh_none {a b : PyData} : m_whole [.d .none, .d a, .d b] = .ret (.sh (.bool false)) [] := by
  apply wpD_eq
  simp [m_whole, b_whole]
theorem wh_bool {t : Bool} {a b : PyData} : m_whole [.d (.bool t), .d a, .d b] = .ret (.sh (.bool false)) [] := by
  apply wpD_eq
  simp [m_whole, b_whole]
theorem mm_1 : m_made_motion [.d .none] = .ex "BadMotion" (.int (-1)) [] := by
  apply wpD_eqx
  simp [m_made_motion, b_made_motion, m_bad_motion, b_bad_motion]
theorem mm_2 : m_made_motion [.d (.tuple [.int 0, .int 0, .int 0])] = .ex "BadMotion" (.int (-1)) [] := by
  apply wpD_eqx
  simp [m_made_motion, b_made_motion, m_bad_motion, b_bad_motion]
theorem mm_3 : m_made_motion [.d (.tuple [.int 4, .int 0, .int 0, .int 0])] = .ex "BadMotion" (.int 0) [] := by
  apply wpD_eqx
  simp [m_made_motion, b_made_motion, m_bad_motion, b_bad_motion, enumD, wp_for_cons, wp_for_nil, p_bad_motion_1, p_bad_motion_2, whole_int]
theorem mm_4 : m_made_motion [.d (.tuple [.int 0, .bool true, .int 0, .int 0])] = .ex "BadMotion" (.int 1) [] := by
  apply wpD_eqx
  simp [m_made_motion, b_made_motion, m_bad_motion, b_bad_motion, enumD, wp_for_cons, wp_for_nil, p_bad_motion_1, p_bad_motion_2, whole_int, wh_bool]
theorem mm_5 : m_made_motion [.d (.tuple [.int 0, .int 0, .int 1000001, .int 0])] = .ex "BadMotion" (.int 2) [] := by
  apply wpD_eqx
  simp [m_made_motion, b_made_motion, m_bad_motion, b_bad_motion, enumD, wp_for_cons, wp_for_nil, p_bad_motion_1, p_bad_motion_2, whole_int]
theorem ad_1 : m_asked_dot [.d .none] = .ex "BadDot" (.int (-1)) [] := by
  apply wpD_eqx
  simp [m_asked_dot, b_asked_dot, m_bad_dot, b_bad_dot]
theorem ad_2 : m_asked_dot [.d (.tuple [.int 0])] = .ex "BadDot" (.int (-1)) [] := by
  apply wpD_eqx
  simp [m_asked_dot, b_asked_dot, m_bad_dot, b_bad_dot]
theorem ad_3 : m_asked_dot [.d (.tuple [.int 1000001, .none])] = .ex "BadDot" (.int 0) [] := by
  apply wpD_eqx
  simp [m_asked_dot, b_asked_dot, m_bad_dot, b_bad_dot, wp_for_cons, wp_for_nil, p_bad_dot_1, whole_int]
theorem ad_4 : m_asked_dot [.d (.tuple [.int 0, .bool true])] = .ex "BadDot" (.int 1) [] := by
  apply wpD_eqx
  simp [m_asked_dot, b_asked_dot, m_bad_dot, b_bad_dot, wp_for_cons, wp_for_nil, p_bad_dot_1, whole_int, wh_bool]
theorem ad_5 : m_asked_dot [.d (.tuple [.int 0, .int (-1000001)])] = .ex "BadDot" (.int 1) [] := by
  apply wpD_eqx
  simp [m_asked_dot, b_asked_dot, m_bad_dot, b_bad_dot, wp_for_cons, wp_for_nil, p_bad_dot_1, whole_int]
theorem bad_m {b v w : PyData} (h : m_made_motion [.d b] = .ex "BadMotion" w []) : m__law_ld_lead [.d b, .d v] = .ret (.sh (.tuple [.str "BadMotion", w])) [] := by
  apply wpD_eq
  simp [m__law_ld_lead, b__law_ld_lead, m_lead, b_lead, h, hdl_m]
theorem bad_d {v w : PyData} (h : m_asked_dot [.d v] = .ex "BadDot" w []) : m__law_ld_lead [.d (.tuple [.int 0, .int 0, .int 1, .int 0]), .d v] = .ret (.sh (.tuple [.str "BadDot", w])) [] := by
  have e := made_eq (g := ⟨0, false, 1, 0⟩) (by decide) (by unfold Bd; decide)
  have e' : m_made_motion [.d (.tuple [.int 0, .int 0, .int 1, .int 0])] = .ret (.sh (.tuple [.int 0, .int 0, .int 1, .int 0])) [] := e
  apply wpD_eq
  simp [m__law_ld_lead, b__law_ld_lead, m_lead, b_lead, e', h, hdl_d]
end K26


set_option Elab.async false
set_option maxRecDepth 100000
set_option maxHeartbeats 4000000
namespace K26
open PySem PySem.Spec PyProof.Rows L2 FL LamX
variable {QD : Rv → List (List PyData) → Prop} {ED : Str → PyData → List (List PyData) → Prop}
theorem ok_tol {a b n : Int} : okD 6 (tol a b n) := by simp [okD, tol, lay_told]
theorem ok_list {ds : List PyData} {n : Nat} (hl : ds.length ≤ 1000000) (h : ∀ d ∈ ds, okD n d) : okD (n + 1) (.list ds) := ⟨hl, h⟩
theorem hand_right_wp {jar : List PyData} (hj : J jar) (hq : ∀ jar', J jar' → QD (.sh (.bool true)) [jar']) : wpD (m__law_ld_hand_right [.io jar]) QD ED := by
  have lm : PyData.canLay0 (.str "BadMotion") = true := by decide +kernel
  have ld : PyData.canLay0 (.str "BadDot") = true := by decide +kernel
  simp [m__law_ld_hand_right, b__law_ld_hand_right]
  simp [wp_lc_cons, wp_lc_nil, p__law_ld_hand_right_1, p__law_ld_hand_right_2, k1, k2, k3, k4, k5, k6, k7, k8, k9, k10, k11]
  refine same_wp (ok_list (by simp) fun d hd => ?_) ?_
  · simp at hd
    rcases hd with rfl | rfl | rfl | rfl | rfl | rfl | rfl | rfl | rfl | rfl | rfl <;> exact ok_tol
  simp
  refine one_wp hj (by simp) (by simp) fun x jar1 hx hj1 => ?_
  obtain ⟨b, w, rfl, hb, hw⟩ : ∃ b w, x = .tuple [b, .int w] ∧ m_made_motion [.d b] = .ex "BadMotion" (.int w) [] ∧ True := by
    simp at hx
    rcases hx with rfl | rfl | rfl | rfl | rfl
    · exact ⟨_, _, rfl, mm_1, trivial⟩
    · exact ⟨_, _, rfl, mm_2, trivial⟩
    · exact ⟨_, _, rfl, mm_3, trivial⟩
    · exact ⟨_, _, rfl, mm_4, trivial⟩
    · exact ⟨_, _, rfl, mm_5, trivial⟩
  simp
  refine one_wp hj1 (by simp) (by simp) fun x jar2 hx hj2 => ?_
  obtain ⟨o, w2, rfl, ho⟩ : ∃ o w2, x = .tuple [o, .int w2] ∧ m_asked_dot [.d o] = .ex "BadDot" (.int w2) [] := by
    simp at hx
    rcases hx with rfl | rfl | rfl | rfl | rfl
    · exact ⟨_, _, rfl, ad_1⟩
    · exact ⟨_, _, rfl, ad_2⟩
    · exact ⟨_, _, rfl, ad_3⟩
    · exact ⟨_, _, rfl, ad_4⟩
    · exact ⟨_, _, rfl, ad_5⟩
  simp [bad_m hb, bad_d ho]
  refine same_wp (ok_list (by simp) fun d hd => ?_) ?_
  · simp at hd
    rcases hd with rfl | rfl | rfl
    · exact ok_pair (n := 5) lm ok_int
    · exact ok_pair (n := 5) ld ok_int
    · exact ok_pair (n := 5) lm ok_int
  simp
  exact hq jar2 hj2
theorem law_true (ns : List Int) (hn : ns.length ≤ 63) (_ : ∀ z ∈ ns, Builtin.Int.intBits z ≤ 1048576) : m_law [.d (.list (ns.map PyData.int))] = .ret (.sh (.bool true)) [] := by
  obtain ⟨jar, hj, e⟩ := pool_spec ns hn
  apply wpD_eq
  simp [m_law, b_law, e]
  refine hand_right_wp hj fun jar1 hj1 => ?_
  simp
  refine wp_lc (fun k acc fr => ∃ (jar2 : List PyData), J jar2 ∧ fr = [.sh (.list (ns.map PyData.int)), .li false false jar2, .no] ∧ acc = []) ⟨jar1, hj1, rfl, rfl⟩ ?_ ?_
  · rintro k hk acc fr' ⟨jar2, hj2, rfl, rfl⟩
    simp [p_law_1]
    refine running_right_wp hj2 fun jar3 hj3 => ?_
    simp
    refine standing_right_wp hj3 fun jar4 hj4 => ?_
    simp
    exact ⟨jar4, hj4, rfl, rfl⟩
  · rintro acc fr' ⟨jar2, hj2, rfl, rfl⟩
    simp
end K26


open PySem PySem.W PyProof.Rows
set_option maxRecDepth 100000 in
set_option maxHeartbeats 0 in
theorem PySem.Challenge.cw_carriedink_k26_leads_by_division_holds : PySem.Challenge.rw_carriedink_k26_leads_by_division.Holds := by
  w_on; o_law; k_head; (case hw => w_witness2)
  k_fill
  refine LamX.walk_ofTs (n := 63) (k := 12) (x := "script") (CX := fun w => L2N.CX K26.pw w) rfl (by decide) rfl ⟨rfl, by decide, by decide⟩ (fun w h Y => Y.1) ?F (fun _ _ _ _ _ ⟨_, _, _, _, _, _, _, _, _, _, _, _, z⟩ => z)
  case F =>
    intro w mg fa h Y KX G hmg
    refine' K26.law_at KX G hmg ?a_whole ?l_whole ?c_whole ?k_whole ?a_is_free_number ?l_is_free_number ?c_is_free_number ?k_is_free_number ?a_spun ?l_spun ?c_spun ?k_spun ?a_rise_by ?l_rise_by ?c_rise_by ?k_rise_by ?a_level_of ?l_level_of ?c_level_of ?k_level_of ?a__law_yq_is_whole ?l__law_yq_is_whole ?c__law_yq_is_whole ?k__law_yq_is_whole ?a__law_moved_dot ?l__law_moved_dot ?c__law_moved_dot ?k__law_moved_dot ?a__law_level ?l__law_level ?c__law_level ?k__law_level ?a__law_pool ?l__law_pool ?c__law_pool ?k__law_pool ?a__law_take ?l__law_take ?c__law_take ?k__law_take ?a__law_ld_heard ?l__law_ld_heard ?c__law_ld_heard ?k__law_ld_heard ?a__law_ld_in ?l__law_ld_in ?c__law_ld_in ?k__law_ld_in ?a_bad_motion ?l_bad_motion ?c_bad_motion ?k_bad_motion ?a_joined ?l_joined ?c_joined ?k_joined ?a_backed ?l_backed ?c_backed ?k_backed ?a_bad_dot ?l_bad_dot ?c_bad_dot ?k_bad_dot ?a__law_then_motion ?l__law_then_motion ?c__law_then_motion ?k__law_then_motion ?a__law_back_motion ?l__law_back_motion ?c__law_back_motion ?k__law_back_motion ?a__law_small ?l__law_small ?c__law_small ?k__law_small ?a__law_one ?l__law_one ?c__law_one ?k__law_one ?a_made_motion ?l_made_motion ?c_made_motion ?k_made_motion ?a_far_power ?l_far_power ?c_far_power ?k_far_power ?a_asked_dot ?l_asked_dot ?c_asked_dot ?k_asked_dot ?a_raw_way ?l_raw_way ?c_raw_way ?k_raw_way ?a__law_power_motion ?l__law_power_motion ?c__law_power_motion ?k__law_power_motion ?a__law_motion_by ?l__law_motion_by ?c__law_motion_by ?k__law_motion_by ?a__law_ld_running ?l__law_ld_running ?c__law_ld_running ?k__law_ld_running ?a_runs ?l_runs ?c_runs ?k_runs ?a_running_lead ?l_running_lead ?c_running_lead ?k_running_lead ?a__law_way_of ?l__law_way_of ?c__law_way_of ?k__law_way_of ?a__law_standing_motion ?l__law_standing_motion ?c__law_standing_motion ?k__law_standing_motion ?a_raw_order ?l_raw_order ?c_raw_order ?k_raw_order ?a__law_level_of ?l__law_level_of ?c__law_level_of ?k__law_level_of ?a__law_ld_at ?l__law_ld_at ?c__law_ld_at ?k__law_ld_at ?a_lead_of ?l_lead_of ?c_lead_of ?k_lead_of ?a__law_rise_of ?l__law_rise_of ?c__law_rise_of ?k__law_rise_of ?a_lead ?l_lead ?c_lead ?k_lead ?a__law_ld_first ?l__law_ld_first ?c__law_ld_first ?k__law_ld_first ?a__law_yq_same ?l__law_yq_same ?c__law_yq_same ?k__law_yq_same ?a__law_ld_lead ?l__law_ld_lead ?c__law_ld_lead ?k__law_ld_lead ?co__law_ld_lead ?pp__law_ld_lead ?hh__law_ld_lead ?tt__law_ld_lead ?nn__law_ld_lead ?a__law_ld_running_right ?l__law_ld_running_right ?c__law_ld_running_right ?k__law_ld_running_right ?a__law_ld_standing_right ?l__law_ld_standing_right ?c__law_ld_standing_right ?k__law_ld_standing_right ?a__law_ld_hand_right ?l__law_ld_hand_right ?c__law_ld_hand_right ?k__law_ld_hand_right ?a_law ?l_law ?c_law ?k_law ?nb_abs ?nb_bool ?nb_enumerate ?nb_int ?nb_isinstance ?nb_len ?nb_list ?nb_max ?nb_min ?nb_range ?nb_str ?nb_tuple ?nb_VE ?nc_FAR ?nc_REST ?nk_REST ?ga_Refused ?xl_Refused ?rv_Refused ?sa_Refused ?ex_Refused ?ty_Refused ?kc_Refused ?gt_Refused ?gg_Refused ?hd_Refused ?nw_Refused ?ic_Refused ?ix_Refused ?mo_Refused ?ga_BadMotion ?xl_BadMotion ?rv_BadMotion ?sa_BadMotion ?ex_BadMotion ?ty_BadMotion ?kc_BadMotion ?gt_BadMotion ?gg_BadMotion ?hd_BadMotion ?nw_BadMotion ?ic_BadMotion ?ix_BadMotion ?mo_BadMotion ?ga_BadDot ?xl_BadDot ?rv_BadDot ?sa_BadDot ?ex_BadDot ?ty_BadDot ?kc_BadDot ?gt_BadDot ?gg_BadDot ?hd_BadDot ?nw_BadDot ?ic_BadDot ?ix_BadDot ?mo_BadDot ?ig_n ?ig_t ?kt_Refused_Refused ?kt_Refused_BadMotion ?kt_Refused_BadDot ?kt_BadMotion_Refused ?kt_BadMotion_BadMotion ?kt_BadMotion_BadDot ?kt_BadDot_Refused ?kt_BadDot_BadMotion ?kt_BadDot_BadDot ?ti ?li ?ci ?pl ?vv ?sb_Refused_Refused ?sb_Refused_BadMotion ?sb_Refused_BadDot ?sb_BadMotion_Refused ?sb_BadMotion_BadMotion ?sb_BadMotion_BadDot ?sb_BadDot_Refused ?sb_BadDot_BadMotion ?sb_BadDot_BadDot K26.law_true
    (case a_whole => k_is)
    (case l_whole => k_is)
    (case c_whole => k_is)
    (case k_whole => k_is)
    (case a_is_free_number => k_is)
    (case l_is_free_number => k_is)
    (case c_is_free_number => k_is)
    (case k_is_free_number => k_is)
    (case a_spun => k_is)
    (case l_spun => k_is)
    (case c_spun => k_is)
    (case k_spun => k_is)
    (case a_rise_by => k_is)
    (case l_rise_by => k_is)
    (case c_rise_by => k_is)
    (case k_rise_by => k_is)
    (case a_level_of => k_is)
    (case l_level_of => k_is)
    (case c_level_of => k_is)
    (case k_level_of => k_is)
    (case a__law_yq_is_whole => k_is)
    (case l__law_yq_is_whole => k_is)
    (case c__law_yq_is_whole => k_is)
    (case k__law_yq_is_whole => k_is)
    (case a__law_moved_dot => k_is)
    (case l__law_moved_dot => k_is)
    (case c__law_moved_dot => k_is)
    (case k__law_moved_dot => k_is)
    (case a__law_level => k_is)
    (case l__law_level => k_is)
    (case c__law_level => k_is)
    (case k__law_level => k_is)
    (case a__law_pool => k_is)
    (case l__law_pool => k_is)
    (case c__law_pool => k_is)
    (case k__law_pool => k_is)
    (case a__law_take => k_is)
    (case l__law_take => k_is)
    (case c__law_take => k_is)
    (case k__law_take => k_is)
    (case a__law_ld_heard => k_is)
    (case l__law_ld_heard => k_is)
    (case c__law_ld_heard => k_is)
    (case k__law_ld_heard => k_is)
    (case a__law_ld_in => k_is)
    (case l__law_ld_in => k_is)
    (case c__law_ld_in => k_is)
    (case k__law_ld_in => k_is)
    (case a_bad_motion => k_is)
    (case l_bad_motion => k_is)
    (case c_bad_motion => k_is)
    (case k_bad_motion => k_is)
    (case a_joined => k_is)
    (case l_joined => k_is)
    (case c_joined => k_is)
    (case k_joined => k_is)
    (case a_backed => k_is)
    (case l_backed => k_is)
    (case c_backed => k_is)
    (case k_backed => k_is)
    (case a_bad_dot => k_is)
    (case l_bad_dot => k_is)
    (case c_bad_dot => k_is)
    (case k_bad_dot => k_is)
    (case a__law_then_motion => k_is)
    (case l__law_then_motion => k_is)
    (case c__law_then_motion => k_is)
    (case k__law_then_motion => k_is)
    (case a__law_back_motion => k_is)
    (case l__law_back_motion => k_is)
    (case c__law_back_motion => k_is)
    (case k__law_back_motion => k_is)
    (case a__law_small => k_is)
    (case l__law_small => k_is)
    (case c__law_small => k_is)
    (case k__law_small => k_is)
    (case a__law_one => k_is)
    (case l__law_one => k_is)
    (case c__law_one => k_is)
    (case k__law_one => k_is)
    (case a_made_motion => k_is)
    (case l_made_motion => k_is)
    (case c_made_motion => k_is)
    (case k_made_motion => k_is)
    (case a_far_power => k_is)
    (case l_far_power => k_is)
    (case c_far_power => k_is)
    (case k_far_power => k_is)
    (case a_asked_dot => k_is)
    (case l_asked_dot => k_is)
    (case c_asked_dot => k_is)
    (case k_asked_dot => k_is)
    (case a_raw_way => k_is)
    (case l_raw_way => k_is)
    (case c_raw_way => k_is)
    (case k_raw_way => k_is)
    (case a__law_power_motion => k_is)
    (case l__law_power_motion => k_is)
    (case c__law_power_motion => k_is)
    (case k__law_power_motion => k_is)
    (case a__law_motion_by => k_is)
    (case l__law_motion_by => k_is)
    (case c__law_motion_by => k_is)
    (case k__law_motion_by => k_is)
    (case a__law_ld_running => k_is)
    (case l__law_ld_running => k_is)
    (case c__law_ld_running => k_is)
    (case k__law_ld_running => k_is)
    (case a_runs => k_is)
    (case l_runs => k_is)
    (case c_runs => k_is)
    (case k_runs => k_is)
    (case a_running_lead => k_is)
    (case l_running_lead => k_is)
    (case c_running_lead => k_is)
    (case k_running_lead => k_is)
    (case a__law_way_of => k_is)
    (case l__law_way_of => k_is)
    (case c__law_way_of => k_is)
    (case k__law_way_of => k_is)
    (case a__law_standing_motion => k_is)
    (case l__law_standing_motion => k_is)
    (case c__law_standing_motion => k_is)
    (case k__law_standing_motion => k_is)
    (case a_raw_order => k_is)
    (case l_raw_order => k_is)
    (case c_raw_order => k_is)
    (case k_raw_order => k_is)
    (case a__law_level_of => k_is)
    (case l__law_level_of => k_is)
    (case c__law_level_of => k_is)
    (case k__law_level_of => k_is)
    (case a__law_ld_at => k_is)
    (case l__law_ld_at => k_is)
    (case c__law_ld_at => k_is)
    (case k__law_ld_at => k_is)
    (case a_lead_of => k_is)
    (case l_lead_of => k_is)
    (case c_lead_of => k_is)
    (case k_lead_of => k_is)
    (case a__law_rise_of => k_is)
    (case l__law_rise_of => k_is)
    (case c__law_rise_of => k_is)
    (case k__law_rise_of => k_is)
    (case a_lead => k_is)
    (case l_lead => k_is)
    (case c_lead => k_is)
    (case k_lead => k_is)
    (case a__law_ld_first => k_is)
    (case l__law_ld_first => k_is)
    (case c__law_ld_first => k_is)
    (case k__law_ld_first => k_is)
    (case a__law_yq_same => k_is)
    (case l__law_yq_same => k_is)
    (case c__law_yq_same => k_is)
    (case k__law_yq_same => k_is)
    (case a__law_ld_lead => k_is)
    (case l__law_ld_lead => k_is)
    (case c__law_ld_lead => k_is)
    (case k__law_ld_lead => k_is)
    (case co__law_ld_lead => k_is)
    (case pp__law_ld_lead => rfl)
    (case hh__law_ld_lead => kernel_rfl)
    (case tt__law_ld_lead => exact Y.2 _ (by decide))
    (case nn__law_ld_lead => kernel_rfl)
    (case a__law_ld_running_right => k_is)
    (case l__law_ld_running_right => k_is)
    (case c__law_ld_running_right => k_is)
    (case k__law_ld_running_right => k_is)
    (case a__law_ld_standing_right => k_is)
    (case l__law_ld_standing_right => k_is)
    (case c__law_ld_standing_right => k_is)
    (case k__law_ld_standing_right => k_is)
    (case a__law_ld_hand_right => k_is)
    (case l__law_ld_hand_right => k_is)
    (case c__law_ld_hand_right => k_is)
    (case k__law_ld_hand_right => k_is)
    (case a_law => k_is)
    (case l_law => k_is)
    (case c_law => k_is)
    (case k_law => k_is)
    (case nb_abs => k_is)
    (case nb_bool => k_is)
    (case nb_enumerate => k_is)
    (case nb_int => k_is)
    (case nb_isinstance => k_is)
    (case nb_len => k_is)
    (case nb_list => k_is)
    (case nb_max => k_is)
    (case nb_min => k_is)
    (case nb_range => k_is)
    (case nb_str => k_is)
    (case nb_tuple => k_is)
    (case nb_VE => k_is)
    (case nc_FAR => k_is)
    (case nc_REST => k_is)
    (case nk_REST => kernel_rfl)
    (case ga_Refused => k_is)
    (case xl_Refused => k_is)
    (case rv_Refused => decide +kernel)
    (case sa_Refused => k_is)
    (case ex_Refused => k_is)
    (case ty_Refused => k_is)
    (case kc_Refused => k_is)
    (case gt_Refused => k_is)
    (case gg_Refused => k_is)
    (case hd_Refused => k_is)
    (case nw_Refused => k_is)
    (case ic_Refused => k_is)
    (case ix_Refused => k_is)
    (case mo_Refused => k_is)
    (case ga_BadMotion => k_is)
    (case xl_BadMotion => k_is)
    (case rv_BadMotion => decide +kernel)
    (case sa_BadMotion => k_is)
    (case ex_BadMotion => k_is)
    (case ty_BadMotion => k_is)
    (case kc_BadMotion => k_is)
    (case gt_BadMotion => k_is)
    (case gg_BadMotion => k_is)
    (case hd_BadMotion => k_is)
    (case nw_BadMotion => k_is)
    (case ic_BadMotion => k_is)
    (case ix_BadMotion => k_is)
    (case mo_BadMotion => k_is)
    (case ga_BadDot => k_is)
    (case xl_BadDot => k_is)
    (case rv_BadDot => decide +kernel)
    (case sa_BadDot => k_is)
    (case ex_BadDot => k_is)
    (case ty_BadDot => k_is)
    (case kc_BadDot => k_is)
    (case gt_BadDot => k_is)
    (case gg_BadDot => k_is)
    (case hd_BadDot => k_is)
    (case nw_BadDot => k_is)
    (case ic_BadDot => k_is)
    (case ix_BadDot => k_is)
    (case mo_BadDot => k_is)
    (case ig_n => k_is)
    (case ig_t => k_is)
    (case kt_Refused_Refused => kernel_rfl)
    (case kt_Refused_BadMotion => kernel_rfl)
    (case kt_Refused_BadDot => kernel_rfl)
    (case kt_BadMotion_Refused => kernel_rfl)
    (case kt_BadMotion_BadMotion => kernel_rfl)
    (case kt_BadMotion_BadDot => kernel_rfl)
    (case kt_BadDot_Refused => kernel_rfl)
    (case kt_BadDot_BadMotion => kernel_rfl)
    (case kt_BadDot_BadDot => kernel_rfl)
    (case ti => k_is)
    (case li => k_is)
    (case ci => k_is)
    (case pl => rfl)
    (case vv => k_is)
    (case sb_Refused_Refused => k_is)
    (case sb_Refused_BadMotion => k_is)
    (case sb_Refused_BadDot => k_is)
    (case sb_BadMotion_Refused => k_is)
    (case sb_BadMotion_BadMotion => k_is)
    (case sb_BadMotion_BadDot => k_is)
    (case sb_BadDot_Refused => k_is)
    (case sb_BadDot_BadMotion => k_is)
    (case sb_BadDot_BadDot => k_is)

