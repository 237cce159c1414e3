import PyProof.Rows.All
import HandS.ForMost
import HandS.NoneIn
import HandS.Wide
import HandS.TupAny
import HandS.IsInst
import HandS.SortKw
import HandS.Rev
import HandS.TupMul
import KE.DataEq
import KE.DataCmp
import KE.DataIsa
import KE.DataMinMax
import KE.GoesNew
import HandS.Style
import PyProof.ListRange
import HandS.Ends
import HandS.Conv
import HandS.More
import HandS.Deep
import PyProof.ReprRoads
import PyProof.CallFns
import PyProof.FitsInt
import PyProof.StrLawsRepr
import KE.KTupSum
import HandS.Replace
import PyProof.StrBlock2
import HandS.Exc
import HandS.WordsExc
import HandS.ExcInit
import KE.KExcInit
import HandS.ExcField
import KE.KExcIs
import KE.KTryMore
import PySem.Challenge.RW_dunebooks_k02_dunes_otherwise
set_option Elab.async false
set_option linter.all false
set_option autoImplicit false
set_option maxRecDepth 100000
/-! Mir: a def of plain data, by a function of its data. Part 1: heaps under a mask, what a frame bears. -/
namespace Mir
open PySem L2

abbrev D := PyData
abbrev Fr := PySem.W.Frag
/-- the heap without the addresses of m -/
noncomputable def msk (m : Addr → Prop) (H : Hp) : Hp := fun a => open Classical in if m a then none else H a
theorem msk_no {m : Addr → Prop} {H : Hp} {a : Addr} (h : ¬ m a) : msk m H a = H a := by unfold msk; rw [if_neg h]
theorem msk_yes {m : Addr → Prop} {H : Hp} {a : Addr} (h : m a) : msk m H a = none := by unfold msk; rw [if_pos h]
theorem msk_some {m : Addr → Prop} {H : Hp} {a : Addr} {o : HO} (h : msk m H a = some o) : ¬ m a ∧ H a = some o := by
  unfold msk at h
  split at h
  · cases h
  · exact ⟨by assumption, h⟩
theorem msk_sub {m : Addr → Prop} {H : Hp} : Same (msk m H) H := fun _ _ h => (msk_some h).2
theorem msk_mono {m : Addr → Prop} {H H' : Hp} (e : Same H H') : Same (msk m H) (msk m H') := fun a o h => by
  obtain ⟨h1, h2⟩ := msk_some h
  rw [msk_no h1]; exact e a o h2
theorem msk_anti {m m' : Addr → Prop} {H : Hp} (e : ∀ a, m' a → m a) : Same (msk m H) (msk m' H) := fun a o h => by
  obtain ⟨h1, h2⟩ := msk_some h
  rw [msk_no fun z => h1 (e a z)]; exact h2
/-- what was there without m is there without m', if m' brings only new addresses -/
theorem msk_new {m m' : Addr → Prop} {H H' : Hp} (e : Same H H') (n : ∀ a, m' a → m a ∨ H a = none) : Same (msk m H) (msk m' H') := fun a o h => by
  obtain ⟨h1, h2⟩ := msk_some h
  have : ¬ m' a := fun z => by
    rcases n a z with y | y
    · exact h1 y
    · rw [h2] at y; cases y
  rw [msk_no this]; exact e a o h2
theorem msk_upd {m : Addr → Prop} {H : Hp} {p : Addr} {o : HO} (h : m p) : msk m (upd H p o) = msk m H := by
  funext a
  by_cases ha : m a
  · rw [msk_yes ha, msk_yes ha]
  · rw [msk_no ha, msk_no ha, upd_ne (show a ≠ p from fun e => ha (by rw [e]; exact h))]
theorem same_new {H : Hp} {p : Addr} {o : HO} (h : H p = none) : Same H (upd H p o) := fun a u e => by
  rw [upd_ne (ne_of_none e h)]; exact e

/-! data at a heap: None, truths, whole numbers, texts, lists and tuples of these -/
mutual
inductive Dp (K : Fr) (H : Hp) : V → PyData → Prop
  | non : Dp K H .non PyData.none
  | bl (b : Bool) : Dp K H (.bl b) (PyData.bool b)
  | int (i : Int) : Dp K H (.int i) (PyData.int i)
  | str (x : Str) : Dp K H (.str x) (PyData.str x)
  | lst {a : Addr} {xs : List V} {ds : List PyData} (h : SqL K H a xs) (t : DpAll K H xs ds) : Dp K H (.ref a) (PyData.list ds)
  | tup {a : Addr} {xs : List V} {ds : List PyData} (h : SqT K H a xs) (t : DpAll K H xs ds) : Dp K H (.ref a) (PyData.tuple ds)
inductive DpAll (K : Fr) (H : Hp) : List V → List PyData → Prop
  | nil : DpAll K H [] []
  | cons {v : V} {vs : List V} {d : PyData} {ds : List PyData} (h : Dp K H v d) (t : DpAll K H vs ds) : DpAll K H (v :: vs) (d :: ds)
end
section
variable {K : Fr} {H H' : Hp}
mutual
theorem Dp.deep : ∀ {v : V} {d : D}, Dp K H v d → L2.Dp K H v d
  | _, _, .non => .non
  | _, _, .bl b => .bl b
  | _, _, .int i => .int i
  | _, _, .str x => .str x
  | _, _, .lst h a => .lst h (DpAll.deep a)
  | _, _, .tup h a => .tup h (DpAll.deep a)
theorem DpAll.deep : ∀ {vs : List V} {ds : List D}, DpAll K H vs ds → L2.DpAll K H vs ds
  | _, _, .nil => .nil
  | _, _, .cons h t => .cons (Dp.deep h) (DpAll.deep t)
end
theorem rd_mono {a : Addr} {u : HO} (e : Same H H') (h : Rd H a u) : Rd H' a u := by
  rcases h with h | ⟨o, h⟩
  · exact .inl (e _ _ h)
  · exact .inr ⟨o, e _ _ h⟩
theorem sql_mono {a : Addr} {xs : List V} (e : Same H H') (h : SqL K H a xs) : SqL K H' a xs := e.seq h
theorem sqt_mono {a : Addr} {xs : List V} (e : Same H H') (h : SqT K H a xs) : SqT K H' a xs := by
  rcases h with (h | ⟨o, h⟩) | h
  · exact .inl (.inl (e _ _ h))
  · exact .inl (.inr ⟨o, e _ _ h⟩)
  · exact .inr h
mutual
theorem dp_mono (e : Same H H') : ∀ {v : V} {d : D}, Dp K H v d → Dp K H' v d
  | _, _, .non => .non
  | _, _, .bl b => .bl b
  | _, _, .int i => .int i
  | _, _, .str x => .str x
  | _, _, .lst h a => .lst (sql_mono e h) (dps_mono e a)
  | _, _, .tup h a => .tup (sqt_mono e h) (dps_mono e a)
theorem dps_mono (e : Same H H') : ∀ {vs : List V} {ds : List D}, DpAll K H vs ds → DpAll K H' vs ds
  | _, _, .nil => .nil
  | _, _, .cons h t => .cons (dp_mono e h) (dps_mono e t)
end
theorem dps_len : ∀ {vs : List V} {ds : List D}, DpAll K H vs ds → vs.length = ds.length
  | _, _, .nil => rfl
  | _, _, .cons _ t => by rw [List.length_cons, List.length_cons, dps_len t]
theorem dps_app : ∀ {vs ws : List V} {ds es : List D}, DpAll K H vs ds → DpAll K H ws es → DpAll K H (vs ++ ws) (ds ++ es)
  | _, _, _, _, .nil, h => h
  | _, _, _, _, .cons h t, g => .cons h (dps_app t g)
theorem dps_get : ∀ {vs : List V} {ds : List D} {i : Nat} {d : D}, DpAll K H vs ds → ds[i]? = some d → ∃ v, vs[i]? = some v ∧ Dp K H v d
  | _, _, i, _, .nil, e => by simp at e
  | _, _, 0, _, .cons h t, e => by simp at e; subst e; exact ⟨_, rfl, h⟩
  | _, _, i + 1, d, .cons h t, e => by
    obtain ⟨v, e1, e2⟩ := dps_get (i := i) (d := d) t (by simpa using e)
    exact ⟨v, by simpa using e1, e2⟩
theorem dps_getv : ∀ {vs : List V} {ds : List D} {i : Nat} {v : V}, DpAll K H vs ds → vs[i]? = some v → ∃ d, ds[i]? = some d ∧ Dp K H v d
  | _, _, i, _, .nil, e => by simp at e
  | _, _, 0, _, .cons h t, e => by simp at e; subst e; exact ⟨_, rfl, h⟩
  | _, _, i + 1, v, .cons h t, e => by
    obtain ⟨d, e1, e2⟩ := dps_getv (i := i) (v := v) t (by simpa using e)
    exact ⟨d, by simpa using e1, e2⟩
theorem dps_take : ∀ {vs : List V} {ds : List D} (n : Nat), DpAll K H vs ds → DpAll K H (vs.take n) (ds.take n)
  | _, _, 0, _ => .nil
  | _, _, _ + 1, .nil => .nil
  | _, _, n + 1, .cons h t => .cons h (dps_take n t)
theorem dps_drop : ∀ {vs : List V} {ds : List D} (n : Nat), DpAll K H vs ds → DpAll K H (vs.drop n) (ds.drop n)
  | _, _, 0, h => h
  | _, _, _ + 1, .nil => .nil
  | _, _, n + 1, .cons _ t => dps_drop n t
theorem dps_rev {vs : List V} {ds : List D} (h : DpAll K H vs ds) : DpAll K H vs.reverse ds.reverse := by
  induction vs generalizing ds with
  | nil => cases h; exact .nil
  | cons v vs ih =>
    cases h with
    | cons h t =>
      rw [List.reverse_cons, List.reverse_cons]
      exact dps_app (ih t) (.cons h .nil)
theorem dps_set : ∀ {vs : List V} {ds : List D} (i : Nat) {v : V} {d : D}, DpAll K H vs ds → Dp K H v d → DpAll K H (vs.set i v) (ds.set i d)
  | _, _, _, _, _, .nil, _ => .nil
  | _, _, 0, _, _, .cons _ t, g => .cons g t
  | _, _, i + 1, _, _, .cons h t, g => .cons h (dps_set i t g)
theorem dps_erase : ∀ {vs : List V} {ds : List D} (i : Nat), DpAll K H vs ds → DpAll K H (vs.eraseIdx i) (ds.eraseIdx i)
  | _, _, _, .nil => .nil
  | _, _, 0, .cons _ t => t
  | _, _, i + 1, .cons h t => .cons h (dps_erase i t)
theorem dps_ints : ∀ {vs : List V} {ns : List Int}, DpAll K H vs (ns.map PyData.int) → vs = ns.map V.int
  | [], [], _ => rfl
  | _ :: _, [], h => by cases h
  | [], _ :: _, h => by cases h
  | v :: vs, n :: ns, h => by
    cases h with
    | cons h t =>
      cases h
      rw [List.map_cons, dps_ints t]
theorem dps_of_ints : ∀ (ns : List Int), DpAll K H (ns.map V.int) (ns.map PyData.int)
  | [] => .nil
  | n :: ns => .cons (.int n) (dps_of_ints ns)
theorem dps_bools : ∀ {vs : List V} {ns : List Bool}, DpAll K H vs (ns.map PyData.bool) → vs = ns.map V.bl
  | [], [], _ => rfl
  | _ :: _, [], h => by cases h
  | [], _ :: _, h => by cases h
  | v :: vs, n :: ns, h => by
    cases h with
    | cons h t =>
      cases h
      rw [List.map_cons, dps_bools t]
end

/-! ### what an expression gives: data, or a new list that nobody else knows -/
inductive Rv where
  | d (x : D)
  | l (xs : List D)
def Rv.toD : Rv → D
  | .d x => x
  | .l xs => .list xs
/-- an exception: its class's name, its fields -/
structure Exn where
  c : Str
  fs : List (Str × D)
/-- what else a slot may hold: a name that is not touched (pin), an instance that nobody changes, by its fields -/
inductive Xt where
  | pin
  | ob (c : Str) (fs : List (Str × D))
  | exn (x : Exn)
inductive Sl where
  | un | dt (x : D) | ow (xs : List D) | bo (xs : List D) | xt (x : Xt)
abbrev MEnv := List Sl

/-- what a def's frame leans on: foreign objects M that stand as HM says, what is pinned (Hs), lent objects by slot -/
structure Ctx where
  M : Addr → Prop
  HM : Hp
  Hs : Hp
  bo : Nat → Option Addr
  sp : Nat → Option V := fun _ => none
abbrev Ow := Nat → Option Addr
def Ctx.m (C : Ctx) (O : Ow) : Addr → Prop := fun a => C.M a ∨ ∃ i, O i = some a
def Ctx.add (C : Ctx) (p : Addr) (o : HO) : Ctx := { C with M := fun a => C.M a ∨ a = p, HM := upd C.HM p o }
def Ctx.pinAt (C : Ctx) (Hs : Hp) : Ctx := { C with Hs := Hs }
def Ow.put (O : Ow) (i : Nat) (x : Option Addr) : Ow := fun j => if j = i then x else O j
theorem put_same {O : Ow} {i : Nat} {x : Option Addr} : O.put i x i = x := if_pos rfl
theorem put_ne {O : Ow} {i j : Nat} {x : Option Addr} (h : j ≠ i) : O.put i x j = O j := if_neg h

/-- an instance by its fields -/
def FldOk (K : Fr) (H : Hp) (vs : List (Str × V)) (fs : List (Str × D)) : Prop := vs.map (·.1) = fs.map (·.1) ∧ DpAll K H (vs.map (·.2)) (fs.map (·.2))
def ObOk (K : Fr) (H : Hp) (v : V) (c : Str) (fs : List (Str × D)) : Prop :=
  ∃ (p C dx : Addr) (vs : List (Str × V)), v = .ref p ∧ PySem.W.nsIn K mainGlobals c = some (some (.ref C)) ∧ H p = some (.ins C dx vs) ∧ FldOk K H vs fs
theorem ObOk.mono {K : Fr} {H H' : Hp} {v : V} {c : Str} {fs : List (Str × D)} (e : Same H H') (h : ObOk K H v c fs) : ObOk K H' v c fs := by
  obtain ⟨p, C, dx, vs, h1, h2, h3, h4⟩ := h
  exact ⟨p, C, dx, vs, h1, h2, e _ _ h3, h4.1, dps_mono e h4.2⟩
/-- a caught exception's object -/
def ExT (cls : Value) (d : Option Addr) (a : Addr) : HO := .ext fun h => ∃ (oe : Obj) (vs : Array Value), h.get? a = some oe ∧ oe.cls = cls ∧ oe.dict = d ∧ oe.data = .fields vs
/-- an exception by its class and its dict -/
def XnOk (K : Fr) (H : Hp) (cls : Value) (d : Option Addr) (x : Exn) : Prop := (∃ C : Addr, PySem.W.nsIn K mainGlobals x.c = some (some (.ref C)) ∧ cls = .ref C) ∧
  ((x.fs = [] ∧ d = none) ∨ ∃ (dd : Addr) (vs : List (Str × V)), d = some dd ∧ H dd = some (.xd vs) ∧ FldOk K H vs x.fs)
theorem XnOk.mono {K : Fr} {H H' : Hp} {cls : Value} {d : Option Addr} {x : Exn} (e : Same H H') (h : XnOk K H cls d x) : XnOk K H' cls d x := by
  obtain ⟨h1, h2⟩ := h
  refine ⟨h1, h2.imp id fun ⟨dd, vs, g1, g2, g3⟩ => ⟨dd, vs, g1, e _ _ g2, g3.1, dps_mono e g3.2⟩⟩
def XtOk (K : Fr) (sp : Nat → Option V) (H : Hp) (i : Nat) (w : Option (Option V)) : Xt → Prop
  | .exn x => ∃ (a : Addr) (cls : Value) (d : Option Addr), w = some (some (.ref a)) ∧ H a = some (ExT cls d a) ∧ XnOk K H cls d x
  | .pin => ∀ v, sp i = some v → w = some (some v)
  | .ob c fs => ∃ v, w = some (some v) ∧ ObOk K H v c fs
theorem XtOk.mono {K : Fr} {sp : Nat → Option V} {H H' : Hp} {i : Nat} {w : Option (Option V)} : ∀ {x : Xt}, Same H H' → XtOk K sp H i w x → XtOk K sp H' i w x
  | .pin, _, h => h
  | .ob _ _, e, ⟨v, h1, h2⟩ => ⟨v, h1, h2.mono e⟩
  | .exn _, e, ⟨a, cls, d, h1, h2, h3⟩ => ⟨a, cls, d, h1, e _ _ h2, h3.mono e⟩

structure Rep (K : Fr) (C : Ctx) (env : MEnv) (σ : L2.St) (H : Hp) (O : Ow) : Prop where
  len : env.length = σ.length
  dt : ∀ (i : Nat) (d : D), env[i]? = some (Sl.dt d) → ∃ v : V, σ[i]? = some (some v) ∧ Dp K (msk (C.m O) H) v d
  ow : ∀ (i : Nat) (xs : List D), env[i]? = some (Sl.ow xs) → ∃ (p : Addr) (us : List V), O i = some p ∧ σ[i]? = some (some (V.ref p)) ∧ H p = some (HO.lst us) ∧ DpAll K (msk (C.m O) H) us xs
  bo : ∀ (i : Nat) (xs : List D), env[i]? = some (Sl.bo xs) → ∃ (p : Addr) (us : List V), O i = some p ∧ C.bo i = some p ∧ σ[i]? = some (some (V.ref p)) ∧ H p = some (HO.lst us) ∧ DpAll K (msk (C.m O) H) us xs
  inj : ∀ (i j : Nat) (p : Addr), O i = some p → O j = some p → i = j
  out : ∀ (i : Nat) (p : Addr), O i = some p → ¬ C.M p ∧ ∃ o : HO, H p = some o
  pin : Same C.Hs (msk (C.m O) H)
  frn : ∀ a : Addr, C.M a → H a = C.HM a ∧ ∃ o : HO, H a = some o
  xt : ∀ (i : Nat) (x : Xt), env[i]? = some (Sl.xt x) → XtOk K C.sp (msk (C.m O) H) i σ[i]? x

def Al (m : Addr → Prop) (H : Hp) : Prop := ∀ a, m a → ∃ o, H a = some o

section
variable {K : Fr} {C : Ctx} {env : MEnv} {σ : L2.St} {H H' : Hp} {O : Ow}
theorem Rep.al (R : Rep K C env σ H O) : Al (C.m O) H := fun a h => by
  rcases h with h | ⟨i, h⟩
  · exact (R.frn a h).2
  · exact (R.out i a h).2
/-- all that the frame sees is as it was, the hidden is as it was -/
theorem Rep.move (R : Rep K C env σ H O) (e : Same (msk (C.m O) H) (msk (C.m O) H')) (k : ∀ a, C.m O a → H' a = H a) : Rep K C env σ H' O where
  len := R.len
  dt := fun i d h => let ⟨v, h1, h2⟩ := R.dt i d h; ⟨v, h1, dp_mono e h2⟩
  ow := fun i xs h => let ⟨p, us, h0, h1, h2, h3⟩ := R.ow i xs h; ⟨p, us, h0, h1, (k p (.inr ⟨i, h0⟩)).trans h2, dps_mono e h3⟩
  bo := fun i xs h => let ⟨p, us, h0, hb, h1, h2, h3⟩ := R.bo i xs h; ⟨p, us, h0, hb, h1, (k p (.inr ⟨i, h0⟩)).trans h2, dps_mono e h3⟩
  inj := R.inj
  out := fun i p h => let ⟨h1, o, h2⟩ := R.out i p h; ⟨h1, o, (k p (.inr ⟨i, h⟩)).trans h2⟩
  pin := R.pin.trans e
  frn := fun a h => let ⟨h1, o, h2⟩ := R.frn a h; ⟨(k a (.inl h)).trans h1, o, (k a (.inl h)).trans h2⟩
  xt := fun i x h => (R.xt i x h).mono e
theorem Rep.grow (R : Rep K C env σ H O) (e : Same H H') : Rep K C env σ H' O :=
  R.move (msk_mono e) fun a h => by
    obtain ⟨o, h⟩ := R.al a h
    rw [h, e a o h]
theorem Rep.pinned (R : Rep K C env σ H O) : Rep K (C.pinAt (msk (C.m O) H)) env σ H O :=
  ⟨R.len, R.dt, R.ow, R.bo, R.inj, R.out, Same.refl _, R.frn, R.xt⟩
theorem Rep.unpin {Hs : Hp} (R : Rep K (C.pinAt Hs) env σ H O) (e : Same C.Hs Hs) : Rep K C env σ H O :=
  ⟨R.len, R.dt, R.ow, R.bo, R.inj, R.out, e.trans R.pin, R.frn, R.xt⟩
theorem Rep.repin {Hs : Hp} (R : Rep K C env σ H O) (e : Same Hs (msk (C.m O) H)) : Rep K (C.pinAt Hs) env σ H O :=
  ⟨R.len, R.dt, R.ow, R.bo, R.inj, R.out, e, R.frn, R.xt⟩
/-- a new object is hidden -/
theorem Rep.hide {p : Addr} {o : HO} (R : Rep K C env σ H O) (n : H p = none) (e : Same H H') (h : H' p = some o) : Rep K (C.add p o) env σ H' O := by
  have S : Same (msk (C.m O) H) (msk ((C.add p o).m O) H') := msk_new e fun a z => by
    rcases z with (z | z) | z
    · exact .inl (.inl z)
    · exact .inr (z ▸ n)
    · exact .inl (.inr z)
  refine ⟨R.len, fun i d h => ?_, fun i xs h => ?_, fun i xs h => ?_, R.inj, fun i q h => ?_, R.pin.trans S, fun a h => ?_, fun i x h => (R.xt i x h).mono S⟩
  · obtain ⟨v, h1, h2⟩ := R.dt i d h
    exact ⟨v, h1, dp_mono S h2⟩
  · obtain ⟨q, us, h0, h1, h2, h3⟩ := R.ow i xs h
    exact ⟨q, us, h0, h1, e _ _ h2, dps_mono S h3⟩
  · obtain ⟨q, us, h0, hb, h1, h2, h3⟩ := R.bo i xs h
    exact ⟨q, us, h0, hb, h1, e _ _ h2, dps_mono S h3⟩
  · obtain ⟨h1, u, h2⟩ := R.out i q h
    refine ⟨fun z => z.elim h1 fun z => ?_, u, e _ _ h2⟩
    subst z; rw [n] at h2; cases h2
  · by_cases ha : a = p
    · subst ha
      exact ⟨by show _ = upd C.HM a o a; rw [upd_same]; assumption, o, by assumption⟩
    · rcases h with h | h
      · obtain ⟨h1, u, h2⟩ := R.frn a h
        refine ⟨?_, u, e _ _ h2⟩
        show _ = upd C.HM p o a
        rw [upd_ne ha, ← h1, h2]; exact e _ _ h2
      · exact absurd h ha
theorem Rep.unhide {p : Addr} {o : HO} (R : Rep K (C.add p o) env σ H O) (n : ¬ C.M p) : Rep K C env σ H O := by
  have S : Same (msk ((C.add p o).m O) H) (msk (C.m O) H) := msk_anti fun a z => z.elim (fun z => .inl (.inl z)) .inr
  refine ⟨R.len, fun i d h => ?_, fun i xs h => ?_, fun i xs h => ?_, R.inj, fun i q h => ?_, R.pin.trans S, fun a h => ?_, fun i x h => (R.xt i x h).mono S⟩
  · obtain ⟨v, h1, h2⟩ := R.dt i d h
    exact ⟨v, h1, dp_mono S h2⟩
  · obtain ⟨q, us, h0, h1, h2, h3⟩ := R.ow i xs h
    exact ⟨q, us, h0, h1, h2, dps_mono S h3⟩
  · obtain ⟨q, us, h0, hb, h1, h2, h3⟩ := R.bo i xs h
    exact ⟨q, us, h0, hb, h1, h2, dps_mono S h3⟩
  · obtain ⟨h1, u, h2⟩ := R.out i q h
    exact ⟨fun z => h1 (.inl z), u, h2⟩
  · obtain ⟨h1, u, h2⟩ := R.frn a (.inl h)
    refine ⟨?_, u, h2⟩
    rw [h1]
    show upd C.HM p o a = _
    exact upd_ne fun e => n (e ▸ h)
theorem get_set_ne {α : Type} {l : List α} {i j : Nat} {x : α} (h : j ≠ i) : (l.set i x)[j]? = l[j]? := List.getElem?_set_ne (Ne.symm h)
theorem get_set_eq {α : Type} {l : List α} {i : Nat} {x y : α} (h : (l.set i x)[i]? = some y) : x = y ∧ i < l.length := by
  have hl : i < l.length := by
    have := (List.getElem?_eq_some_iff.mp h).1
    simpa using this
  rw [List.getElem?_set_self hl] at h
  exact ⟨Option.some.inj h, hl⟩
theorem xt_set {C' : Ctx} {O' : Ow} {i : Nat} {v : Option V} {s : Sl} {j : Nat} {x : Xt} (S : Same (msk (C.m O) H) (msk (C'.m O') H')) (R : Rep K C env σ H O) (he : (env.set i s)[j]? = some (.xt x)) (hs : s ≠ .xt x) (hsp : C'.sp = C.sp := by rfl) :
    XtOk K C'.sp (msk (C'.m O') H') j (σ.set i v)[j]? x := by
  by_cases hj : j = i
  · subst hj
    obtain ⟨e1, _⟩ := get_set_eq he
    exact absurd e1 hs
  · rw [get_set_ne hj] at he ⊢
    rw [hsp]
    exact (R.xt j x he).mono S
theorem xt_set0 {C' : Ctx} {O' : Ow} {i : Nat} {s : Sl} {j : Nat} {x : Xt} (S : Same (msk (C.m O) H) (msk (C'.m O') H')) (R : Rep K C env σ H O) (he : (env.set i s)[j]? = some (.xt x)) (hs : s ≠ .xt x) (hsp : C'.sp = C.sp := by rfl) :
    XtOk K C'.sp (msk (C'.m O') H') j σ[j]? x := by
  by_cases hj : j = i
  · subst hj
    obtain ⟨e1, _⟩ := get_set_eq he
    exact absurd e1 hs
  · rw [get_set_ne hj] at he
    rw [hsp]
    exact (R.xt j x he).mono S
/-- data to a slot -/
theorem Rep.setD {i : Nat} {v : V} {d : D} (R : Rep K C env σ H O) (h : Dp K (msk (C.m O) H) v d) :
    Rep K C (env.set i (.dt d)) (σ.set i (some v)) H (O.put i none) := by
  have A : ∀ a, C.m (O.put i none) a → C.m O a := fun a z => by
    rcases z with z | ⟨j, z⟩
    · exact .inl z
    · by_cases hj : j = i
      · subst hj; rw [put_same] at z; cases z
      · rw [put_ne hj] at z; exact .inr ⟨j, z⟩
  have S : Same (msk (C.m O) H) (msk (C.m (O.put i none)) H) := msk_anti A
  refine ⟨by rw [List.length_set, List.length_set]; exact R.len, fun j e he => ?_, fun j xs he => ?_, fun j xs he => ?_, fun j k p h1 h2 => ?_, fun j q hq => ?_, R.pin.trans S, R.frn, fun j x he => xt_set S R he (fun z => by cases z)⟩
  · by_cases hj : j = i
    · subst hj
      obtain ⟨e1, hl⟩ := get_set_eq he
      cases e1
      exact ⟨v, List.getElem?_set_self (by rw [← R.len]; exact hl), dp_mono S h⟩
    · rw [get_set_ne hj] at he ⊢
      obtain ⟨w, h1, h2⟩ := R.dt j e he
      exact ⟨w, h1, dp_mono S h2⟩
  · by_cases hj : j = i
    · subst hj
      obtain ⟨e1, hl⟩ := get_set_eq he
      cases e1
    · rw [get_set_ne hj] at he ⊢
      obtain ⟨q, us, h0, h1, h2, h3⟩ := R.ow j xs he
      exact ⟨q, us, by rw [put_ne hj]; exact h0, h1, h2, dps_mono S h3⟩
  · by_cases hj : j = i
    · subst hj
      obtain ⟨e1, hl⟩ := get_set_eq he
      cases e1
    · rw [get_set_ne hj] at he ⊢
      obtain ⟨q, us, h0, hb, h1, h2, h3⟩ := R.bo j xs he
      exact ⟨q, us, by rw [put_ne hj]; exact h0, hb, h1, h2, dps_mono S h3⟩
  · by_cases hj : j = i
    · subst hj; rw [put_same] at h1; cases h1
    · by_cases hk : k = i
      · subst hk; rw [put_same] at h2; cases h2
      · rw [put_ne hj] at h1; rw [put_ne hk] at h2; exact R.inj j k p h1 h2
  · by_cases hj : j = i
    · subst hj; rw [put_same] at hq; cases hq
    · rw [put_ne hj] at hq; exact R.out j q hq
/-- a hidden new list becomes a slot's own -/
theorem Rep.setO {i : Nat} {p : Addr} {o : HO} {us : List V} {xs : List D} (R : Rep K (C.add p o) env σ H O) (n : ¬ C.M p) (hp : H p = some (HO.lst us)) (h : DpAll K (msk ((C.add p o).m O) H) us xs) :
    Rep K C (env.set i (.ow xs)) (σ.set i (some (.ref p))) H (O.put i (some p)) := by
  have A : ∀ a, C.m (O.put i (some p)) a → (C.add p o).m O a := fun a z => by
    rcases z with z | ⟨j, z⟩
    · exact .inl (.inl z)
    · by_cases hj : j = i
      · subst hj; rw [put_same] at z; cases z; exact .inl (.inr rfl)
      · rw [put_ne hj] at z; exact .inr ⟨j, z⟩
  have S : Same (msk ((C.add p o).m O) H) (msk (C.m (O.put i (some p))) H) := msk_anti A
  have np : ∀ j, O j ≠ some p := fun j z => (R.out j p z).1 (.inr rfl)
  refine ⟨by rw [List.length_set, List.length_set]; exact R.len, fun j e he => ?_, fun j xs he => ?_, fun j xs he => ?_, fun j k q h1 h2 => ?_, fun j q hq => ?_, R.pin.trans S, (R.unhide n).frn, fun j x he => xt_set S R he (fun z => by cases z)⟩
  · by_cases hj : j = i
    · subst hj
      obtain ⟨e1, hl⟩ := get_set_eq he
      cases e1
    · rw [get_set_ne hj] at he ⊢
      obtain ⟨w, h1, h2⟩ := R.dt j e he
      exact ⟨w, h1, dp_mono S h2⟩
  · by_cases hj : j = i
    · subst hj
      obtain ⟨e1, hl⟩ := get_set_eq he
      cases e1
      exact ⟨p, us, put_same, List.getElem?_set_self (by rw [← R.len]; exact hl), hp, dps_mono S h⟩
    · rw [get_set_ne hj] at he ⊢
      obtain ⟨q, us, h0, h1, h2, h3⟩ := R.ow j xs he
      exact ⟨q, us, by rw [put_ne hj]; exact h0, h1, h2, dps_mono S h3⟩
  · by_cases hj : j = i
    · subst hj
      obtain ⟨e1, hl⟩ := get_set_eq he
      cases e1
    · rw [get_set_ne hj] at he ⊢
      obtain ⟨q, us, h0, hb, h1, h2, h3⟩ := R.bo j xs he
      exact ⟨q, us, by rw [put_ne hj]; exact h0, hb, h1, h2, dps_mono S h3⟩
  · by_cases hj : j = i
    · by_cases hk : k = i
      · rw [hj, hk]
      · subst hj; rw [put_same] at h1; rw [put_ne hk] at h2; cases h1; exact absurd h2 (np k)
    · by_cases hk : k = i
      · subst hk; rw [put_same] at h2; rw [put_ne hj] at h1; cases h2; exact absurd h1 (np j)
      · rw [put_ne hj] at h1; rw [put_ne hk] at h2; exact R.inj j k q h1 h2
  · by_cases hj : j = i
    · subst hj; rw [put_same] at hq; cases hq; exact ⟨n, _, hp⟩
    · rw [put_ne hj] at hq
      obtain ⟨h1, h2⟩ := R.out j q hq
      exact ⟨fun z => h1 (.inl z), h2⟩
/-- a slot's own list turns -/
theorem Rep.turn {i : Nat} {p : Addr} {us : List V} {xs ys : List D} {s : Sl} (R : Rep K C env σ H O) (hs : env[i]? = some s) (hk : (s = .ow xs ∧ True) ∨ s = .bo xs) (hO : O i = some p) (h : DpAll K (msk (C.m O) H) us ys) :
    Rep K C (env.set i (match s with | .bo _ => .bo ys | _ => .ow ys)) σ (upd H p (.lst us)) O := by
  have hm : C.m O p := .inr ⟨i, hO⟩
  have E : msk (C.m O) (upd H p (.lst us)) = msk (C.m O) H := msk_upd hm
  have hne : ∀ j q, O j = some q → j ≠ i → q ≠ p := fun j q h1 h2 e => h2 (R.inj j i p (e ▸ h1) hO)
  have hσ : σ[i]? = some (some (V.ref p)) := by
    rcases hk with ⟨hk, _⟩ | hk
    · subst hk
      obtain ⟨q, _, h0, h1, _⟩ := R.ow i xs hs
      rw [hO] at h0; cases h0; exact h1
    · subst hk
      obtain ⟨q, _, h0, _, h1, _⟩ := R.bo i xs hs
      rw [hO] at h0; cases h0; exact h1
  have hl : i < env.length := (List.getElem?_eq_some_iff.mp hs).1
  refine ⟨by rw [List.length_set]; exact R.len, fun j e he => ?_, fun j zs he => ?_, fun j zs he => ?_, R.inj, fun j q hq => ?_, by rw [E]; exact R.pin, fun a ha => ?_, fun j x he => ?_⟩
  · rw [E]
    by_cases hj : j = i
    · subst hj
      obtain ⟨e1, _⟩ := get_set_eq he
      rcases hk with ⟨hk, _⟩ | hk <;> (subst hk; cases e1)
    · rw [get_set_ne hj] at he
      exact R.dt j e he
  · rw [E]
    by_cases hj : j = i
    · subst hj
      obtain ⟨e1, _⟩ := get_set_eq he
      rcases hk with ⟨hk, _⟩ | hk
      · subst hk; cases e1
        exact ⟨p, us, hO, hσ, upd_same, h⟩
      · subst hk; cases e1
    · rw [get_set_ne hj] at he
      obtain ⟨q, vs, h0, h1, h2, h3⟩ := R.ow j zs he
      exact ⟨q, vs, h0, h1, by rw [upd_ne (hne j q h0 hj)]; exact h2, h3⟩
  · rw [E]
    by_cases hj : j = i
    · subst hj
      obtain ⟨e1, _⟩ := get_set_eq he
      rcases hk with ⟨hk, _⟩ | hk
      · subst hk; cases e1
      · subst hk; cases e1
        obtain ⟨q, vs, h0, hb, h1, h2, h3⟩ := R.bo j xs hs
        rw [hO] at h0; cases h0
        exact ⟨p, us, hO, hb, hσ, upd_same, h⟩
    · rw [get_set_ne hj] at he
      obtain ⟨q, vs, h0, hb, h1, h2, h3⟩ := R.bo j zs he
      exact ⟨q, vs, h0, hb, h1, by rw [upd_ne (hne j q h0 hj)]; exact h2, h3⟩
  · obtain ⟨h1, o, h2⟩ := R.out j q hq
    refine ⟨h1, ?_⟩
    by_cases e : q = p
    · subst e; exact ⟨_, upd_same⟩
    · exact ⟨o, by rw [upd_ne e]; exact h2⟩
  · obtain ⟨h1, o, h2⟩ := R.frn a ha
    have e : a ≠ p := fun e => (R.out i p hO).1 (e ▸ ha)
    rw [upd_ne e]
    exact ⟨h1, o, h2⟩
  · rw [E]
    by_cases hj : j = i
    · subst hj
      obtain ⟨e1, _⟩ := get_set_eq he
      rcases hk with ⟨hk, _⟩ | hk <;> (subst hk; cases e1)
    · rw [get_set_ne hj] at he
      exact R.xt j x he
end
end Mir

/-! Mir 2: readings by functions of the frame's data; expressions, tests, arguments, operators, calls. -/
namespace Mir
open PySem L2

theorem PE.imp {X : Cx} {e : Expr} {t t' : TE} (h : PE X e t) (i : ∀ σ H Q, t' σ H Q → t σ H Q) : PE X e t' := ⟨fun pins s σ H Q I q => h.run pins s σ H Q I (i σ H Q q)⟩
theorem PT.imp {X : Cx} {e : Expr} {t t' : TT} (h : PT X e t) (i : ∀ σ H Q, t' σ H Q → t σ H Q) : PT X e t' := ⟨fun pins s σ H Q I q => h.run pins s σ H Q I (i σ H Q q)⟩
theorem PTs.imp {X : Cx} {e : List Expr} {t t' : TT} (h : PTs X e t) (i : ∀ σ H Q, t' σ H Q → t σ H Q) : PTs X e t' := ⟨fun pins s σ H Q I q => h.run pins s σ H Q I (i σ H Q q)⟩
theorem PW.imp {X : Cx} {e : Expr} {t t' : TT} (h : PW X e t) (i : ∀ σ H Q, t' σ H Q → t σ H Q) : PW X e t' := ⟨fun wh pins s σ H Q I q => h.run wh pins s σ H Q I (i σ H Q q)⟩
theorem PA.imp {X : Cx} {e : List Expr} {t t' : TA} (h : PA X e t) (i : ∀ σ H Q, t' σ H Q → t σ H Q) : PA X e t' := ⟨fun pos pins s σ H Q I q => h.run pos pins s σ H Q I (i σ H Q q)⟩
theorem PS.imp {X : Cx} {e : Stmt} {t t' : TS} (h : PS X e t) (i : ∀ D σ H, t' D σ H → t D σ H) : PS X e t' := ⟨fun pins s σ H D I q => h.run pins s σ H D I (i D σ H q)⟩
theorem PSs.imp {X : Cx} {e : List Stmt} {t t' : TS} (h : PSs X e t) (i : ∀ D σ H, t' D σ H → t D σ H) : PSs X e t' := ⟨fun pins s σ H D I q => h.run pins s σ H D I (i D σ H q)⟩
theorem PI.imp {X : Cx} {tg e : Expr} {t t' : TI} (h : PI X tg e t) (i : ∀ σ H Q, t' σ H Q → t σ H Q) : PI X tg e t' := ⟨fun pins s σ H Q I q => h.run pins s σ H Q I (i σ H Q q)⟩
theorem OpR.imp {X : Cx} {f : Value → Value → Sem Value} {r r' : R2} (h : OpR X f r) (i : ∀ x y H Q, r' x y H Q → r x y H Q) : OpR X f r' := fun pins s σ H x y v u Q I rx ry q => h pins s σ H x y v u Q I rx ry (i x y H Q q)
theorem CallR.imp {X : Cx} {f : Value} {r r' : List V → Hp → VK → Prop} (h : CallR X f r) (i : ∀ x H Q, r' x H Q → r x H Q) : CallR X f r' := fun pins s σ H vs us Q I rx q => h pins s σ H vs us Q I rx (i vs H Q q)

/-! ### what is given -/
def PostE (K : Fr) (C : Ctx) (O : Ow) (σ : L2.St) (env : MEnv) (H : Hp) (v : V) : Rv → Prop
  | .d d => Rep K C env σ H O ∧ Dp K (msk (C.m O) H) v d
  | .l xs => ∃ (p : Addr) (us : List V), v = .ref p ∧ ¬ C.M p ∧ C.Hs p = none ∧ H p = some (.lst us) ∧ Rep K (C.add p (.lst us)) env σ H O ∧ DpAll K (msk ((C.add p (.lst us)).m O) H) us xs
abbrev FE := MEnv → Option (Rv × MEnv)
abbrev FD := MEnv → Option (D × MEnv)
abbrev FT := MEnv → Option (Bool × MEnv)
abbrev FA := MEnv → Option (List D × MEnv)
def teOf (K : Fr) (f : FE) : TE := fun σ H Q => ∃ (C : Ctx) (env : MEnv) (O : Ow) (r : Rv) (env' : MEnv), Rep K C env σ H O ∧ f env = some (r, env') ∧ ∀ v H' O', PostE K C O' σ env' H' v r → Q v H'
def ttOf (K : Fr) (f : FT) : TT := fun σ H Q => ∃ (C : Ctx) (env : MEnv) (O : Ow) (b : Bool) (env' : MEnv), Rep K C env σ H O ∧ f env = some (b, env') ∧ ∀ H' O', Rep K C env' σ H' O' → Q b H'
def taOf (K : Fr) (f : FA) : TA := fun σ H Q => ∃ (C : Ctx) (env : MEnv) (O : Ow) (ds : List D) (env' : MEnv), Rep K C env σ H O ∧ f env = some (ds, env') ∧ ∀ vs H' O', Rep K C env' σ H' O' → DpAll K (msk (C.m O') H') vs ds → Q vs H'
/-- by values: data in, data (or a new list) out, the heap grown -/
def RvOk (K : Fr) (m : Addr → Prop) (H H' : Hp) (v : V) : Rv → Prop
  | .d d => Dp K (msk m H') v d
  | .l xs => ∃ (p : Addr) (us : List V), v = .ref p ∧ H p = none ∧ H' p = some (.lst us) ∧ DpAll K (msk (fun a => m a ∨ a = p) H') us xs
def rD2 (K : Fr) (g : D → D → Option Rv) : R2 := fun x y H Q => ∃ (m : Addr → Prop) (d e : D) (r : Rv), Al m H ∧ Dp K (msk m H) x d ∧ Dp K (msk m H) y e ∧ g d e = some r ∧ ∀ v H', Same H H' → RvOk K m H H' v r → Q v H'
def rD1 (K : Fr) (g : D → Option Rv) : V → Hp → VK → Prop := fun x H Q => ∃ (m : Addr → Prop) (d : D) (r : Rv), Al m H ∧ Dp K (msk m H) x d ∧ g d = some r ∧ ∀ v H', Same H H' → RvOk K m H H' v r → Q v H'
def rDs (K : Fr) (g : List D → Option Rv) : List V → Hp → VK → Prop := fun xs H Q => ∃ (m : Addr → Prop) (ds : List D) (r : Rv), Al m H ∧ DpAll K (msk m H) xs ds ∧ g ds = some r ∧ ∀ v H', Same H H' → RvOk K m H H' v r → Q v H'

section
variable {K : Fr} {C : Ctx} {env : MEnv} {σ : L2.St} {H H' : Hp} {O : Ow} {v : V} {r : Rv}
theorem PostE.rep (h : PostE K C O σ env H v r) : Rep K C env σ H O := by
  cases r with
  | d d => exact h.1
  | l xs =>
    obtain ⟨p, us, _, n, _, _, R, _⟩ := h
    exact R.unhide n
theorem PostE.toD (h : PostE K C O σ env H v r) : Dp K (msk (C.m O) H) v r.toD := by
  cases r with
  | d d => exact h.2
  | l xs =>
    obtain ⟨p, us, e, n, _, hp, R, a⟩ := h
    subst e
    have np : ¬ C.m O p := fun z => z.elim n fun ⟨i, z⟩ => (R.out i p z).1 (.inr rfl)
    refine Dp.lst (.inl (.inl (?_ : msk (C.m O) H p = some (.lst us)))) (dps_mono (msk_anti fun a z => z.elim (fun z => .inl (.inl z)) .inr) a)
    rw [msk_no np]; exact hp
theorem RvOk.toD {m : Addr → Prop} (al : Al m H) (h : RvOk K m H H' v r) : Dp K (msk m H') v r.toD := by
  cases r with
  | d d => exact h
  | l xs =>
    obtain ⟨p, us, e, n, hp, a⟩ := h
    subst e
    have np : ¬ m p := fun z => by obtain ⟨o, z⟩ := al p z; rw [n] at z; cases z
    refine Dp.lst (.inl (.inl (?_ : msk m H' p = some (.lst us)))) (dps_mono (msk_anti fun a z => .inl z) a)
    rw [msk_no np]; exact hp
/-- what an operation by values gives, in the frame -/
theorem Rep.post (R : Rep K C env σ H O) (e : Same H H') (h : RvOk K (C.m O) H H' v r) : PostE K C O σ env H' v r := by
  cases r with
  | d d => exact ⟨R.grow e, h⟩
  | l xs =>
    obtain ⟨p, us, ev, n, hp, a⟩ := h
    have hm : ¬ C.M p := fun z => by obtain ⟨_, o, z⟩ := R.frn p z; rw [n] at z; cases z
    have hs : C.Hs p = none := by
      cases q : C.Hs p with
      | none => rfl
      | some o => have := msk_sub _ _ (R.pin p o q); rw [n] at this; cases this
    refine ⟨p, us, ev, hm, hs, hp, R.hide n e hp, dps_mono (msk_anti fun a z => ?_) a⟩
    rcases z with (z | z) | z
    · exact .inl (.inl z)
    · exact .inr z
    · exact .inl (.inr z)
/-- data known before stays known behind an expression -/
theorem Rep.keep {env' : MEnv} {O' : Ow} (R' : Rep K (C.pinAt (msk (C.m O) H)) env' σ H' O') {d : D} (h : Dp K (msk (C.m O) H) v d) : Dp K (msk (C.m O') H') v d := dp_mono R'.pin h
theorem Rep.keeps {env' : MEnv} {O' : Ow} (R' : Rep K (C.pinAt (msk (C.m O) H)) env' σ H' O') {vs : List V} {ds : List D} (h : DpAll K (msk (C.m O) H) vs ds) : DpAll K (msk (C.m O') H') vs ds := dps_mono R'.pin h
end

/-! ### functions of the frame's data -/
def mD (f : FE) : FD := fun env => match f env with | some (r, e) => some (r.toD, e) | none => none
def mVar (i : Nat) : FE := fun env => match env[i]? with | some (.dt d) => some (.d d, env) | _ => none
def mC (d : D) : FE := fun env => some (.d d, env)
def m1 (g : D → Option Rv) (f : FE) : FE := fun env => match f env with
  | some (r, e1) => (match g r.toD with | some z => some (z, e1) | none => none)
  | none => none
def m2 (g : D → D → Option Rv) (f h : FE) : FE := fun env => match f env with
  | some (r, e1) => (match h e1 with
    | some (s, e2) => (match g r.toD s.toD with | some z => some (z, e2) | none => none)
    | none => none)
  | none => none
def mNil : FA := fun env => some ([], env)
def mCons (f : FE) (fs : FA) : FA := fun env => match f env with
  | some (r, e1) => (match fs e1 with | some (ds, e2) => some (r.toD :: ds, e2) | none => none)
  | none => none
def mA (g : List D → Option Rv) (fs : FA) : FE := fun env => match fs env with
  | some (ds, e1) => (match g ds with | some z => some (z, e1) | none => none)
  | none => none
/-- tests -/
def tBool (f : FE) : FT := fun env => match f env with | some (.d (.bool b), e) => some (b, e) | _ => none
def tNot' (f : FT) : FT := fun env => match f env with | some (b, e) => some (!b, e) | none => none
def tAnd' (f g : FT) : FT := fun env => match f env with | some (true, e) => g e | some (false, e) => some (false, e) | none => none
def tOr' (f g : FT) : FT := fun env => match f env with | some (true, e) => some (true, e) | some (false, e) => g e | none => none
def mOfT (f : FT) : FE := fun env => match f env with | some (b, e) => some (.d (.bool b), e) | none => none
def mIf (t : FT) (f g : FE) : FE := fun env => match t env with | some (true, e) => f e | some (false, e) => g e | none => none

section
variable {X : Cx}
abbrev SE (X : Cx) (e : Expr) (f : FE) : Prop := PE X e (teOf X.K f)
abbrev ST (X : Cx) (e : Expr) (f : FT) : Prop := PT X e (ttOf X.K f)
abbrev SA (X : Cx) (es : List Expr) (f : FA) : Prop := PA X es (taOf X.K f)
/-- an expression's reading, run for its data in front of another one -/
theorem te_run {K : Fr} {f : FE} {σ : L2.St} {H : Hp} {Q : VK} {C : Ctx} {env : MEnv} {O : Ow} {r : Rv} {env' : MEnv} (R : Rep K C env σ H O) (e : f env = some (r, env'))
    (q : ∀ v H' O', Rep K (C.pinAt (msk (C.m O) H)) env' σ H' O' → Rep K C env' σ H' O' → Dp K (msk (C.m O') H') v r.toD → Q v H') : teOf K f σ H Q :=
  ⟨C.pinAt (msk (C.m O) H), env, O, r, env', R.pinned, e, fun v H' O' p => q v H' O' p.rep (p.rep.unpin R.pin) p.toD⟩
theorem se_var {i : Nat} {x : Str} {pos : Pos} (h : PE X (.Name x pos) (tVar i)) : SE X (.Name x pos) (mVar i) := PE.imp h fun σ H Q q => by
  obtain ⟨C, env, O, r, env', R, e, q⟩ := q
  unfold mVar at e
  split at e
  · rename_i d hd
    cases e
    obtain ⟨v, h1, h2⟩ := R.dt i d hd
    exact ⟨v, h1, q v H O ⟨R, h2⟩⟩
  · cases e
theorem se_c {e : Expr} {v : V} {d : D} (h : PE X e (tC v)) (hd : ∀ K H, Dp K H v d) : SE X e (mC d) := PE.imp h fun σ H Q q => by
  obtain ⟨C, env, O, r, env', R, e, q⟩ := q
  cases e
  exact q v H O ⟨R, hd _ _⟩
theorem se_int {i : Int} {j pos} : SE X (.Constant (.int i) j pos) (mC (.int i)) := se_c pe_int fun _ _ => .int i
theorem se_str {z : Str} {j pos} : SE X (.Constant (.str z) j pos) (mC (.str z)) := se_c pe_str fun _ _ => .str z
theorem se_bl {b : Bool} {j pos} : SE X (.Constant (.bool b) j pos) (mC (.bool b)) := se_c pe_bl fun _ _ => .bl b
theorem se_non {j pos} : SE X (.Constant .none j pos) (mC .none) := se_c pe_non fun _ _ => .non
theorem te_op {K : Fr} {f g : FE} {r : R2} {z : D → D → Option Rv} (hr : ∀ x y H Q, rD2 K z x y H Q → r x y H Q) : ∀ σ H Q, teOf K (m2 z f g) σ H Q → tOp r (teOf K f) (teOf K g) σ H Q := fun σ H Q q => by
  obtain ⟨C, env, O, rr, env', R, e, q⟩ := q
  unfold m2 at e
  split at e
  · rename_i r1 e1 h1
    split at e
    · rename_i r2 e2 h2
      split at e
      · rename_i r3 h3
        cases e
        refine te_run R h1 fun v H1 O1 _ R1 d1 => te_run R1 h2 fun w H2 O2 P2 R2 d2 => hr _ _ _ _ ⟨C.m O2, _, _, _, R2.al, P2.keep d1, d2, h3, fun u H' s k => q u H' O2 (R2.post s k)⟩
      · cases e
    · cases e
  · cases e
theorem se_op {a b : Expr} {op : Operator} {pos : Pos} {f g : FE} {z : D → D → Option Rv} (ho : OpR X (binaryOp op) (rD2 X.K z)) (ha : SE X a f) (hb : SE X b g) : SE X (.BinOp a op b pos) (m2 z f g) :=
  PE.imp (pe_op ho ha hb) (te_op fun _ _ _ _ h => h)
theorem se_cmp {a b : Expr} {op : CmpOp} {pos : Pos} {f g : FE} {z : D → D → Option Rv} (ho : OpR X (compareOp op) (rD2 X.K z)) (ha : SE X a f) (hb : SE X b g) (hm : behindInMarks op b = false) : SE X (.Compare a [op] [b] pos) (m2 z f g) :=
  PE.imp (pe_cmpR ho ha hb hm) (te_op fun _ _ _ _ h => h)
theorem te_un {K : Fr} {f : FE} {r : V → Hp → VK → Prop} {z : D → Option Rv} (hr : ∀ x H Q, rD1 K z x H Q → r x H Q) : ∀ σ H Q, teOf K (m1 z f) σ H Q → tUn r (teOf K f) σ H Q := fun σ H Q q => by
  obtain ⟨C, env, O, rr, env', R, e, q⟩ := q
  unfold m1 at e
  split at e
  · rename_i r1 e1 h1
    split at e
    · rename_i r3 h3
      cases e
      refine te_run R h1 fun v H1 O1 _ R1 d1 => hr _ _ _ ⟨C.m O1, _, _, R1.al, d1, h3, fun u H' s k => q u H' O1 (R1.post s k)⟩
    · cases e
  · cases e
theorem se_un {a : Expr} {op : UnaryOp} {pos : Pos} {f : FE} {z : D → Option Rv} (ho : UnR X (unaryOp op) (rD1 X.K z)) (ha : SE X a f) : SE X (.UnaryOp op a pos) (m1 z f) :=
  PE.imp (pe_un ho ha) (te_un fun _ _ _ h => h)
theorem sa_nil : SA X [] mNil := PA.imp pa_nil fun σ H Q q => by
  obtain ⟨C, env, O, ds, env', R, e, q⟩ := q
  cases e
  exact q [] H O R .nil
theorem sa_cons {e : Expr} {es : List Expr} {f : FE} {g : FA} (ha : SE X e f) (hr : SA X es g) (hs : starEach (e :: es) X.env = (false, eval e X.env) :: starEach es X.env := by rfl) : SA X (e :: es) (mCons f g) := PA.imp (pa_cons ha hr hs) fun σ H Q q => by
  obtain ⟨C, env, O, ds, env', R, e, q⟩ := q
  unfold mCons at e
  split at e
  · rename_i r1 e1 h1
    split at e
    · rename_i r2 e2 h2
      cases e
      refine te_run R h1 fun v H1 O1 _ R1 d1 => ?_
      exact ⟨C.pinAt (msk (C.m O1) H1), e1, O1, _, _, R1.pinned, h2, fun vs H2 O2 R2 a2 => q _ _ O2 (R2.unpin R1.pin) (.cons (R2.keep d1) a2)⟩
    · cases e
  · cases e
theorem te_call {K : Fr} {f : FA} {r : List V → Hp → VK → Prop} {z : List D → Option Rv} (hr : ∀ x H Q, rDs K z x H Q → r x H Q) : ∀ σ H Q, teOf K (mA z f) σ H Q → tCB r (taOf K f) σ H Q := fun σ H Q q => by
  obtain ⟨C, env, O, rr, env', R, e, q⟩ := q
  unfold mA at e
  split at e
  · rename_i ds e1 h1
    split at e
    · rename_i r3 h3
      cases e
      exact ⟨C, env, O, ds, _, R, h1, fun vs H1 O1 R1 a1 => hr _ _ _ ⟨C.m O1, _, _, R1.al, a1, h3, fun u H' s k => q u H' O1 (R1.post s k)⟩⟩
    · cases e
  · cases e
/-- a built-in by its name: a function; a class -/
theorem se_callB {id : String} {x : Str} {e : Expr} {es : List Expr} {f : FA} {z : List D → Option Rv} {p pos : Pos} (hc : CallR X (.builtin id) (rDs X.K z)) (hg : Gl X x) (hm : X.mg x = none) (hv : bootBuiltins x = some (.builtin id)) (ha : SA X (e :: es) f)
    (hn : x ≠ "__name__" := by decide) (hdb : (x == ("__debug__" : Str)) = false := by decide) (he : starEach (e :: es) X.env = (false, eval e X.env) :: starEach es X.env := by rfl)
    (hpl : (backTo pos (starEach es X.env)).any (·.1) = false := by rfl) : SE X (.Call (.Name x p) (e :: es) [] pos) (mA z f) := PE.imp (pe_callB hc hg hm hv ha hn hdb he hpl) (te_call fun _ _ _ h => h)
theorem se_callTy {T : String} {x : Str} {e : Expr} {es : List Expr} {f : FA} {z : List D → Option Rv} {p pos : Pos} (hc : CallR X (.type T) (rDs X.K z)) (hg : Gl X x) (hm : X.mg x = none) (hv : bootBuiltins x = some (.type T)) (ha : SA X (e :: es) f)
    (hn : x ≠ "__name__" := by decide) (hdb : (x == ("__debug__" : Str)) = false := by decide) (he : starEach (e :: es) X.env = (false, eval e X.env) :: starEach es X.env := by rfl)
    (hpl : (backTo pos (starEach es X.env)).any (·.1) = false := by rfl) : SE X (.Call (.Name x p) (e :: es) [] pos) (mA z f) := PE.imp (pe_callTy hc hg hm hv ha hn hdb he hpl) (te_call fun _ _ _ h => h)
/-- an own def of data -/
def spP (K : Fr) (n : Nat) (z : List D → Option Rv) : Sp := fun vs H Q _ => vs.length = n ∧ rDs K z vs H Q
theorem se_call {k n : Nat} {f : Addr} {fd : FuncData} {ps : List Str} {x : Str} {e : Expr} {es : List Expr} {g : FA} {z : List D → Option Rv} {p pos : Pos} (F : FnOk X.prog X.w X.K X.mg X.base CX0 k f fd ps (spP X.K n z)) (hr : Room k X.A) (hg : Gl X x) (hm : X.mg x = some (.ref f)) (hk : PySem.W.keepIn X.K (.ref f) = true) (hb : Binds X.K fd ps [])
    (ha : SA X (e :: es) g) (hz : ∀ ds r, z ds = some r → ds.length = n) (hdb : (x == ("__debug__" : Str)) = false := by decide) (he : starEach (e :: es) X.env = (false, eval e X.env) :: starEach es X.env := by rfl) (hpl : (backTo pos (starEach es X.env)).any (·.1) = false := by rfl) :
    SE X (.Call (.Name x p) (e :: es) [] pos) (mA z g) := PE.imp (pe_call F hr hg hm hk hb .nil pass0 ha hdb he hpl) fun σ H Q q => te_call (r := fun vs H Q => spP X.K n z (vs ++ []) H Q E0) (fun vs H Q h => by
      rw [List.append_nil]
      refine ⟨?_, h⟩
      obtain ⟨m, ds, r, _, a, e, _⟩ := h
      rw [dps_len a, hz ds r e]) σ H Q q
/-! tests -/
theorem st_val {e : Expr} {f : FE} (h : PT X e (tB (teOf X.K f))) : ST X e (tBool f) := PT.imp h fun σ H Q q => by
  obtain ⟨C, env, O, b, env', R, e, q⟩ := q
  unfold tBool at e
  split at e
  · rename_i b' e1 h1
    cases e
    refine ⟨C, env, O, _, _, R, h1, fun v H' O' p => ?_⟩
    obtain ⟨p1, p2⟩ := p
    cases p2
    exact ⟨b, rfl, q H' O' p1⟩
  · cases e
theorem st_not {e : Expr} {f : FT} {pos : Pos} (h : ST X e f) : ST X (.UnaryOp .Not e pos) (tNot' f) := PT.imp (pt_not h) fun σ H Q q => by
  obtain ⟨C, env, O, b, env', R, e, q⟩ := q
  unfold tNot' at e
  split at e
  · rename_i b' e1 h1
    cases e
    exact ⟨C, env, O, _, _, R, h1, fun H' O' p => q H' O' p⟩
  · cases e
theorem tt_and {K : Fr} {f g : FT} : ∀ σ H Q, ttOf K (tAnd' f g) σ H Q → tAnd (ttOf K f) (ttOf K g) σ H Q := fun σ H Q q => by
  obtain ⟨C, env, O, b, env', R, e, q⟩ := q
  unfold tAnd' at e
  split at e
  · rename_i e1 h1
    refine ⟨C, env, O, _, _, R, h1, fun H' O' p => ?_⟩
    refine iteT ?_
    exact ⟨C, _, O', _, _, p, e, q⟩
  · rename_i e1 h1
    cases e
    refine ⟨C, env, O, _, _, R, h1, fun H' O' p => ?_⟩
    refine iteF ?_
    exact q H' O' p
  · cases e
theorem tt_or {K : Fr} {f g : FT} : ∀ σ H Q, ttOf K (tOr' f g) σ H Q → tOr (ttOf K f) (ttOf K g) σ H Q := fun σ H Q q => by
  obtain ⟨C, env, O, b, env', R, e, q⟩ := q
  unfold tOr' at e
  split at e
  · rename_i e1 h1
    cases e
    refine ⟨C, env, O, _, _, R, h1, fun H' O' p => ?_⟩
    refine iteT ?_
    exact q H' O' p
  · rename_i e1 h1
    refine ⟨C, env, O, _, _, R, h1, fun H' O' p => ?_⟩
    refine iteF ?_
    exact ⟨C, _, O', _, _, p, e, q⟩
  · cases e
abbrev SW (X : Cx) (e : Expr) (f : FT) : Prop := PW X e (ttOf X.K f)
/-! values of and, or, not: truths -/
theorem te_andV {K : Fr} {f g : FE} : ∀ σ H Q, teOf K (mOfT (tAnd' (tBool f) (tBool g))) σ H Q → tAndV (teOf K f) (teOf K g) σ H Q := fun σ H Q q => by
  obtain ⟨C, env, O, r, env', R, e, q⟩ := q
  unfold mOfT at e
  split at e
  · rename_i b e1 h1
    cases e
    unfold tAnd' tBool at h1
    split at h1
    · rename_i e2 h2
      split at h2
      · rename_i b' e3 h3
        cases h2
        refine ⟨C, env, O, _, _, R, h3, fun v H' O' p => ?_⟩
        obtain ⟨p1, p2⟩ := p
        cases p2
        refine ⟨_, rfl, ?_⟩
        refine iteT ?_
        split at h1
        · rename_i b'' e4 h4
          cases h1
          exact ⟨C, _, O', _, _, p1, h4, q⟩
        · cases h1
      · cases h2
    · rename_i e2 h2
      cases h1
      split at h2
      · rename_i b' e3 h3
        cases h2
        refine ⟨C, env, O, _, _, R, h3, fun v H' O' p => ?_⟩
        obtain ⟨p1, p2⟩ := p
        cases p2
        refine ⟨_, rfl, ?_⟩
        refine iteF ?_
        exact q _ H' O' ⟨p1, .bl false⟩
      · cases h2
    · cases h1
  · cases e
theorem te_orV {K : Fr} {f g : FE} : ∀ σ H Q, teOf K (mOfT (tOr' (tBool f) (tBool g))) σ H Q → tOrV (teOf K f) (teOf K g) σ H Q := fun σ H Q q => by
  obtain ⟨C, env, O, r, env', R, e, q⟩ := q
  unfold mOfT at e
  split at e
  · rename_i b e1 h1
    cases e
    unfold tOr' tBool at h1
    split at h1
    · rename_i e2 h2
      cases h1
      split at h2
      · rename_i b' e3 h3
        cases h2
        refine ⟨C, env, O, _, _, R, h3, fun v H' O' p => ?_⟩
        obtain ⟨p1, p2⟩ := p
        cases p2
        refine ⟨_, rfl, ?_⟩
        refine iteT ?_
        exact q _ H' O' ⟨p1, .bl true⟩
      · cases h2
    · rename_i e2 h2
      split at h2
      · rename_i b' e3 h3
        cases h2
        refine ⟨C, env, O, _, _, R, h3, fun v H' O' p => ?_⟩
        obtain ⟨p1, p2⟩ := p
        cases p2
        refine ⟨_, rfl, ?_⟩
        refine iteF ?_
        split at h1
        · rename_i b'' e4 h4
          cases h1
          exact ⟨C, _, O', _, _, p1, h4, q⟩
        · cases h1
      · cases h2
    · cases h1
  · cases e
def mAnd (f g : FE) : FE := mOfT (tAnd' (tBool f) (tBool g))
def mOr (f g : FE) : FE := mOfT (tOr' (tBool f) (tBool g))
theorem se_and {a b : Expr} {rest : List Expr} {pos : Pos} {f g : FE} (ha : SE X a f) (hb : SE X (.BoolOp .And (b :: rest) pos) g) : SE X (.BoolOp .And (a :: b :: rest) pos) (mAnd f g) := PE.imp (pe_and ha hb) te_andV
theorem se_or {a b : Expr} {rest : List Expr} {pos : Pos} {f g : FE} (ha : SE X a f) (hb : SE X (.BoolOp .Or (b :: rest) pos) g) : SE X (.BoolOp .Or (a :: b :: rest) pos) (mOr f g) := PE.imp (pe_or ha hb) te_orV
theorem se_one {a : Expr} {op : BoolOp} {pos : Pos} {f : FE} (ha : SE X a f) : SE X (.BoolOp op [a] pos) f := pe_one ha
theorem te_notV {K : Fr} {f : FE} : ∀ σ H Q, teOf K (mOfT (tNot' (tBool f))) σ H Q → tNotV (teOf K f) σ H Q := fun σ H Q q => by
  obtain ⟨C, env, O, r, env', R, e, q⟩ := q
  unfold mOfT tNot' tBool at e
  split at e
  · rename_i b e1 h1
    cases e
    split at h1
    · rename_i b' e2 h2
      cases h1
      split at h2
      · rename_i b3 e3 h3
        cases h2
        refine ⟨C, env, O, _, _, R, h3, fun v H' O' p => ?_⟩
        obtain ⟨p1, p2⟩ := p
        cases p2
        exact ⟨_, rfl, q _ H' O' ⟨p1, .bl _⟩⟩
      · cases h2
    · cases h1
  · cases e
def mNot (f : FE) : FE := mOfT (tNot' (tBool f))
theorem se_not {a : Expr} {pos : Pos} {f : FE} (ha : SE X a f) : SE X (.UnaryOp .Not a pos) (mNot f) := PE.imp (pe_not ha) te_notV
theorem se_if {c a b : Expr} {pos : Pos} {t : FT} {f g : FE} (hc : ST X c t) (ha : SE X a f) (hb : SE X b g) : SE X (.IfExp c a b pos) (mIf t f g) := PE.imp (pe_ifExp hc ha hb) fun σ H Q q => by
  obtain ⟨C, env, O, r, env', R, e, q⟩ := q
  unfold mIf at e
  split at e
  · rename_i e1 h1
    refine ⟨C, env, O, _, _, R, h1, fun H' O' p => ?_⟩
    refine iteT ?_
    exact ⟨C, _, O', _, _, p, e, q⟩
  · rename_i e1 h1
    refine ⟨C, env, O, _, _, R, h1, fun H' O' p => ?_⟩
    refine iteF ?_
    exact ⟨C, _, O', _, _, p, e, q⟩
  · cases e
/-! displays -/
def dTup (ds : List D) : Option Rv := if ds.length ≤ sizeLine then some (.d (.tuple ds)) else none
def dLst (ds : List D) : Option Rv := if ds.length ≤ sizeLine then some (.l ds) else none
theorem se_tup {es : List Expr} {k : Nat} {pos : Pos} {f : FA} (h : SA X es f) : SE X (.Tuple es k pos) (mA dTup f) := PE.imp (pe_tup h) fun σ H Q q => te_call (r := fun xs H Q => xs.length ≤ sizeLine ∧ ∀ p, H p = none → Q (.ref p) (upd H p (.tup xs))) (fun vs H Q h => by
  obtain ⟨m, ds, r, al, a, e, q⟩ := h
  unfold dTup at e
  split at e
  · rename_i hl
    cases e
    refine ⟨by rw [dps_len a]; exact hl, fun p n => q _ _ (same_new n) ?_⟩
    have np : ¬ m p := fun z => by obtain ⟨o, z⟩ := al p z; rw [n] at z; cases z
    exact Dp.tup (.inl (.inl (by rw [msk_no np, upd_same]))) (dps_mono (msk_mono (same_new n)) a)
  · cases e) σ H Q q
theorem rv_new {K : Fr} {m : Addr → Prop} {H : Hp} {p : Addr} {us : List V} {xs : List D} (n : H p = none) (a : DpAll K (msk m H) us xs) : RvOk K m H (upd H p (.lst us)) (.ref p) (.l xs) :=
  ⟨p, us, rfl, n, upd_same, dps_mono (msk_new (same_new n) fun b z => z.elim .inl fun z => .inr (z ▸ n)) a⟩
theorem dp_newT {K : Fr} {m : Addr → Prop} {H : Hp} {p : Addr} {us : List V} {xs : List D} (al : Al m H) (n : H p = none) (a : DpAll K (msk m H) us xs) : Dp K (msk m (upd H p (.tup us))) (.ref p) (.tuple xs) := by
  have np : ¬ m p := fun z => by obtain ⟨o, z⟩ := al p z; rw [n] at z; cases z
  exact Dp.tup (.inl (.inl (by rw [msk_no np, upd_same]))) (dps_mono (msk_mono (same_new n)) a)
theorem se_lst {es : List Expr} {pos : Pos} {f : FA} (h : SA X es f) : SE X (.List es pos) (mA dLst f) := PE.imp (pe_lst h) fun σ H Q q => te_call (r := fun xs H Q => xs.length ≤ sizeLine ∧ ∀ p, H p = none → Q (.ref p) (upd H p (.lst xs))) (fun vs H Q h => by
  obtain ⟨m, ds, r, al, a, e, q⟩ := h
  unfold dLst at e
  split at e
  · rename_i hl
    cases e
    exact ⟨by rw [dps_len a]; exact hl, fun p n => q _ _ (same_new n) (rv_new n a)⟩
  · cases e) σ H Q q
end
end Mir

/-! Mir 3: statements, loops, comprehensions, a def's body. -/
namespace Mir
open PySem L2

inductive Fl where
  | nx | bk | ct | rt (r : Rv)
abbrev FS := MEnv → Option (Fl × MEnv)
def PostS (K : Fr) (C : Ctx) (Dn : Ends) (env : MEnv) : Fl → Prop
  | .nx => ∀ σ H O, Rep K C env σ H O → Dn.nx σ H
  | .bk => ∀ σ H O, Rep K C env σ H O → Dn.bk σ H
  | .ct => ∀ σ H O, Rep K C env σ H O → Dn.ct σ H
  | .rt r => ∀ v σ H O, PostE K C O σ env H v r → Dn.rt v H
def tsOf (K : Fr) (g : FS) : TS := fun Dn σ H => ∃ (C : Ctx) (env : MEnv) (O : Ow) (fl : Fl) (env' : MEnv), Rep K C env σ H O ∧ g env = some (fl, env') ∧ PostS K C Dn env' fl
abbrev SS (X : Cx) (s : Stmt) (g : FS) : Prop := PS X s (tsOf X.K g)
abbrev SSs (X : Cx) (s : List Stmt) (g : FS) : Prop := PSs X s (tsOf X.K g)

/-! functions -/
def mNx : FS := fun env => some (.nx, env)
def mSeq (f g : FS) : FS := fun env => match f env with | some (.nx, e) => g e | o => o
def mSet (i : Nat) (f : FE) : FS := fun env => match f env with | some (r, e) => some (.nx, e.set i (.dt r.toD)) | none => none
def mOwn (i : Nat) (f : FE) : FS := fun env => match f env with | some (.l xs, e) => some (.nx, e.set i (.ow xs)) | _ => none
def mRet (f : FE) : FS := fun env => match f env with | some (r, e) => some (.rt r, e) | none => none
def mRetD (f : FE) : FS := fun env => match f env with | some (r, e) => some (.rt (.d r.toD), e) | none => none
def mDrop (f : FE) : FS := fun env => match f env with | some (_, e) => some (.nx, e) | none => none
def mIfS (t : FT) (f g : FS) : FS := fun env => match t env with | some (true, e) => f e | some (false, e) => g e | none => none
def mCt : FS := fun env => some (.ct, env)
def mBk : FS := fun env => some (.bk, env)
abbrev UG := D → MEnv → Option MEnv
abbrev UGs := List D → MEnv → Option MEnv
def loopF (u : UG) (body : FS) : List D → MEnv → Option (Fl × MEnv)
  | [], env => some (.nx, env)
  | d :: ds, env => match u d env with
    | none => none
    | some e1 => match body e1 with
      | none => none
      | some (.nx, e2) => loopF u body ds e2
      | some (.ct, e2) => loopF u body ds e2
      | some (.bk, e2) => some (.nx, e2)
      | some (.rt r, e2) => some (.rt r, e2)
def mFor (src : FA) (u : UG) (body : FS) : FS := fun env => match src env with | some (ds, e) => loopF u body ds e | none => none

section
variable {K : Fr} {C : Ctx} {O : Ow} {σ : L2.St} {env : MEnv} {H : Hp} {v : V} {r : Rv}
theorem PostE.unpin {Hs : Hp} (h : PostE K (C.pinAt Hs) O σ env H v r) (e : Same C.Hs Hs) : PostE K C O σ env H v r := by
  cases r with
  | d d => exact ⟨h.1.unpin e, h.2⟩
  | l xs =>
    obtain ⟨p, us, e1, n, hs, hp, R, a⟩ := h
    refine ⟨p, us, e1, n, ?_, hp, Rep.unpin (C := C.add p (.lst us)) (Hs := Hs) R e, a⟩
    cases q : C.Hs p with
    | none => rfl
    | some o => have := e p o q; have hs : Hs p = none := hs; rw [hs] at this; cases this
theorem PostE.data (h : PostE K C O σ env H v r) : PostE K C O σ env H v (.d r.toD) := ⟨h.rep, h.toD⟩
end

section
variable {X : Cx}
theorem ss_nil : SSs X [] mNx := PSs.imp pss_nil fun Dn σ H q => by
  obtain ⟨C, env, O, fl, env', R, e, q⟩ := q
  cases e
  exact q σ H O R
theorem ts_seq {K : Fr} {f g : FS} : ∀ Dn σ H, tsOf K (mSeq f g) Dn σ H → tSeq (tsOf K f) (tsOf K g) Dn σ H := fun Dn σ H q => by
  obtain ⟨C, env, O, fl, env', R, e, q⟩ := q
  unfold mSeq at e
  split at e
  · rename_i e1 h1
    exact ⟨C, env, O, .nx, e1, R, h1, fun σ' H' O' R' => ⟨C, e1, O', fl, env', R', e, q⟩⟩
  · rename_i o hne
    refine ⟨C, env, O, fl, env', R, e, ?_⟩
    cases fl with
    | nx => exact absurd e (hne env')
    | bk => exact q
    | ct => exact q
    | rt r => exact q
theorem ss_cons {s : Stmt} {ss : List Stmt} {f g : FS} (h1 : SS X s f) (h2 : SSs X ss g) : SSs X (s :: ss) (mSeq f g) := PSs.imp (pss_cons h1 h2) ts_seq
theorem ss_one {s : Stmt} {f : FS} (h1 : SS X s f) : SSs X [s] f := pss_one h1
theorem ts_set {K : Fr} {i : Nat} {f : FE} : ∀ Dn σ H, tsOf K (mSet i f) Dn σ H → tAsg (teOf K f) (gName i) Dn σ H := fun Dn σ H q => by
  obtain ⟨C, env, O, fl, env', R, e, q⟩ := q
  unfold mSet at e
  split at e
  · rename_i r e1 h1
    cases e
    exact ⟨C, env, O, _, _, R, h1, fun v H' O' p => q _ H' _ (p.rep.setD p.toD)⟩
  · cases e
theorem ts_own {K : Fr} {i : Nat} {f : FE} : ∀ Dn σ H, tsOf K (mOwn i f) Dn σ H → tAsg (teOf K f) (gName i) Dn σ H := fun Dn σ H q => by
  obtain ⟨C, env, O, fl, env', R, e, q⟩ := q
  unfold mOwn at e
  split at e
  · rename_i xs e1 h1
    cases e
    refine ⟨C, env, O, _, _, R, h1, fun v H' O' p => ?_⟩
    obtain ⟨p, us, e1, n, hs, hp, R', a⟩ := p
    subst e1
    exact q _ H' _ (R'.setO n hp a)
  · cases e
theorem ss_set {i : Nat} {x : Str} {e : Expr} {f : FE} {pos pos' : Pos} (h : PS X (.Assign [.Name x pos'] e pos) (tAsg (teOf X.K f) (gName i))) : SS X (.Assign [.Name x pos'] e pos) (mSet i f) := PS.imp h ts_set
theorem ss_own {i : Nat} {x : Str} {e : Expr} {f : FE} {pos pos' : Pos} (h : PS X (.Assign [.Name x pos'] e pos) (tAsg (teOf X.K f) (gName i))) : SS X (.Assign [.Name x pos'] e pos) (mOwn i f) := PS.imp h ts_own
theorem ss_ret {e : Expr} {f : FE} {pos : Pos} (h : SE X e f) : SS X (.Return (some e) pos) (mRet f) := PS.imp (ps_ret h) fun Dn σ H q => by
  obtain ⟨C, env, O, fl, env', R, e, q⟩ := q
  unfold mRet at e
  split at e
  · rename_i r e1 h1
    cases e
    exact ⟨C, env, O, _, _, R, h1, fun v H' O' p => q v σ H' O' p⟩
  · cases e
theorem ss_retD {e : Expr} {f : FE} {pos : Pos} (h : SE X e f) : SS X (.Return (some e) pos) (mRetD f) := PS.imp (ps_ret h) fun Dn σ H q => by
  obtain ⟨C, env, O, fl, env', R, e, q⟩ := q
  unfold mRetD at e
  split at e
  · rename_i r e1 h1
    cases e
    exact ⟨C, env, O, _, _, R, h1, fun v H' O' p => q v σ H' O' p.data⟩
  · cases e
theorem ss_expr {e : Expr} {f : FE} {pos : Pos} (h : SE X e f) (hs : swapsWith e none pos.line X.env = pure false := by rfl) : SS X (.Expr e pos) (mDrop f) := PS.imp (ps_expr h hs) fun Dn σ H q => by
  obtain ⟨C, env, O, fl, env', R, e, q⟩ := q
  unfold mDrop at e
  split at e
  · rename_i r e1 h1
    cases e
    exact ⟨C, env, O, _, _, R, h1, fun v H' O' p => q σ H' O' p.rep⟩
  · cases e
theorem ss_if {c : Expr} {a b : List Stmt} {pos : Pos} {t : FT} {f g : FS} (hc : ST X c t) (ha : SSs X a f) (hb : SSs X b g) : SS X (.If c a b pos) (mIfS t f g) := PS.imp (ps_if hc ha hb) fun Dn σ H q => by
  obtain ⟨C, env, O, fl, env', R, e, q⟩ := q
  unfold mIfS at e
  split at e
  · rename_i e1 h1
    refine ⟨C, env, O, _, _, R, h1, fun H' O' p => ?_⟩
    exact iteT ⟨C, _, O', _, _, p, e, q⟩
  · rename_i e1 h1
    refine ⟨C, env, O, _, _, R, h1, fun H' O' p => ?_⟩
    exact iteF ⟨C, _, O', _, _, p, e, q⟩
  · cases e
theorem ss_cont {pos : Pos} : SS X (.Continue pos) mCt := PS.imp ps_continue fun Dn σ H q => by
  obtain ⟨C, env, O, fl, env', R, e, q⟩ := q
  cases e
  exact q σ H O R
theorem ss_pass {pos : Pos} : SS X (.Pass pos) mNx := PS.imp ps_pass fun Dn σ H q => by
  obtain ⟨C, env, O, fl, env', R, e, q⟩ := q
  cases e
  exact q σ H O R
theorem ss_never {s : Stmt} : SS X s (fun _ => none) := PS.imp ps_never fun Dn σ H q => by
  obtain ⟨C, env, O, fl, env', R, e, q⟩ := q
  cases e

/-! targets -/
def tgOf (K : Fr) (ts : List Nat) (u : UG) : TG := fun v σ H Q => ∃ (C : Ctx) (env : MEnv) (O : Ow) (d : D) (env' : MEnv), Rep K C env σ H O ∧ Dp K (msk (C.m O) H) v d ∧ u d env = some env' ∧ ∀ σ' O', Rep K C env' σ' H O' → σ'.length = σ.length → (∀ i, i ∉ ts → σ'[i]? = σ[i]?) → Q σ' H
def tgsOf (K : Fr) (ts : List Nat) (u : UGs) : TGs := fun vs σ H Q => ∃ (C : Ctx) (env : MEnv) (O : Ow) (ds : List D) (env' : MEnv), Rep K C env σ H O ∧ DpAll K (msk (C.m O) H) vs ds ∧ u ds env = some env' ∧ ∀ σ' O', Rep K C env' σ' H O' → σ'.length = σ.length → (∀ i, i ∉ ts → σ'[i]? = σ[i]?) → Q σ' H
abbrev SG (X : Cx) (t : Expr) (ts : List Nat) (u : UG) : Prop := PG X t (tgOf X.K ts u)
abbrev SGs (X : Cx) (t : List Expr) (ts : List Nat) (u : UGs) : Prop := PGs X t (tgsOf X.K ts u)
theorem PG.imp {t : Expr} {g g' : TG} (h : PG X t g) (i : ∀ v σ H Q, g' v σ H Q → g v σ H Q) : PG X t g' := ⟨fun pins s σ H v u Q I r q => h.run pins s σ H v u Q I r (i v σ H Q q)⟩
theorem PGs.imp {t : List Expr} {g g' : TGs} (h : PGs X t g) (i : ∀ v σ H Q, g' v σ H Q → g v σ H Q) : PGs X t g' := ⟨fun pins s σ H v u Q I r q => h.run pins s σ H v u Q I r (i v σ H Q q)⟩
def uName (i : Nat) : UG := fun d env => some (env.set i (.dt d))
def uNil : UGs := fun ds env => match ds with | [] => some env | _ => none
def uCons (u : UG) (us : UGs) : UGs := fun ds env => match ds with | d :: r => (match u d env with | some e => us r e | none => none) | [] => none
def uTup (n : Nat) (us : UGs) : UG := fun d env => match d with | .tuple ds => if ds.length = n then us ds env else none | .list ds => if ds.length = n then us ds env else none | _ => none
theorem sg_name {i : Nat} {t : Expr} (h : PG X t (gName i)) : SG X t [i] (uName i) := PG.imp h fun v σ H Q q => by
  obtain ⟨C, env, O, d, env', R, a, e, q⟩ := q
  cases e
  exact q _ _ (R.setD a) (List.length_set ..) fun j hj => get_set_ne fun z => hj (by simp [z])
theorem sgs_nil : SGs X [] [] uNil := PGs.imp pgs_nil fun vs σ H Q q => by
  obtain ⟨C, env, O, ds, env', R, a, e, q⟩ := q
  cases a with
  | nil => cases e; exact ⟨rfl, q σ O R rfl fun _ _ => rfl⟩
  | cons h t => cases e
theorem sgs_cons {e : Expr} {es : List Expr} {u : UG} {us : UGs} {ts ts' : List Nat} (h1 : SG X e ts u) (h2 : SGs X es ts' us) (hs : (assignEach (e :: es) X.env).map (·.2) = assign e X.env :: (assignEach es X.env).map (·.2) := by rfl) : SGs X (e :: es) (ts ++ ts') (uCons u us) := PGs.imp (pgs_cons h1 h2 hs) fun vs σ H Q q => by
  obtain ⟨C, env, O, ds, env', R, a, e, q⟩ := q
  cases a with
  | nil => cases e
  | cons h t =>
    unfold uCons at e
    simp only at e
    split at e
    · rename_i e1 h1
      refine ⟨_, _, rfl, C.pinAt (msk (C.m O) H), env, O, _, e1, R.pinned, h, h1, fun σ' O' R' l' k' => ?_⟩
      exact ⟨C.pinAt (msk (C.m O) H), e1, O', _, env', R', dps_mono R'.pin t, e, fun σ2 O2 R2 l2 k2 => q σ2 O2 (R2.unpin R.pin) (l2.trans l') fun j hj => (k2 j fun z => hj (by simp [z])).trans (k' j fun z => hj (by simp [z]))⟩
    · cases e
theorem pg_or {t : Expr} {g g' : TG} (h : PG X t g) (h' : PG X t g') : PG X t fun v σ H Q => g v σ H Q ∨ g' v σ H Q :=
  ⟨fun pins s σ H v u Q I r q => q.elim (h.run pins s σ H v u Q I r) (h'.run pins s σ H v u Q I r)⟩
theorem sg_tup {es : List Expr} {k : Nat} {pos : Pos} {us : UGs} {n : Nat} {ts : List Nat} (hc : X.calm = true) (h : SGs X es ts us) (hn : (assignEach es X.env).length = n := by rfl) (hst : (assignEach es X.env).findIdx? (·.1) = none := by rfl) : SG X (.Tuple es k pos) ts (uTup n us) := PG.imp (pg_or (pg_tup hc h hn hst) (pg_unl hc h hn hst)) fun v σ H Q q => by
  obtain ⟨C, env, O, d, env', R, a, e, q⟩ := q
  unfold uTup at e
  split at e
  · rename_i ds
    split at e
    · rename_i hl
      cases a with
      | tup hq al => exact .inl ⟨_, _, rfl, sqt_mono msk_sub hq, by rw [dps_len al]; exact hl, C, env, O, ds, env', R, al, e, q⟩
    · cases e
  · rename_i ds
    split at e
    · rename_i hl
      cases a with
      | lst hq al => exact .inr ⟨_, _, rfl, sql_mono msk_sub hq, by rw [dps_len al]; exact hl, C, env, O, ds, env', R, al, e, q⟩
    · cases e
  · cases e
/-- target = expression, by data -/
def mAsg (u : UG) (f : FE) : FS := fun env => match f env with | some (r, e) => (match u r.toD e with | some e2 => some (.nx, e2) | none => none) | none => none
theorem ts_asg {K : Fr} {u : UG} {f : FE} {ts : List Nat} : ∀ Dn σ H, tsOf K (mAsg u f) Dn σ H → tAsg (teOf K f) (tgOf K ts u) Dn σ H := fun Dn σ H q => by
  obtain ⟨C, env, O, fl, env', R, e, q⟩ := q
  unfold mAsg at e
  split at e
  · rename_i r e1 h1
    split at e
    · rename_i e2 h2
      cases e
      exact ⟨C, env, O, _, _, R, h1, fun v H' O1 p => ⟨C, e1, O1, _, _, p.rep, p.toD, h2, fun σ' O' R' _ _ => q σ' H' O' R'⟩⟩
    · cases e
  · cases e
theorem ss_asg {tg e : Expr} {u : UG} {f : FE} {ts : List Nat} {pos : Pos} (he : SE X e f) (hg : SG X tg ts u) (hs : swapsWithSole [tg] e pos.line X.env = pure false := by rfl) (hw : swappedStores [tg] e X.env = pure none := by rfl)
    (h1 : (assignEach [tg] X.env).map (·.2) = [assign tg X.env] := by rfl) : SS X (.Assign [tg] e pos) (mAsg u f) := PS.imp (ps_asg he hg hs hw h1) ts_asg

/-! what is walked -/
def WalkOk (K : Fr) (Hv : Hp) (J : It) (ds : List D) : Prop := ∀ (m : Addr → Prop) (H2 : Hp), Same Hv (msk m H2) → Al m H2 → J.stop ds.length H2 ∧ ∀ i d, ds[i]? = some d → J.go i H2 ∧ ∀ x H3, J.yld i H2 x H3 → Same H2 H3 ∧ Dp K (msk m H3) x d
def tiOf (K : Fr) (f : FA) : TI := fun σ H R => ∃ (C : Ctx) (env : MEnv) (O : Ow) (ds : List D) (env' : MEnv), Rep K C env σ H O ∧ f env = some (ds, env') ∧ ∀ J H' O', Rep K C env' σ H' O' → WalkOk K (msk (C.m O') H') J ds → R J H'
abbrev SI (X : Cx) (tg e : Expr) (f : FA) : Prop := PI X tg e (tiOf X.K f)
theorem ts_for {K : Fr} {src : FA} {u : UG} {ts : List Nat} {body : FS} : ∀ Dn σ H, tsOf K (mFor src u body) Dn σ H → tFor (tiOf K src) (tgOf K ts u) (tsOf K body) Dn σ H := fun Dn σ H q => by
  obtain ⟨C, env, O, fl, env', R, e, q⟩ := q
  unfold mFor at e
  split at e
  · rename_i ds e0 h0
    refine ⟨C, env, O, ds, e0, R, h0, fun J H1 O R1 wk => ?_⟩
    refine ⟨fun i m σ' H' => i ≤ ds.length ∧ m = ds.length - i ∧ ∃ env1 O1, Rep K (C.pinAt (msk (C.m O) H1)) env1 σ' H' O1 ∧ loopF u body (ds.drop i) env1 = some (fl, env'), ⟨ds.length, Nat.zero_le _, rfl, e0, O, R1.pinned, e⟩, ?_⟩
    rintro i m σ' H' ⟨hi, rfl, env1, O1, R', el⟩
    obtain ⟨wstop, wgo⟩ := wk (C.m O1) H' R'.pin R'.al
    by_cases hlt : i < ds.length
    · right
      obtain ⟨go, yl⟩ := wgo i ds[i] (List.getElem?_eq_getElem hlt)
      rw [List.drop_eq_getElem_cons hlt] at el
      unfold loopF at el
      split at el
      · cases el
      · rename_i e1 h1
        refine ⟨go, fun σ2 H2 => ∃ env2 O2, Rep K (C.pinAt (msk (C.m O) H1)) env2 σ2 H2 O2 ∧ loopF u body (ds.drop (i + 1)) env2 = some (fl, env'), fun σ2 H2 hN => ⟨ds.length - (i + 1), by omega, hlt, rfl, hN⟩, fun x H3 y => ?_⟩
        obtain ⟨s3, d3⟩ := yl x H3 y
        refine ⟨C.pinAt (msk (C.m O) H1), env1, O1, ds[i], e1, R'.grow s3, d3, h1, fun σ4 O4 R4 _ _ => ?_⟩
        split at el
        · cases el
        · rename_i e2 h2
          exact ⟨_, e1, O4, .nx, e2, R4, h2, fun σ5 H5 O5 R5 => ⟨e2, O5, R5, el⟩⟩
        · rename_i e2 h2
          exact ⟨_, e1, O4, .ct, e2, R4, h2, fun σ5 H5 O5 R5 => ⟨e2, O5, R5, el⟩⟩
        · rename_i e2 h2
          cases el
          exact ⟨_, e1, O4, .bk, _, R4, h2, fun σ5 H5 O5 R5 => q σ5 H5 O5 (R5.unpin R1.pin)⟩
        · rename_i r e2 h2
          cases el
          exact ⟨_, e1, O4, .rt r, _, R4, h2, fun v σ5 H5 O5 p5 => q v σ5 H5 O5 (p5.unpin R1.pin)⟩
    · have hie : i = ds.length := by omega
      subst hie
      rw [List.drop_length] at el
      cases el
      exact .inl ⟨wstop, q σ' H' O1 (R'.unpin R1.pin)⟩
  · cases e
theorem ss_for {tg iter : Expr} {body : List Stmt} {src : FA} {u : UG} {ts : List Nat} {g : FS} {pos : Pos} (hp : PassesOwn (model X.prog X.w) X.A X.env X.xe) (hc : X.calm = true) (hi : SI X tg iter src) (hg : SG X tg ts u) (hb : SSs X body g)
    (hs : ∀ x, foldedSetIterable iter X.env x = pure x := by intro _; rfl) : SS X (.For tg iter body [] pos) (mFor src u g) := PS.imp (ps_for hp hc hi hg hb hs) ts_for
end
end Mir

/-! Mir 4: comprehensions, own lists, lent lists, a def's body. -/
namespace Mir
open PySem L2

/-! ### comprehensions -/
def wipeE (env : MEnv) : List Nat → MEnv
  | [] => env
  | v :: vs => (wipeE env vs).set v .un
/-- the block's names are given back -/
def backE (env env' : MEnv) (vs : List Nat) : MEnv := (List.range env'.length).map fun i => if i ∈ vs then env.getD i .un else env'.getD i .un
/-- none of the block's names holds an own list -/
def plainAt (env : MEnv) (vs : List Nat) : Bool := vs.all fun i => match env[i]? with | some (.ow _) => false | some (.bo _) => false | _ => true
def loopC (vs : List Nat) (u : UG) (t : FT) (f : FE) : List D → MEnv → Option (List D × MEnv)
  | [], env => some ([], env)
  | d :: ds, env => match u d env with
    | none => none
    | some e1 => match t e1 with
      | none => none
      | some (false, e2) => loopC vs u t f ds (wipeE e2 vs)
      | some (true, e2) => match f e2 with
        | none => none
        | some (r, e3) => match loopC vs u t f ds (wipeE e3 vs) with
          | none => none
          | some (xs, e4) => some (r.toD :: xs, e4)
def mLc (src : FA) (vs : List Nat) (u : UG) (t : FT) (f : FE) : FE := fun env => match src env with
  | none => none
  | some (ds, e) => if plainAt e vs = true ∧ ds.length ≤ sizeLine then (match loopC vs u t f ds (wipeE e vs) with | some (xs, e') => some (.l xs, backE e e' vs) | none => none) else none
def tYes' : FT := fun env => some (true, env)

theorem wipeE_len (env : MEnv) : ∀ vs : List Nat, (wipeE env vs).length = env.length
  | [] => rfl
  | v :: vs => by unfold wipeE; rw [List.length_set, wipeE_len env vs]
theorem wipeE_in {env : MEnv} : ∀ {vs : List Nat} {i : Nat} {s : Sl}, i ∈ vs → (wipeE env vs)[i]? = some s → s = .un
  | v :: vs, i, s, hi, h => by
    unfold wipeE at h
    by_cases e : v = i
    · subst e
      have hl : v < (wipeE env vs).length := by have := (List.getElem?_eq_some_iff.mp h).1; simpa using this
      rw [List.getElem?_set_self hl] at h
      exact (Option.some.inj h).symm
    · rw [List.getElem?_set_ne e] at h
      exact wipeE_in ((List.mem_cons.mp hi).resolve_left fun z => e z.symm) h
theorem wipeE_out {env : MEnv} : ∀ {vs : List Nat} {i : Nat}, i ∉ vs → (wipeE env vs)[i]? = env[i]?
  | [], _, _ => rfl
  | v :: vs, i, h => by
    unfold wipeE
    rw [List.getElem?_set_ne fun z => h (by simp [z]), wipeE_out fun z => h (by simp [z])]
theorem wipe_outσ {σ : L2.St} : ∀ {vs : List Nat} {i : Nat}, i ∉ vs → (wipe σ vs)[i]? = σ[i]?
  | [], _, _ => rfl
  | v :: vs, i, h => by
    unfold wipe
    rw [List.getElem?_set_ne fun z => h (by simp [z]), wipe_outσ fun z => h (by simp [z])]
theorem backE_len {env env' : MEnv} {vs : List Nat} : (backE env env' vs).length = env'.length := by unfold backE; simp
theorem backE_get {env env' : MEnv} {vs : List Nat} {i : Nat} {s : Sl} (hl : env.length = env'.length) (h : (backE env env' vs)[i]? = some s) : (i ∈ vs ∧ env[i]? = some s) ∨ (i ∉ vs ∧ env'[i]? = some s) := by
  unfold backE at h
  rw [List.getElem?_map] at h
  have hi : i < env'.length := by
    cases q : (List.range env'.length)[i]? with
    | none => rw [q] at h; cases h
    | some j => have := (List.getElem?_eq_some_iff.mp q).1; simpa using this
  rw [List.getElem?_range hi] at h
  have h : (if i ∈ vs then env.getD i Sl.un else env'.getD i Sl.un) = s := Option.some.inj h
  by_cases hv : i ∈ vs
  · left
    rw [if_pos hv] at h
    refine ⟨hv, ?_⟩
    rw [List.getD_eq_getElem?_getD, List.getElem?_eq_getElem (by omega)] at h
    rw [List.getElem?_eq_getElem (by omega)]
    exact congrArg some h
  · right
    rw [if_neg hv] at h
    refine ⟨hv, ?_⟩
    rw [List.getD_eq_getElem?_getD, List.getElem?_eq_getElem hi] at h
    rw [List.getElem?_eq_getElem hi]
    exact congrArg some h

section
variable {K : Fr} {C : Ctx} {env env' : MEnv} {σ : L2.St} {H H' : Hp} {O : Ow} {vs : List Nat}
theorem Rep.wipe (R : Rep K C env σ H O) : Rep K C (wipeE env vs) (wipe σ vs) H O where
  len := by rw [wipeE_len, wipe_length]; exact R.len
  dt := fun i d h => by
    by_cases hv : i ∈ vs
    · have := wipeE_in hv h; cases this
    · rw [wipeE_out hv] at h; rw [wipe_outσ hv]; exact R.dt i d h
  ow := fun i d h => by
    by_cases hv : i ∈ vs
    · have := wipeE_in hv h; cases this
    · rw [wipeE_out hv] at h; rw [wipe_outσ hv]; exact R.ow i d h
  bo := fun i d h => by
    by_cases hv : i ∈ vs
    · have := wipeE_in hv h; cases this
    · rw [wipeE_out hv] at h; rw [wipe_outσ hv]; exact R.bo i d h
  inj := R.inj
  out := R.out
  pin := R.pin
  frn := R.frn
  xt := fun i x h => by
    by_cases hv : i ∈ vs
    · have := wipeE_in hv h; cases this
    · rw [wipeE_out hv] at h; rw [wipe_outσ hv]; exact R.xt i x h
/-- behind the block: its own names as they were -/
theorem Rep.back {C₀ : Ctx} {O' : Ow} (R : Rep K C₀ env σ H O) (R' : Rep K C env' (L2.wipe σ vs) H' O') (hp : plainAt env vs = true) (hk : Same (msk (C₀.m O) H) (msk (C.m O') H')) (hsp : C.sp = C₀.sp := by rfl) : Rep K C (backE env env' vs) σ H' O' := by
  have hl : env.length = env'.length := by rw [R.len, R'.len, wipe_length]
  exact {
    len := by rw [backE_len, ← hl]; exact R.len
    dt := fun i d h => by
      rcases backE_get hl h with ⟨hv, h⟩ | ⟨hv, h⟩
      · obtain ⟨v, h1, h2⟩ := R.dt i d h
        exact ⟨v, h1, dp_mono hk h2⟩
      · obtain ⟨v, h1, h2⟩ := R'.dt i d h
        rw [wipe_outσ hv] at h1
        exact ⟨v, h1, h2⟩
    ow := fun i xs h => by
      rcases backE_get hl h with ⟨hv, h⟩ | ⟨hv, h⟩
      · unfold plainAt at hp
        have := List.all_eq_true.mp hp i hv
        rw [h] at this
        cases this
      · obtain ⟨p, us, h0, h1, h2⟩ := R'.ow i xs h
        rw [wipe_outσ hv] at h1
        exact ⟨p, us, h0, h1, h2⟩
    bo := fun i xs h => by
      rcases backE_get hl h with ⟨hv, h⟩ | ⟨hv, h⟩
      · unfold plainAt at hp
        have := List.all_eq_true.mp hp i hv
        rw [h] at this
        cases this
      · obtain ⟨p, us, h0, hb, h1, h2⟩ := R'.bo i xs h
        rw [wipe_outσ hv] at h1
        exact ⟨p, us, h0, hb, h1, h2⟩
    inj := R'.inj
    out := R'.out
    pin := R'.pin
    frn := R'.frn
    xt := fun i x h => by
      rcases backE_get hl h with ⟨hv, h⟩ | ⟨hv, h⟩
      · rw [hsp]; exact (R.xt i x h).mono hk
      · have := R'.xt i x h
        rw [wipe_outσ hv] at this
        exact this }
/-- the hidden object's content changes -/
theorem Rep.rehide {p : Addr} {o o' : HO} (R : Rep K (C.add p o) env σ H O) : Rep K (C.add p o') env σ (upd H p o') O := by
  have hm : (C.add p o').m O p := .inl (.inr rfl)
  have E : msk ((C.add p o').m O) (upd H p o') = msk ((C.add p o).m O) H := msk_upd hm
  have hne : ∀ i q, O i = some q → q ≠ p := fun i q h e => (R.out i q h).1 (.inr e)
  refine ⟨R.len, fun i d h => by rw [E]; exact R.dt i d h, fun i xs h => ?_, fun i xs h => ?_, R.inj, fun i q h => ?_, by rw [E]; exact R.pin, fun a h => ?_, fun i x h => by rw [E]; exact R.xt i x h⟩
  · rw [E]
    obtain ⟨q, us, h0, h1, h2, h3⟩ := R.ow i xs h
    exact ⟨q, us, h0, h1, by rw [upd_ne (hne i q h0)]; exact h2, h3⟩
  · rw [E]
    obtain ⟨q, us, h0, hb, h1, h2, h3⟩ := R.bo i xs h
    exact ⟨q, us, h0, hb, h1, by rw [upd_ne (hne i q h0)]; exact h2, h3⟩
  · obtain ⟨h1, u, h2⟩ := R.out i q h
    exact ⟨h1, u, by rw [upd_ne (hne i q h)]; exact h2⟩
  · by_cases ha : a = p
    · subst ha
      exact ⟨by rw [upd_same]; exact upd_same.symm, o', upd_same⟩
    · obtain ⟨h1, u, h2⟩ := R.frn a h
      rw [upd_ne ha]
      refine ⟨?_, u, h2⟩
      rw [h1]
      show upd C.HM p o a = upd C.HM p o' a
      rw [upd_ne ha, upd_ne ha]
end
theorem loopC_len {vs : List Nat} {u : UG} {t : FT} {f : FE} : ∀ {ds : List D} {env : MEnv} {xs : List D} {e : MEnv}, loopC vs u t f ds env = some (xs, e) → xs.length ≤ ds.length
  | [], env, xs, e, h => by cases h; exact Nat.le_refl _
  | d :: ds, env, xs, e, h => by
    unfold loopC at h
    split at h
    · cases h
    · split at h
      · cases h
      · have := loopC_len h
        rw [List.length_cons]; omega
      · split at h
        · cases h
        · split at h
          · cases h
          · rename_i ys e4 h4
            cases h
            have := loopC_len h4
            rw [List.length_cons, List.length_cons]; omega
theorem wipe_eq {σ σ2 : L2.St} {vs ts : List Nat} (hl : σ2.length = (wipe σ vs).length) (h : ∀ i, i ∉ ts → σ2[i]? = (wipe σ vs)[i]?) (ht : ∀ i ∈ ts, i ∈ vs) : wipe σ2 vs = wipe σ vs := by
  apply List.ext_getElem?
  intro i
  by_cases hv : i ∈ vs
  · by_cases hi : i < σ.length
    · have get : ∀ (τ : L2.St) (ws : List Nat), i ∈ ws → i < τ.length → (wipe τ ws)[i]? = some none := fun τ ws => by
        induction ws with
        | nil => intro h; cases h
        | cons w ws ih =>
          intro hw hl
          unfold wipe
          by_cases e : w = i
          · subst e; exact List.getElem?_set_self (by rw [wipe_length]; exact hl)
          · rw [List.getElem?_set_ne e]
            exact ih ((List.mem_cons.mp hw).resolve_left fun z => e z.symm) hl
      rw [get σ2 vs hv (by rw [hl, wipe_length]; exact hi), get σ vs hv hi]
    · rw [List.getElem?_eq_none (by rw [wipe_length, hl, wipe_length]; omega), List.getElem?_eq_none (by rw [wipe_length]; omega)]
  · rw [wipe_outσ hv, h i fun z => hv (ht i z)]
section
variable {X : Cx}
theorem te_lc {K : Fr} {src : FA} {vs ts : List Nat} {u : UG} {t : FT} {f : FE} (ht : ∀ i ∈ ts, i ∈ vs) : ∀ σ H Q, teOf K (mLc src vs u t f) σ H Q → tLc (tiOf K src) (tgOf K ts u) (ttOf K t) (teOf K f) vs σ H Q := fun σ H Q q => by
  obtain ⟨C, env, O, rr, env', R, e, q⟩ := q
  unfold mLc at e
  split at e
  · cases e
  · rename_i ds e0 h0
    split at e
    · rename_i hc
      obtain ⟨hp, hz⟩ := hc
      split at e
      · rename_i xs e' hx
        cases e
        refine ⟨C, env, O, ds, e0, R, h0, fun J H1 O1 R1 wk Dl hD => ?_⟩
        -- the state between two turns
        refine ⟨fun i m Hc => i ≤ ds.length ∧ m = ds.length - i ∧ ∃ (ei : MEnv) (Oi : Ow) (us : List V) (ys zs : List D), Rep K ((C.pinAt (msk (C.m O1) H1)).add Dl (.lst us)) ei (wipe σ vs) Hc Oi ∧ Hc Dl = some (.lst us) ∧
          DpAll K (msk ((C.add Dl (.lst us)).m Oi) Hc) us ys ∧ loopC vs u t f (ds.drop i) ei = some (zs, e') ∧ ys ++ zs = xs ∧ ys.length ≤ i,
          ⟨ds.length, Nat.zero_le _, rfl, wipeE e0 vs, O1, [], [], xs, (Rep.hide (R1.pinned.wipe) hD (same_new hD) upd_same), upd_same, .nil, hx, rfl, Nat.le_refl _⟩, ?_⟩
        rintro i m Hc ⟨hi, rfl, ei, Oi, us, ys, zs, Ri, hDl, ha, hl, hyz, hyl⟩
        have wpin : Same (msk (C.m O1) H1) (msk (((C.pinAt (msk (C.m O1) H1)).add Dl (.lst us)).m Oi) Hc) := Ri.pin
        obtain ⟨wstop, wgo⟩ := wk _ Hc wpin Ri.al
        by_cases hlt : i < ds.length
        · right
          obtain ⟨go, yl⟩ := wgo i ds[i] (List.getElem?_eq_getElem hlt)
          rw [List.drop_eq_getElem_cons hlt] at hl
          unfold loopC at hl
          split at hl
          · cases hl
          · rename_i e1 h1
            refine ⟨go, fun H' => ∃ (ei : MEnv) (Oi : Ow) (us : List V) (ys zs : List D), Rep K ((C.pinAt (msk (C.m O1) H1)).add Dl (.lst us)) ei (wipe σ vs) H' Oi ∧ H' Dl = some (.lst us) ∧
              DpAll K (msk ((C.add Dl (.lst us)).m Oi) H') us ys ∧ loopC vs u t f (ds.drop (i + 1)) ei = some (zs, e') ∧ ys ++ zs = xs ∧ ys.length ≤ i + 1, fun H' hN => ⟨ds.length - (i + 1), by omega, hlt, rfl, hN⟩, fun x H3 y => ?_⟩
            obtain ⟨s3, d3⟩ := yl x H3 y
            -- what stands at the turn's begin is pinned
            have Rp := (Ri.grow s3).pinned
            refine ⟨_, ei, Oi, ds[i], e1, Rp, d3, h1, fun σ2 O2 R2 l2 k2 => ⟨wipe_eq l2 k2 ht, ?_⟩⟩
            have hw : wipe σ2 vs = wipe σ vs := wipe_eq l2 k2 ht
            have ha3 : DpAll K (msk ((C.add Dl (.lst us)).m Oi) H3) us ys := dps_mono (msk_mono s3) ha
            split at hl
            · cases hl
            · rename_i e2 h2
              refine ⟨_, e1, O2, false, e2, R2, h2, fun H4 O4 R4 => iteF ?_⟩
              have Rn : Rep K ((C.pinAt (msk (C.m O1) H1)).add Dl (.lst us)) e2 σ2 H4 O4 := R4.unpin (Ri.grow s3).pin
              refine ⟨wipeE e2 vs, O4, us, ys, zs, by rw [← hw]; exact Rn.wipe, ?_, dps_mono R4.pin ha3, hl, hyz, by omega⟩
              rw [(Rn.frn Dl (.inr rfl)).1]
              exact upd_same
            · rename_i e2 h2
              split at hl
              · cases hl
              · rename_i r e3 h3
                split at hl
                · cases hl
                · rename_i zs' e4 h4
                  cases hl
                  refine ⟨_, e1, O2, true, e2, R2, h2, fun H4 O4 R4 => iteT ?_⟩
                  refine ⟨_, e2, O4, r, e3, R4, h3, fun v H5 O5 p5 => ?_⟩
                  have R5 := p5.rep
                  have Rn : Rep K ((C.pinAt (msk (C.m O1) H1)).add Dl (.lst us)) e3 σ2 H5 O5 := R5.unpin (Ri.grow s3).pin
                  have hD5 : H5 Dl = some (.lst us) := by
                    rw [(Rn.frn Dl (.inr rfl)).1]
                    exact upd_same
                  have hul : us.length = ys.length := dps_len ha
                  refine ⟨us, hD5, Nat.lt_of_lt_of_le (by omega : us.length < ds.length) hz, ?_⟩
                  refine ⟨wipeE e3 vs, O5, us ++ [v], ys ++ [r.toD], zs', by rw [← hw]; exact Rn.rehide.wipe, upd_same, ?_, h4, by rw [List.append_assoc]; exact hyz, by rw [List.length_append]; exact Nat.add_le_add_right hyl 1⟩
                  have E : msk ((C.add Dl (.lst (us ++ [v]))).m O5) (upd H5 Dl (.lst (us ++ [v]))) = msk ((C.add Dl (.lst us)).m O5) H5 := msk_upd (.inl (.inr rfl))
                  rw [E]
                  exact dps_app (dps_mono R5.pin ha3) (.cons p5.toD .nil)
        · have hie : i = ds.length := by omega
          subst hie
          rw [List.drop_length] at hl
          cases hl
          rw [List.append_nil] at hyz
          subst hyz
          refine .inl ⟨wstop, q (.ref Dl) Hc Oi ⟨Dl, us, rfl, ?_, ?_, hDl, ?_, ha⟩⟩
          · intro z
            obtain ⟨_, o, z⟩ := R1.frn Dl z
            rw [hD] at z; cases z
          · cases qq : C.Hs Dl with
            | none => rfl
            | some o => have := msk_sub _ _ (R1.pin Dl o qq); rw [hD] at this; cases this
          · exact Rep.back R1 (Rep.unpin (C := C.add Dl (.lst us)) (Hs := msk (C.m O1) H1) Ri R1.pin) hp wpin
      · cases e
    · cases e
/-- [e for target in iter if ..] -/
theorem se_lc {elt tg iter : Expr} {ifs : List Expr} {scope : Scope} {own : List (Str × Nat)} {pos : Pos} {src : FA} {ts : List Nat} {u : UG} {t : FT} {f : FE} (hc : X.calm = true) (hN : X.N.Nodup) (hi : SI X tg iter src) (ok : BlkOk X.N X.env.scope scope own)
    (hg : ∀ (s : Shared) (H : Hp) (C : Addr) (cl : List (Str × Addr)) (fp : List Addr), SG (X.blk s H scope (compEnvC scope cl C X.env) fp) tg ts u)
    (ht : ∀ (s : Shared) (H : Hp) (C : Addr) (cl : List (Str × Addr)) (fp : List Addr), PTs (X.blk s H scope (compEnvC scope cl C X.env) fp) ifs (ttOf X.K t))
    (he : ∀ (s : Shared) (H : Hp) (C : Addr) (cl : List (Str × Addr)) (fp : List Addr), SE (X.blk s H scope (compEnvC scope cl C X.env) fp) elt f) (hts : ∀ i ∈ ts, i ∈ own.map (·.2))
    (hs : ∀ x, foldedSetIterable iter X.env x = pure x := by intro _; rfl) : SE X (.ListComp elt [⟨tg, iter, ifs, 0⟩] scope pos) (mLc src (own.map (·.2)) u t f) := PE.imp (pe_lc hc hN hi ok hg ht he hs) (te_lc hts)
theorem sts_nil {Y : Cx} : PTs Y [] (ttOf Y.K tYes') := PTs.imp pts_nil fun σ H Q q => by
  obtain ⟨C, env, O, b, env', R, e, q⟩ := q
  cases e
  exact q H O R
theorem sts_one {Y : Cx} {c : Expr} {t : FT} (h : ST Y c t) : PTs Y [c] (ttOf Y.K t) := pts_one h
end
end Mir

/-! Mir 5: own lists, lent lists, defs. -/
namespace Mir
open PySem L2

def ownAt (env : MEnv) (i : Nat) : Option (List D) := match env[i]? with | some (.ow xs) => some xs | some (.bo xs) => some xs | _ => none
def putOwn (env : MEnv) (i : Nat) (ys : List D) : MEnv := env.set i (match env[i]? with | some (.bo _) => .bo ys | _ => .ow ys)
section
variable {K : Fr} {C C' : Ctx} {env : MEnv} {σ : L2.St} {H H' : Hp} {O : Ow}
theorem Rep.own (R : Rep K C env σ H O) {i : Nat} {xs : List D} (h : ownAt env i = some xs) : ∃ (p : Addr) (us : List V), O i = some p ∧ σ[i]? = some (some (.ref p)) ∧ H p = some (.lst us) ∧ DpAll K (msk (C.m O) H) us xs := by
  unfold ownAt at h
  split at h
  · rename_i ys hy; cases h; exact R.ow i xs hy
  · rename_i ys hy; cases h
    obtain ⟨p, us, h0, _, h1⟩ := R.bo i xs hy
    exact ⟨p, us, h0, h1⟩
  · cases h
/-- a turn of the heap, seen from the frame: slot i's own list may be another one behind it -/
theorem Rep.step {i : Nat} {p : Addr} {us : List V} {xs ys : List D} (R : Rep K C env σ H O) (hx : ownAt env i = some xs) (hO : O i = some p) (S : Same (msk (C.m O) H) (msk (C'.m O) H')) (hk : ∀ j q, O j = some q → j ≠ i → H' q = H q) (hM : ∀ j q, O j = some q → ¬ C'.M q)
    (hb : C'.bo = C.bo) (hs : C'.Hs = C.Hs) (hp : H' p = some (.lst us)) (h : DpAll K (msk (C'.m O) H') us ys) (hf : ∀ a, C'.M a → H' a = C'.HM a ∧ ∃ o, H' a = some o) (hsp : C'.sp = C.sp := by rfl) : Rep K C' (putOwn env i ys) σ H' O := by
  obtain ⟨p', us', h0', hσ, _, _⟩ := R.own hx
  rw [hO] at h0'; cases h0'
  have hl : i < env.length := by
    unfold ownAt at hx
    split at hx
    · rename_i q; exact (List.getElem?_eq_some_iff.mp q).1
    · rename_i q; exact (List.getElem?_eq_some_iff.mp q).1
    · cases hx
  refine ⟨by unfold putOwn; rw [List.length_set]; exact R.len, fun j e he => ?_, fun j zs he => ?_, fun j zs he => ?_, R.inj, fun j q hq => ?_, by rw [hs]; exact R.pin.trans S, hf, fun j x he => xt_set0 S R he (by split <;> (intro z; cases z)) hsp⟩
  · unfold putOwn at he
    by_cases hj : j = i
    · subst hj
      obtain ⟨e1, _⟩ := get_set_eq he
      split at e1 <;> cases e1
    · rw [get_set_ne hj] at he
      obtain ⟨v, h1, h2⟩ := R.dt j e he
      exact ⟨v, h1, dp_mono S h2⟩
  · unfold putOwn at he
    by_cases hj : j = i
    · subst hj
      obtain ⟨e1, _⟩ := get_set_eq he
      split at e1 <;> cases e1
      exact ⟨p, us, hO, hσ, hp, h⟩
    · rw [get_set_ne hj] at he
      obtain ⟨q, vs, h0, h1, h2, h3⟩ := R.ow j zs he
      exact ⟨q, vs, h0, h1, by rw [hk j q h0 hj]; exact h2, dps_mono S h3⟩
  · unfold putOwn at he
    by_cases hj : j = i
    · subst hj
      obtain ⟨e1, _⟩ := get_set_eq he
      split at e1
      · rename_i zs' hz
        cases e1
        obtain ⟨q, vs, h0, hb', h1, h2, h3⟩ := R.bo j zs' hz
        rw [hO] at h0; cases h0
        exact ⟨p, us, hO, by rw [hb]; exact hb', hσ, hp, h⟩
      · cases e1
    · rw [get_set_ne hj] at he
      obtain ⟨q, vs, h0, hb', h1, h2, h3⟩ := R.bo j zs he
      exact ⟨q, vs, h0, by rw [hb]; exact hb', h1, by rw [hk j q h0 hj]; exact h2, dps_mono S h3⟩
  · refine ⟨hM j q hq, ?_⟩
    by_cases hj : j = i
    · subst hj; rw [hO] at hq; cases hq; exact ⟨_, hp⟩
    · rw [hk j q hq hj]; exact (R.out j q hq).2
theorem Rep.step0 (R : Rep K C env σ H O) (S : Same (msk (C.m O) H) (msk (C'.m O) H')) (hk : ∀ j q, O j = some q → H' q = H q) (hM : ∀ j q, O j = some q → ¬ C'.M q)
    (hb : C'.bo = C.bo) (hs : C'.Hs = C.Hs) (hf : ∀ a, C'.M a → H' a = C'.HM a ∧ ∃ o, H' a = some o) (hsp : C'.sp = C.sp := by rfl) : Rep K C' env σ H' O := by
  refine ⟨R.len, fun j e he => ?_, fun j zs he => ?_, fun j zs he => ?_, R.inj, fun j q hq => ?_, by rw [hs]; exact R.pin.trans S, hf, fun j x he => by rw [hsp]; exact (R.xt j x he).mono S⟩
  · obtain ⟨v, h1, h2⟩ := R.dt j e he
    exact ⟨v, h1, dp_mono S h2⟩
  · obtain ⟨q, vs, h0, h1, h2, h3⟩ := R.ow j zs he
    exact ⟨q, vs, h0, h1, by rw [hk j q h0]; exact h2, dps_mono S h3⟩
  · obtain ⟨q, vs, h0, hb', h1, h2, h3⟩ := R.bo j zs he
    exact ⟨q, vs, h0, by rw [hb]; exact hb', h1, by rw [hk j q h0]; exact h2, dps_mono S h3⟩
  · exact ⟨hM j q hq, by rw [hk j q hq]; exact (R.out j q hq).2⟩
/-- the own list of slot i is written -/
theorem Rep.write {i : Nat} {p : Addr} {us : List V} {xs ys : List D} (R : Rep K C env σ H O) (hx : ownAt env i = some xs) (hO : O i = some p) (h : DpAll K (msk (C.m O) H) us ys) : Rep K C (putOwn env i ys) σ (upd H p (.lst us)) O := by
  have hm : C.m O p := .inr ⟨i, hO⟩
  have E : msk (C.m O) (upd H p (.lst us)) = msk (C.m O) H := msk_upd hm
  refine R.step hx hO (by rw [E]; exact Same.refl _) (fun j q h1 h2 => upd_ne fun e => h2 (R.inj j i p (e ▸ h1) hO)) (fun j q h => (R.out j q h).1) rfl rfl upd_same (by rw [E]; exact h) fun a ha => ?_
  have e : a ≠ p := fun e => (R.out i p hO).1 (e ▸ ha)
  rw [upd_ne e]
  exact R.frn a ha
/-- slot i's own list becomes data for good -/
def frzE (env : MEnv) (i : Nat) : MEnv := match env[i]? with | some (.ow xs) => env.set i (.dt (.list xs)) | _ => env
theorem Rep.frz (R : Rep K C env σ H O) (i : Nat) : ∃ O', Rep K C (frzE env i) σ H O' := by
  unfold frzE
  split
  · rename_i xs hx
    obtain ⟨p, us, h0, h1, h2, h3⟩ := R.ow i xs hx
    have e : σ.set i (some (.ref p)) = σ := by
      apply List.ext_getElem?
      intro j
      by_cases hj : j = i
      · subst hj
        rw [List.getElem?_set_self (List.getElem?_eq_some_iff.mp h1).1, h1]
      · rw [get_set_ne hj]
    have A : ∀ a, C.m (O.put i none) a → C.m O a := fun a z => by
      rcases z with z | ⟨j, z⟩
      · exact .inl z
      · by_cases hj : j = i
        · subst hj; rw [put_same] at z; cases z
        · rw [put_ne hj] at z; exact .inr ⟨j, z⟩
    have np : ¬ C.m (O.put i none) p := fun z => by
      rcases z with z | ⟨j, z⟩
      · exact (R.out i p h0).1 z
      · by_cases hj : j = i
        · subst hj; rw [put_same] at z; cases z
        · rw [put_ne hj] at z; exact hj (R.inj j i p z h0)
    -- ahead: the slot forgotten, the mask smaller
    have S : Same (msk (C.m O) H) (msk (C.m (O.put i none)) H) := msk_anti A
    refine ⟨O.put i none, ?_⟩
    rw [← e]
    refine ⟨by rw [List.length_set, List.length_set]; exact R.len, fun j d he => ?_, fun j zs he => ?_, fun j zs he => ?_, fun j k q g1 g2 => ?_, fun j q hq => ?_, R.pin.trans S, R.frn, fun j x he => xt_set S R he (fun z => by cases z)⟩
    · by_cases hj : j = i
      · subst hj
        obtain ⟨e1, hl⟩ := get_set_eq he
        cases e1
        refine ⟨.ref p, List.getElem?_set_self (by rw [← R.len]; exact hl), Dp.lst (.inl (.inl ?_)) (dps_mono S h3)⟩
        rw [msk_no np]; exact h2
      · rw [get_set_ne hj] at he ⊢
        obtain ⟨v, g1, g2⟩ := R.dt j d he
        exact ⟨v, g1, dp_mono S g2⟩
    · by_cases hj : j = i
      · subst hj
        obtain ⟨e1, hl⟩ := get_set_eq he
        cases e1
      · rw [get_set_ne hj] at he ⊢
        obtain ⟨q, vs, g0, g1, g2, g3⟩ := R.ow j zs he
        exact ⟨q, vs, by rw [put_ne hj]; exact g0, g1, g2, dps_mono S g3⟩
    · by_cases hj : j = i
      · subst hj
        obtain ⟨e1, hl⟩ := get_set_eq he
        cases e1
      · rw [get_set_ne hj] at he ⊢
        obtain ⟨q, vs, g0, hb, g1, g2, g3⟩ := R.bo j zs he
        exact ⟨q, vs, by rw [put_ne hj]; exact g0, hb, g1, g2, dps_mono S g3⟩
    · by_cases hj : j = i
      · subst hj; rw [put_same] at g1; cases g1
      · by_cases hk : k = i
        · subst hk; rw [put_same] at g2; cases g2
        · rw [put_ne hj] at g1; rw [put_ne hk] at g2; exact R.inj j k q g1 g2
    · by_cases hj : j = i
      · subst hj; rw [put_same] at hq; cases hq
      · rw [put_ne hj] at hq; exact R.out j q hq
  · exact ⟨O, R⟩
/-- all own lists as data, for a look -/
def lookE (env : MEnv) : MEnv := env.map fun s => match s with | .ow xs => .dt (.list xs) | .bo xs => .dt (.list xs) | s => s
theorem Rep.look (R : Rep K C env σ H O) : Rep K C (lookE env) σ H (fun _ => none) := by
  have A : ∀ a, C.m (fun _ => none) a → C.m O a := fun a z => z.elim .inl fun ⟨_, z⟩ => nomatch z
  have S : Same (msk (C.m O) H) (msk (C.m (fun _ => none)) H) := msk_anti A
  have lst : ∀ (i : Nat) (p : Addr) (us : List V) (xs : List D), O i = some p → H p = some (.lst us) → DpAll K (msk (C.m O) H) us xs → Dp K (msk (C.m (fun _ => none)) H) (.ref p) (.list xs) := fun i p us xs h0 h2 h3 => by
    refine Dp.lst (.inl (.inl ?_)) (dps_mono S h3)
    rw [msk_no fun z => z.elim (R.out i p h0).1 fun ⟨_, z⟩ => nomatch z]
    exact h2
  have get : ∀ (i : Nat) (s : Sl), (lookE env)[i]? = some s → ∃ s', env[i]? = some s' ∧ s = (match s' with | .ow xs => .dt (.list xs) | .bo xs => .dt (.list xs) | s => s) := fun i s h => by
    unfold lookE at h
    rw [List.getElem?_map] at h
    cases q : env[i]? with
    | none => rw [q] at h; cases h
    | some s' => rw [q] at h; exact ⟨s', rfl, (Option.some.inj h).symm⟩
  refine ⟨by unfold lookE; rw [List.length_map]; exact R.len, fun i d h => ?_, fun i xs h => ?_, fun i xs h => ?_, (fun i j p h => by cases h), (fun i p h => by cases h), R.pin.trans S, R.frn, fun i x h => ?_⟩
  · obtain ⟨s', h1, h2⟩ := get i _ h
    cases s' with
    | un => cases h2
    | dt x =>
      cases h2
      obtain ⟨v, g1, g2⟩ := R.dt i d h1
      exact ⟨v, g1, dp_mono S g2⟩
    | ow xs =>
      cases h2
      obtain ⟨p, us, h0, g1, g2, g3⟩ := R.ow i xs h1
      exact ⟨_, g1, lst i p us xs h0 g2 g3⟩
    | bo xs =>
      cases h2
      obtain ⟨p, us, h0, _, g1, g2, g3⟩ := R.bo i xs h1
      exact ⟨_, g1, lst i p us xs h0 g2 g3⟩
    | xt x => cases h2
  · obtain ⟨s', h1, h2⟩ := get i _ h
    cases s' <;> cases h2
  · obtain ⟨s', h1, h2⟩ := get i _ h
    cases s' <;> cases h2
  · obtain ⟨s', h1, h2⟩ := get i _ h
    cases s' <;> cases h2
    exact (R.xt i x h1).mono S
end
/-- flat data -/
def flatD : D → Bool
  | .none => true
  | .bool _ => true
  | .int _ => true
  | .str _ => true
  | _ => false
noncomputable def mLook (f : FE) : FE := fun env => match f (lookE env) with
  | some (r, e1) => open Classical in if flatD r.toD = true ∧ e1 = lookE env then some (.d r.toD, env) else none
  | none => none
noncomputable def tLook (f : FT) : FT := fun env => match f (lookE env) with
  | some (b, e1) => open Classical in if e1 = lookE env then some (b, env) else none
  | none => none
theorem dp_flat {K : Fr} {H H' : Hp} {v : V} {d : D} (h : Dp K H v d) (f : flatD d = true) : Dp K H' v d := by
  cases h with
  | non => exact .non
  | bl b => exact .bl b
  | int i => exact .int i
  | str x => exact .str x
  | lst _ _ => cases f
  | tup _ _ => cases f
section
variable {K : Fr} {C : Ctx} {env env' : MEnv} {σ : L2.St} {H H' : Hp} {O O' : Ow}
theorem look_back (R : Rep K C env σ H O) (R' : Rep K (C.pinAt (msk (C.m (fun _ => none)) H)) env' σ H' O') : Rep K C env σ H' O := R.grow fun a o h => by
  by_cases hm : C.M a
  · rw [(R'.frn a hm).1]
    have := (R.frn a hm).1
    rw [h] at this
    exact this.symm
  · have : msk (C.m (fun _ => none)) H a = some o := by
      rw [msk_no fun z => z.elim hm fun ⟨_, z⟩ => nomatch z]
      exact h
    exact msk_sub _ _ (R'.pin a o this)
end
section
variable {X : Cx}
theorem se_look {e : Expr} {f : FE} (h : SE X e f) : SE X e (mLook f) := PE.imp h fun σ H Q q => by
  obtain ⟨C, env, O, r, env', R, e, q⟩ := q
  unfold mLook at e
  split at e
  · rename_i r1 e1 h1
    split at e
    · rename_i hc
      cases e
      exact te_run R.look h1 fun v H' O' P' _ d' => q v H' O ⟨look_back R P', dp_flat d' hc.1⟩
    · cases e
  · cases e
theorem st_look {e : Expr} {f : FT} (h : ST X e f) : ST X e (tLook f) := PT.imp h fun σ H Q q => by
  obtain ⟨C, env, O, b, env', R, e, q⟩ := q
  unfold tLook at e
  split at e
  · rename_i b1 e1 h1
    split at e
    · rename_i hc
      cases e
      exact ⟨C.pinAt (msk (C.m (fun _ => none)) H), lookE env, _, _, _, R.look.pinned, h1, fun H' O' R' => q H' O (look_back R R')⟩
    · cases e
  · cases e
/-- slot i's own list is data from this statement on -/
theorem ss_frz {s : Stmt} {g : FS} (i : Nat) (h : SS X s g) : SS X s (fun env => g (frzE env i)) := PS.imp h fun Dn σ H q => by
  obtain ⟨C, env, O, fl, env', R, e, q⟩ := q
  obtain ⟨O', R'⟩ := R.frz i
  exact ⟨C, _, O', fl, env', R', e, q⟩
/-- len(x), x[e] of an own list -/
def mOwnLen (i : Nat) : FE := fun env => match ownAt env i with | some xs => some (.d (.int xs.length), env) | none => none
def mOwnIx (i : Nat) (f : FE) : FE := fun env => match ownAt env i, f env with
  | some _, some (.d (.int j), e1) => (match ownAt e1 i with | some xs => (match atI xs j with | some d => some (.d d, e1) | none => none) | none => none)
  | _, _ => none
theorem atI_dps {K : Fr} {H : Hp} {us : List V} {xs : List D} {j : Int} {d : D} (a : DpAll K H us xs) (h : atI xs j = some d) : ∃ v, atI us j = some v ∧ Dp K H v d := by
  unfold atI at h ⊢
  rw [dps_len a]
  cases q : ixN xs.length j with
  | none => rw [q] at h; cases h
  | some k =>
    rw [q] at h
    obtain ⟨v, h1, h2⟩ := dps_get a (show xs[k]? = some d from h)
    exact ⟨v, h1, h2⟩
theorem se_ownLen {i : Nat} {x : Str} {p p2 pos : Pos} (h : PE X (.Name x p2) (tVar i)) (hg : Gl X "len") (hm : X.mg "len" = none) (he : starEach [.Name x p2] X.env = (false, eval (.Name x p2) X.env) :: starEach [] X.env := by rfl) (hpl : (backTo pos (starEach [] X.env)).any (·.1) = false := by rfl) :
    SE X (.Call (.Name "len" p) [.Name x p2] [] pos) (mOwnLen i) := PE.imp (pe_callB call_len_seq hg hm PySem.boot_len (pa_cons h pa_nil he) (by decide) (by decide) he hpl) fun σ H Q q => by
  obtain ⟨C, env, O, r, env', R, e, q⟩ := q
  unfold mOwnLen at e
  split at e
  · rename_i xs hx
    cases e
    obtain ⟨p, us, h0, h1, h2, h3⟩ := R.own hx
    refine ⟨_, h1, p, us, rfl, .inl (.inl (.inl h2)), q _ H O ⟨R, ?_⟩⟩
    rw [dps_len h3]
    exact .int _
  · cases e
theorem se_ownIx {i : Nat} {x : Str} {b : Expr} {f : FE} {p2 pos : Pos} (h : PE X (.Name x p2) (tVar i)) (hb : SE X b f) (hs : PlainIx b) : SE X (.Subscript (.Name x p2) b pos) (mOwnIx i f) := PE.imp (pe_ix ix_list h hb hs) fun σ H Q q => by
  obtain ⟨C, env, O, r, env', R, e, q⟩ := q
  unfold mOwnIx at e
  split at e
  · rename_i x1 x2 xs0 j e1 h0 h1
    split at e
    · rename_i xs hx
      split at e
      · rename_i d hd
        cases e
        obtain ⟨p, us0, g0, g1, g2, g3⟩ := R.own h0
        refine ⟨_, g1, C, env, O, _, _, R, h1, fun w H2 O2 P2 => ?_⟩
        obtain ⟨P2, Q2⟩ := P2
        cases Q2
        obtain ⟨p', us, f0, f1, f2, f3⟩ := P2.own hx
        rw [g1] at f1; cases f1
        obtain ⟨v, hv, dv⟩ := atI_dps f3 hd
        exact ⟨p, us, j, v, rfl, rfl, .inl (.inl f2), hv, q v H2 O2 ⟨P2, dv⟩⟩
      · cases e
    · cases e
  · cases e
/-- x.append(e) -/
def mApp (i : Nat) (f : FE) : FE := fun env => match ownAt env i, f env with
  | some _, some (r, e1) => (match ownAt e1 i with | some xs => if xs.length < sizeLine then some (.d .none, putOwn e1 i (xs ++ [r.toD])) else none | none => none)
  | _, _ => none
theorem se_app {i : Nat} {x : Str} {a : Expr} {f : FE} {p2 apos pos : Pos} (h : PE X (.Call (.Attribute (.Name x p2) "append" apos) [a] [] pos) (tBM X.K "list" rAppend (tVar i) (tCons (teOf X.K f) tNil))) :
    SE X (.Call (.Attribute (.Name x p2) "append" apos) [a] [] pos) (mApp i f) := PE.imp h fun σ H Q q => by
  obtain ⟨C, env, O, r, env', R, e, q⟩ := q
  unfold mApp at e
  split at e
  · rename_i x1 x2 xs0 r1 e1 h0 h1
    split at e
    · rename_i xs hx
      split at e
      · rename_i hz
        cases e
        obtain ⟨p, us0, g0, g1, g2, g3⟩ := R.own h0
        refine ⟨_, g1, .inl ⟨rfl, us0, .inl (.inl g2)⟩, te_run R h1 fun w H2 O2 _ P2 d2 => ?_⟩
        obtain ⟨p', us, f0, f1, f2, f3⟩ := P2.own hx
        rw [g1] at f1; cases f1
        exact ⟨p, us, w, rfl, rfl, f2, by rw [dps_len f3]; exact hz, q _ _ O2 ⟨P2.write hx f0 (dps_app f3 (.cons d2 .nil)), .non⟩⟩
      · cases e
    · cases e
  · cases e
/-- x.reverse() -/
def mRev (i : Nat) : FE := fun env => match ownAt env i with | some xs => some (.d .none, putOwn env i xs.reverse) | none => none
theorem se_rev {i : Nat} {x : Str} {p2 apos pos : Pos} (h : PE X (.Call (.Attribute (.Name x p2) "reverse" apos) [] [] pos) (tBM0 X.K "list" rReverse (tVar i))) :
    SE X (.Call (.Attribute (.Name x p2) "reverse" apos) [] [] pos) (mRev i) := PE.imp h fun σ H Q q => by
  obtain ⟨C, env, O, r, env', R, e, q⟩ := q
  unfold mRev at e
  split at e
  · rename_i xs h0
    cases e
    obtain ⟨p, us, g0, g1, g2, g3⟩ := R.own h0
    exact ⟨_, g1, .inl ⟨rfl, us, .inl (.inl g2)⟩, p, us, rfl, rfl, g2, q _ _ O ⟨R.write h0 g0 (dps_rev g3), .non⟩⟩
  · cases e
/-- x.pop(e) -/
def mPopAt (i : Nat) (f : FE) : FE := fun env => match ownAt env i, f env with
  | some _, some (.d (.int j), e1) => (match ownAt e1 i with
    | some xs => if -(2 ^ 63) ≤ j ∧ j < 2 ^ 63 then (match seqIndex? j xs.length with | some k => (match xs[k]? with | some d => some (.d d, putOwn e1 i (xs.eraseIdx k)) | none => none) | none => none) else none
    | none => none)
  | _, _ => none
theorem se_popAt {i : Nat} {x : Str} {a : Expr} {f : FE} {p2 apos pos : Pos} (h : PE X (.Call (.Attribute (.Name x p2) "pop" apos) [a] [] pos) (tBM X.K "list" rPopAt (tVar i) (tCons (teOf X.K f) tNil))) :
    SE X (.Call (.Attribute (.Name x p2) "pop" apos) [a] [] pos) (mPopAt i f) := PE.imp h fun σ H Q q => by
  obtain ⟨C, env, O, r, env', R, e, q⟩ := q
  unfold mPopAt at e
  split at e
  · rename_i x1 x2 xs0 j e1 h0 h1
    split at e
    · rename_i xs hx
      split at e
      · rename_i hz
        split at e
        · rename_i k hk
          split at e
          · rename_i d hd
            cases e
            obtain ⟨p, us0, g0, g1, g2, g3⟩ := R.own h0
            refine ⟨_, g1, .inl ⟨rfl, us0, .inl (.inl g2)⟩, C, env, O, _, _, R, h1, fun w H2 O2 P2 => ?_⟩
            obtain ⟨P2, Q2⟩ := P2
            cases Q2
            obtain ⟨p', us, f0, f1, f2, f3⟩ := P2.own hx
            rw [g1] at f1; cases f1
            obtain ⟨v, hv, dv⟩ := dps_get f3 hd
            have hm : C.m O2 p := .inr ⟨i, f0⟩
            refine ⟨p, us, j, k, v, rfl, rfl, f2, hz.1, hz.2, by rw [dps_len f3]; exact hk, hv, q v _ O2 ⟨P2.write hx f0 (dps_erase k f3), ?_⟩⟩
            rw [msk_upd hm]; exact dv
          · cases e
        · cases e
      · cases e
    · cases e
  · cases e
/-- x.pop() -/
def mPop (i : Nat) : FE := fun env => match ownAt env i with | some xs => (match xs[xs.length - 1]? with | some d => some (.d d, putOwn env i xs.dropLast) | none => none) | none => none
theorem dps_dropLast {K : Fr} {H : Hp} {vs : List V} {ds : List D} (h : DpAll K H vs ds) : DpAll K H vs.dropLast ds.dropLast := by
  rw [List.dropLast_eq_take, List.dropLast_eq_take, dps_len h]
  exact dps_take _ h
theorem se_pop {i : Nat} {x : Str} {p2 apos pos : Pos} (h : PE X (.Call (.Attribute (.Name x p2) "pop" apos) [] [] pos) (tBM0 X.K "list" rPop (tVar i))) :
    SE X (.Call (.Attribute (.Name x p2) "pop" apos) [] [] pos) (mPop i) := PE.imp h fun σ H Q q => by
  obtain ⟨C, env, O, r, env', R, e, q⟩ := q
  unfold mPop at e
  split at e
  · rename_i xs h0
    split at e
    · rename_i d hd
      cases e
      obtain ⟨p, us, g0, g1, g2, g3⟩ := R.own h0
      obtain ⟨v, hv, dv⟩ := dps_get g3 hd
      have hm : C.m O p := .inr ⟨i, g0⟩
      refine ⟨_, g1, .inl ⟨rfl, us, .inl (.inl g2)⟩, p, us, v, rfl, rfl, g2, by rw [dps_len g3]; exact hv, q _ _ O ⟨R.write h0 g0 (dps_dropLast g3), ?_⟩⟩
      rw [msk_upd hm]; exact dv
    · cases e
  · cases e
/-- x[e] = v -/
def mPutIx (i : Nat) (f g : FE) : FS := fun env => match f env with
  | none => none
  | some (r, e1) => (match ownAt e1 i, g e1 with
    | some _, some (.d (.int j), e2) => (match ownAt e2 i with
      | some xs => (match ixN xs.length j with | some k => some (.nx, putOwn e2 i (xs.set k r.toD)) | none => none)
      | none => none)
    | _, _ => none)
theorem ss_putIx {i : Nat} {x : Str} {a b : Expr} {f g : FE} {p2 p3 pos : Pos} (h : PS X (.Assign [.Subscript (.Name x p2) b p3] a pos) (tAsg (teOf X.K f) (gSub (tVar i) (teOf X.K g) rSetL))) :
    SS X (.Assign [.Subscript (.Name x p2) b p3] a pos) (mPutIx i f g) := PS.imp h fun Dn σ H q => by
  obtain ⟨C, env, O, fl, env', R, e, q⟩ := q
  unfold mPutIx at e
  split at e
  · cases e
  · rename_i r1 e1 h1
    split at e
    · rename_i x1 x2 xs0 j e2 h0 h2
      split at e
      · rename_i xs hx
        split at e
        · rename_i k hk
          cases e
          refine te_run R h1 fun v H1 O1 _ R1 d1 => ?_
          obtain ⟨p, us0, g0, g1, g2, g3⟩ := R1.own h0
          refine ⟨_, g1, C.pinAt (msk (C.m O1) H1), _, O1, _, _, R1.pinned, h2, fun w H2 O2 P2 => ?_⟩
          obtain ⟨P2, Q2⟩ := P2
          cases Q2
          have R2 : Rep X.K C e2 σ H2 O2 := P2.unpin R1.pin
          obtain ⟨p', us, f0, f1, f2, f3⟩ := R2.own hx
          rw [g1] at f1; cases f1
          exact ⟨p, us, j, k, rfl, rfl, f2, by rw [dps_len f3]; exact hk, q _ _ O2 (R2.write hx f0 (dps_set k f3 (P2.keep d1)))⟩
        · cases e
      · cases e
    · cases e
/-- return x, x an own list: it is the caller's -/
def mRetO (i : Nat) : FS := fun env => match env[i]? with | some (.ow xs) => some (.rt (.l xs), env.set i .un) | _ => none
theorem Rep.give {K : Fr} {C : Ctx} {env : MEnv} {σ : L2.St} {H : Hp} {O : Ow} {i : Nat} {xs : List D} (R : Rep K C env σ H O) (h : env[i]? = some (.ow xs)) : ∃ (p : Addr) (us : List V) (O' : Ow), σ[i]? = some (some (.ref p)) ∧ ¬ C.M p ∧ C.Hs p = none ∧ H p = some (.lst us) ∧ Rep K (C.add p (.lst us)) (env.set i .un) σ H O' ∧ DpAll K (msk ((C.add p (.lst us)).m O') H) us xs := by
  obtain ⟨p, us, h0, h1, h2, h3⟩ := R.ow i xs h
  have hm : ¬ C.M p := (R.out i p h0).1
  have A : ∀ a, (C.add p (.lst us)).m (O.put i none) a → C.m O a := fun a z => by
    rcases z with (z | z) | ⟨j, z⟩
    · exact .inl z
    · exact .inr ⟨i, z ▸ h0⟩
    · by_cases hj : j = i
      · subst hj; rw [put_same] at z; cases z
      · rw [put_ne hj] at z; exact .inr ⟨j, z⟩
  have S : Same (msk (C.m O) H) (msk ((C.add p (.lst us)).m (O.put i none)) H) := msk_anti A
  refine ⟨p, us, O.put i none, h1, hm, ?_, h2, ⟨by rw [List.length_set]; exact R.len, fun j d he => ?_, fun j zs he => ?_, fun j zs he => ?_, fun j k q g1 g2 => ?_, fun j q hq => ?_, R.pin.trans S, fun a ha => ?_, fun j x he => xt_set0 S R he (fun z => by cases z)⟩, dps_mono S h3⟩
  · cases q : C.Hs p with
    | none => rfl
    | some o => have := (msk_some (R.pin p o q)).1; exact absurd (.inr ⟨i, h0⟩) this
  · by_cases hj : j = i
    · subst hj
      obtain ⟨e1, hl⟩ := get_set_eq he
      cases e1
    · rw [get_set_ne hj] at he
      obtain ⟨v, g1, g2⟩ := R.dt j d he
      exact ⟨v, g1, dp_mono S g2⟩
  · by_cases hj : j = i
    · subst hj
      obtain ⟨e1, hl⟩ := get_set_eq he
      cases e1
    · rw [get_set_ne hj] at he
      obtain ⟨q, vs, g0, g1, g2, g3⟩ := R.ow j zs he
      exact ⟨q, vs, by rw [put_ne hj]; exact g0, g1, g2, dps_mono S g3⟩
  · by_cases hj : j = i
    · subst hj
      obtain ⟨e1, hl⟩ := get_set_eq he
      cases e1
    · rw [get_set_ne hj] at he
      obtain ⟨q, vs, g0, hb, g1, g2, g3⟩ := R.bo j zs he
      exact ⟨q, vs, by rw [put_ne hj]; exact g0, hb, g1, g2, dps_mono S g3⟩
  · by_cases hj : j = i
    · subst hj; rw [put_same] at g1; cases g1
    · by_cases hk : k = i
      · subst hk; rw [put_same] at g2; cases g2
      · rw [put_ne hj] at g1; rw [put_ne hk] at g2; exact R.inj j k q g1 g2
  · by_cases hj : j = i
    · subst hj; rw [put_same] at hq; cases hq
    · rw [put_ne hj] at hq
      refine ⟨fun z => z.elim (R.out j q hq).1 fun z => hj (R.inj j i p (z ▸ hq) h0), (R.out j q hq).2⟩
  · by_cases e : a = p
    · subst e
      exact ⟨by rw [h2]; exact upd_same.symm, _, h2⟩
    · obtain ⟨g1, g2⟩ := R.frn a (ha.resolve_right e)
      exact ⟨by rw [g1]; exact (upd_ne e).symm, g2⟩
theorem ss_retO {i : Nat} {x : Str} {p2 pos : Pos} (h : PE X (.Name x p2) (tVar i)) : SS X (.Return (some (.Name x p2)) pos) (mRetO i) := PS.imp (ps_ret h) fun Dn σ H q => by
  obtain ⟨C, env, O, fl, env', R, e, q⟩ := q
  unfold mRetO at e
  split at e
  · rename_i xs hx
    cases e
    obtain ⟨p, us, O', h1, h2, h3, h4, h5, h6⟩ := R.give hx
    exact ⟨_, h1, q _ σ H O' ⟨p, us, rfl, h2, h3, h4, h5, h6⟩⟩
  · cases e
end
end Mir

/-! Mir 6: defs by their bodies; calls that lend a list; while. -/
namespace Mir
open PySem L2

/-! ### a def of data -/
def startE (n : Nat) (ds : List D) : MEnv := ds.map Sl.dt ++ List.replicate (n - ds.length) Sl.un
def runP (np n : Nat) (g : FS) : List D → Option Rv := fun ds => if ds.length = np then (match g (startE n ds) with | some (.rt r, _) => some r | some (.nx, _) => some (.d .none) | _ => none) else none
theorem runP_len {np n : Nat} {g : FS} : ∀ ds r, runP np n g ds = some r → ds.length = np := fun ds r h => by
  unfold runP at h
  split at h
  · assumption
  · cases h
theorem start_get {N : List Str} {vs : List V} {i : Nat} (h : i < vs.length) : (L2.start N vs)[i]? = (vs[i]?).map some := by
  unfold L2.start
  rw [List.getElem?_append_left (by simpa using h), List.getElem?_map]
theorem startE_get {n : Nat} {ds : List D} {i : Nat} {s : Sl} (h : (startE n ds)[i]? = some s) : (∃ d, ds[i]? = some d ∧ s = .dt d) ∨ s = .un := by
  unfold startE at h
  by_cases hi : i < ds.length
  · rw [List.getElem?_append_left (by simpa using hi), List.getElem?_map] at h
    cases q : ds[i]? with
    | none => rw [q] at h; cases h
    | some d => rw [q] at h; exact .inl ⟨d, rfl, (Option.some.inj h).symm⟩
  · rw [List.getElem?_append_right (by simpa using hi), List.getElem?_replicate] at h
    split at h
    · exact .inr (Option.some.inj h).symm
    · cases h
theorem start_len {N : List Str} {vs : List V} : (L2.start N vs).length = vs.length + (N.length - vs.length) := by unfold L2.start; simp
theorem startE_len {n : Nat} {ds : List D} : (startE n ds).length = ds.length + (n - ds.length) := by unfold startE; simp
/-- behind a def's body all that stood stands -/
theorem Rep.stood {K : Fr} {m : Addr → Prop} {H H' : Hp} {bo : Nat → Option Addr} {B : Addr → Prop} {env : MEnv} {σ : L2.St} {O : Ow} (R : Rep K { M := m, HM := H, Hs := msk (fun a => m a ∨ B a) H, bo := bo } env σ H' O) : ∀ a o, ¬ B a → H a = some o → H' a = some o := fun a o hb h => by
  by_cases hm : m a
  · rw [(R.frn a hm).1]; exact h
  · have : msk (fun a => m a ∨ B a) H a = some o := by rw [msk_no fun z => z.elim hm hb]; exact h
    exact msk_sub _ _ (R.pin a o this)
theorem PostE.rv {K : Fr} {m : Addr → Prop} {H H' : Hp} {bo : Nat → Option Addr} {B : Addr → Prop} {env : MEnv} {σ : L2.St} {O : Ow} {v : V} {r : Rv} (hB : ∀ a, B a → ∃ i, O i = some a)
    (p : PostE K { M := m, HM := H, Hs := msk (fun a => m a ∨ B a) H, bo := bo } O σ env H' v r) : RvOk K (fun a => m a ∨ B a) H H' v r := by
  cases r with
  | d d => exact dp_mono (msk_anti fun a z => z.elim .inl fun z => .inr (hB a z)) p.2
  | l xs =>
    obtain ⟨q, us, e, n, hs, hq, R, a⟩ := p
    refine ⟨q, us, e, ?_, hq, dps_mono (msk_anti fun a z => ?_) a⟩
    · have nb : ¬ B q := fun z => by
        obtain ⟨i, z⟩ := hB q z
        exact (R.out i q z).1 (.inr rfl)
      have hs : msk (fun a => m a ∨ B a) H q = none := hs
      rw [msk_no fun z => z.elim n nb] at hs
      exact hs
    · rcases z with (z | z) | z
      · exact .inl (.inl z)
      · exact .inr (hB a z)
      · exact .inl (.inr z)
section
variable {P : Program} {w : World} {K : Fr} {mg : Str → Option Value} {base : Heap}
theorem pure_start {st : Stmt} {N ps : List Str} {g : FS} {vs : List V} {H : Hp} {Q : VK} {E : XK} (S : FnScope N ps (defScope st)) (h : spP K ps.length (runP ps.length N.length g) vs H Q E) :
    tsOf K g { nx := fun _ H' => Q .non H', rt := Q } (L2.start N vs) H := by
  obtain ⟨hl, m, ds, r, al, a, e, q⟩ := h
  unfold runP at e
  split at e
  · rename_i hds
    have hnl : ps.length ≤ N.length := by
      have := congrArg List.length S.pre
      rw [List.length_take] at this
      omega
    have hvd : vs.length = ds.length := dps_len a
    -- the frame at its entry
    have R0 : Rep K { M := m, HM := H, Hs := msk (fun a => m a ∨ False) H, bo := fun _ => none } (startE N.length ds) (L2.start N vs) H (fun _ => none) := by
      have E1 : Same (msk m H) (msk (Ctx.m { M := m, HM := H, Hs := msk (fun a => m a ∨ False) H, bo := fun _ => none } (fun _ => none)) H) := msk_anti fun a z => z.elim id fun ⟨_, z⟩ => nomatch z
      refine ⟨by rw [startE_len, start_len, hvd], fun i d h => ?_, fun i xs h => ?_, fun i xs h => ?_, (fun i j p h => by cases h), (fun i p h => by cases h), Same.trans (msk_anti fun a z => .inl z) E1, fun a h => ⟨rfl, al a h⟩, fun i x h => by rcases startE_get h with ⟨d', h1, h2⟩ | h2 <;> cases h2⟩
      · rcases startE_get h with ⟨d', h1, h2⟩ | h2
        · cases h2
          obtain ⟨v, g1, g2⟩ := dps_get a h1
          refine ⟨v, ?_, dp_mono E1 g2⟩
          rw [start_get (List.getElem?_eq_some_iff.mp g1).1, g1]
          rfl
        · cases h2
      · rcases startE_get h with ⟨d', h1, h2⟩ | h2 <;> cases h2
      · rcases startE_get h with ⟨d', h1, h2⟩ | h2 <;> cases h2
    have fin : ∀ v σ' H' O' env' (r' : Rv), PostE K { M := m, HM := H, Hs := msk (fun a => m a ∨ False) H, bo := fun _ => none } O' σ' env' H' v r' → r' = r → Q v H' := fun v σ' H' O' env' r' p er => by
      subst er
      refine q v H' (fun a o h => p.rep.stood (B := fun _ => False) a o (fun z => z) h) ?_
      have := p.rv (B := fun _ => False) (fun a z => z.elim)
      cases r' with
      | d d => exact dp_mono (msk_anti fun a z => .inl z) this
      | l xs =>
        obtain ⟨p, us, e1, n, h1, h2⟩ := this
        exact ⟨p, us, e1, n, h1, dps_mono (msk_anti fun a z => z.elim (fun z => .inl (.inl z)) .inr) h2⟩
    split at e
    · rename_i r' env' hg
      cases e
      exact ⟨_, _, _, _, _, R0, hg, fun v σ' H' O' p => fin v σ' H' O' env' _ p rfl⟩
    · rename_i env' hg
      cases e
      exact ⟨_, _, _, _, _, R0, hg, fun σ' H' O' R' => fin .non σ' H' O' env' (.d .none) ⟨R', .non⟩ rfl⟩
    · cases e
  · cases e
theorem fn_pure {x qual : Str} {st : Stmt} {f : Addr} {fd : FuncData} {N ps : List Str} {k : Nat} {g : FS} (F : Fun K x qual st f fd) (S : FnScope N ps (defScope st))
    (body : ∀ (cdv : Value) (A : Around) (outer : List PySem.Env) (s : Shared) (H : Hp) (E : XK), Room k (A.deeper (PyProof.Rows.envOfC qual (defScope st) s.heap.objs.size f cdv)) →
      SSs (cxOf CX0 P w K mg base N qual (defScope st) f cdv A outer s H E).nox (defBody st) g) : FnOk P w K mg base CX0 (k + 1) f fd ps (spP K ps.length (runP ps.length N.length g)) := by
  refine F.ok S (fun vs H Q E h => h.1) (fun cdv A outer s H vs Q E hr h => ⟨_, body cdv A outer s H E hr, pure_start S h⟩)
/-! ### a def whose first argument is a lent list -/
def startB (n : Nat) (xs : List D) (ds : List D) : MEnv := .bo xs :: (ds.map Sl.dt ++ List.replicate (n - (ds.length + 1)) Sl.un)
abbrev ZB := List D → List D → Option (Rv × List D)
def boAt (env : MEnv) : Option (List D) := match env with | .bo ys :: _ => some ys | _ => none
def runB (np n : Nat) (g : FS) : ZB := fun xs ds => if ds.length + 1 = np then
    (match g (startB n xs ds) with
      | some (.rt r, e) => (match boAt e with | some ys => some (r, ys) | none => none)
      | some (.nx, e) => (match boAt e with | some ys => some (.d .none, ys) | none => none)
      | _ => none)
  else none
theorem boAt_get {env : MEnv} {ys : List D} (h : boAt env = some ys) : env[0]? = some (Sl.bo ys) := by
  unfold boAt at h
  split at h
  · cases h; rfl
  · cases h
/-- what a lending call leaves: the lent list's items, the answer -/
def BxOk (K : Fr) (m : Addr → Prop) (H H' : Hp) (us : List V) (ys : List D) (v : V) : Rv → Prop
  | .d d => DpAll K (msk m H') us ys ∧ Dp K (msk m H') v d
  | .l zs => ∃ (t : Addr) (ts : List V), v = .ref t ∧ H t = none ∧ H' t = some (.lst ts) ∧ DpAll K (msk (fun a => m a ∨ a = t) H') us ys ∧ DpAll K (msk (fun a => m a ∨ a = t) H') ts zs
def rBx (K : Fr) (z : ZB) (p : Addr) (vs : List V) (H : Hp) (Q : VK) : Prop := ∃ (m : Addr → Prop) (us : List V) (xs ds : List D) (r : Rv) (ys : List D), Al m H ∧ ¬ m p ∧ H p = some (.lst us) ∧ DpAll K (msk (fun a => m a ∨ a = p) H) us xs ∧ DpAll K (msk (fun a => m a ∨ a = p) H) vs ds ∧
  z xs ds = some (r, ys) ∧ ∀ v H' us', (∀ a o, a ≠ p → H a = some o → H' a = some o) → H' p = some (.lst us') → BxOk K (fun a => m a ∨ a = p) H H' us' ys v r → Q v H'
def spB (K : Fr) (n : Nat) (z : ZB) : Sp := fun vs H Q _ => ∃ (p : Addr) (ws : List V), vs = .ref p :: ws ∧ ws.length + 1 = n ∧ rBx K z p ws H Q
theorem runB_len {np n : Nat} {g : FS} : ∀ xs ds r, runB np n g xs ds = some r → ds.length + 1 = np := fun xs ds r h => by
  unfold runB at h
  split at h
  · assumption
  · cases h
theorem box_start {st : Stmt} {N ps : List Str} {g : FS} {vs : List V} {H : Hp} {Q : VK} {E : XK} (S : FnScope N ps (defScope st)) (h : spB K ps.length (runB ps.length N.length g) vs H Q E) :
    tsOf K g { nx := fun _ H' => Q .non H', rt := Q } (L2.start N vs) H := by
  obtain ⟨p, ws, rfl, hl, m, us, xs, ds, r, ys, al, np, hp, a0, a, e, q⟩ := h
  unfold runB at e
  split at e
  · rename_i hds
    have hnl : ps.length ≤ N.length := by
      have := congrArg List.length S.pre
      rw [List.length_take] at this
      omega
    have hvd : ws.length = ds.length := dps_len a
    have R0 : Rep K { M := m, HM := H, Hs := msk (fun a => m a ∨ a = p) H, bo := fun i => if i = 0 then some p else none } (startB N.length xs ds) (L2.start N (.ref p :: ws)) H (fun i => if i = 0 then some p else none) := by
      have E1 : Same (msk (fun a => m a ∨ a = p) H) (msk (Ctx.m { M := m, HM := H, Hs := msk (fun a => m a ∨ a = p) H, bo := fun i => if i = 0 then some p else none } (fun i => if i = 0 then some p else none)) H) := msk_anti fun a z => by
        rcases z with z | ⟨i, z⟩
        · exact .inl z
        · have z : (if i = 0 then some p else none) = some a := z
          split at z
          · cases z; exact .inr rfl
          · cases z
      have g0 : (L2.start N (.ref p :: ws))[0]? = some (some (.ref p)) := rfl
      have gs : ∀ (i : Nat) (s : Sl), (startB N.length xs ds)[i + 1]? = some s → (∃ d, ds[i]? = some d ∧ s = .dt d) ∨ s = .un := fun i s h => by
        have h : (ds.map Sl.dt ++ List.replicate (N.length - (ds.length + 1)) Sl.un)[i]? = some s := h
        by_cases hi : i < ds.length
        · rw [List.getElem?_append_left (by simpa using hi), List.getElem?_map] at h
          cases q : ds[i]? with
          | none => rw [q] at h; cases h
          | some d => rw [q] at h; exact .inl ⟨d, rfl, (Option.some.inj h).symm⟩
        · rw [List.getElem?_append_right (by simpa using hi), List.getElem?_replicate] at h
          split at h
          · exact .inr (Option.some.inj h).symm
          · cases h
      refine ⟨?_, fun i d h => ?_, fun i zs h => ?_, fun i zs h => ?_, fun i j q h1 h2 => ?_, fun i q h => ?_, E1, fun a h => ⟨rfl, al a h⟩, fun i x h => by cases i with | zero => cases h | succ i => rcases gs i _ h with ⟨d', h1, h2⟩ | h2 <;> cases h2⟩
      · rw [start_len]
        unfold startB
        simp only [List.length_cons, List.length_append, List.length_map, List.length_replicate]
        omega
      · cases i with
        | zero => cases h
        | succ i =>
          rcases gs i _ h with ⟨d', h1, h2⟩ | h2
          · cases h2
            obtain ⟨v, g1, g2⟩ := dps_get a h1
            refine ⟨v, ?_, dp_mono E1 g2⟩
            rw [start_get (by have := (List.getElem?_eq_some_iff.mp g1).1; rw [List.length_cons]; omega)]
            rw [List.getElem?_cons_succ, g1]
            rfl
          · cases h2
      · cases i with
        | zero => cases h
        | succ i => rcases gs i _ h with ⟨d', h1, h2⟩ | h2 <;> cases h2
      · cases i with
        | zero =>
          cases h
          exact ⟨p, us, rfl, rfl, g0, hp, dps_mono E1 a0⟩
        | succ i => rcases gs i _ h with ⟨d', h1, h2⟩ | h2 <;> cases h2
      · split at h1
        · split at h2
          · rename_i z1 z2; rw [z1, z2]
          · cases h2
        · cases h1
      · split at h
        · cases h; exact ⟨np, _, hp⟩
        · cases h
    have fin : ∀ v σ' H' O' env' (r' : Rv), PostE K { M := m, HM := H, Hs := msk (fun a => m a ∨ a = p) H, bo := fun i => if i = 0 then some p else none } O' σ' env' H' v r' → env'[0]? = some (.bo ys) → r' = r → Q v H' := fun v σ' H' O' env' r' pe h0 er => by
      subst er
      obtain ⟨p', us', k0, kb, _, k1, k2⟩ := pe.rep.bo 0 ys h0
      have kb : some p = some p' := kb
      cases kb
      refine q v H' us' (fun a o ha h => pe.rep.stood (B := fun a => a = p) a o ha h) k1 ?_
      have rv := pe.rv (B := fun a => a = p) fun a z => ⟨0, z ▸ k0⟩
      cases r' with
      | d d => exact ⟨dps_mono (msk_anti fun a z => z.elim .inl fun z => .inr ⟨0, z ▸ k0⟩) k2, rv⟩
      | l zs =>
        obtain ⟨t, ts, et, nt, hs, ht, Rt, at'⟩ := pe
        obtain ⟨t', ts', et', nt', ht', at''⟩ := rv
        rw [et] at et'; cases et'
        rw [ht] at ht'; cases ht'
        obtain ⟨p'', us'', j0, jb, _, j1, j2⟩ := Rt.bo 0 ys h0
        have jb : some p = some p'' := jb
        cases jb
        rw [k1] at j1; cases j1
        refine ⟨t, ts, et, nt', ht, dps_mono (msk_anti fun a z => ?_) j2, at''⟩
        rcases z with (z | z) | z
        · exact .inl (.inl z)
        · exact .inr ⟨0, z ▸ k0⟩
        · exact .inl (.inr z)
    split at e
    · rename_i r' env' hg
      split at e
      · rename_i ys' h0
        cases e
        exact ⟨_, _, _, _, _, R0, hg, fun v σ' H' O' p => fin v σ' H' O' env' _ p (boAt_get h0) rfl⟩
      · cases e
    · rename_i env' hg
      split at e
      · rename_i ys' h0
        cases e
        exact ⟨_, _, _, _, _, R0, hg, fun σ' H' O' R' => fin .non σ' H' O' env' (.d .none) ⟨R', .non⟩ (boAt_get h0) rfl⟩
      · cases e
    · cases e
  · cases e
theorem fn_box {x qual : Str} {st : Stmt} {f : Addr} {fd : FuncData} {N ps : List Str} {k : Nat} {g : FS} (F : Fun K x qual st f fd) (S : FnScope N ps (defScope st))
    (body : ∀ (cdv : Value) (A : Around) (outer : List PySem.Env) (s : Shared) (H : Hp) (E : XK), Room k (A.deeper (PyProof.Rows.envOfC qual (defScope st) s.heap.objs.size f cdv)) →
      SSs (cxOf CX0 P w K mg base N qual (defScope st) f cdv A outer s H E).nox (defBody st) g) : FnOk P w K mg base CX0 (k + 1) f fd ps (spB K ps.length (runB ps.length N.length g)) := by
  refine F.ok S (fun vs H Q E h => ?_) (fun cdv A outer s H vs Q E hr h => ⟨_, body cdv A outer s H E hr, box_start S h⟩)
  obtain ⟨p, ws, rfl, h, _⟩ := h
  exact h
end
/-! ### calls that lend -/
def mBox (i : Nat) (z : ZB) (fs : FA) : FE := fun env => match ownAt env i, fs env with
  | some _, some (ds, e1) => (match ownAt e1 i with | some xs => (match z xs ds with | some (r, ys) => some (r, putOwn e1 i ys) | none => none) | none => none)
  | _, _ => none
section
variable {K : Fr}
theorem te_box {i n : Nat} {z : ZB} {fs : FA} (hz : ∀ xs ds r, z xs ds = some r → ds.length + 1 = n) : ∀ σ H Q, teOf K (mBox i z fs) σ H Q → tCall (spB K n z) [] E0 (tCons (tVar i) (taOf K fs)) σ H Q := fun σ H Q q => by
  obtain ⟨C, env, O, r, env', R, e, q⟩ := q
  unfold mBox at e
  split at e
  · rename_i x1 x2 xs0 ds e1 h0 h1
    split at e
    · rename_i xs hx
      split at e
      · rename_i r' ys hzz
        cases e
        obtain ⟨p, us0, g0, g1, g2, g3⟩ := R.own h0
        refine ⟨_, g1, C, env, O, ds, e1, R, h1, fun vs H1 O1 R1 a1 => ?_⟩
        obtain ⟨p', us, f0, f1, f2, f3⟩ := R1.own hx
        rw [g1] at f1; cases f1
        rw [List.append_nil]
        have hm : C.m O1 p := .inr ⟨i, f0⟩
        have A : ∀ a, ((C.m O1 a ∧ a ≠ p) ∨ a = p) → C.m O1 a := fun a z => z.elim (·.1) fun z => z ▸ hm
        have B : ∀ a, C.m O1 a → ((C.m O1 a ∧ a ≠ p) ∨ a = p) := fun a z => by
          by_cases e : a = p
          · exact .inr e
          · exact .inl ⟨z, e⟩
        refine ⟨p, vs, rfl, by rw [dps_len a1]; exact hz _ _ _ hzz, fun a => C.m O1 a ∧ a ≠ p, us, xs, ds, _, ys, fun a h => R1.al a h.1, fun h => h.2 rfl, f2, dps_mono (msk_anti A) f3, dps_mono (msk_anti A) a1, hzz, fun v H' us' hk hp hr => ?_⟩
        have S : Same (msk (C.m O1) H1) (msk (C.m O1) H') := fun a o h => by
          obtain ⟨h1, h2⟩ := msk_some h
          rw [msk_no h1]
          exact hk a o (fun e => h1 (e ▸ hm)) h2
        have keq : ∀ a, C.m O1 a → a ≠ p → H' a = H1 a := fun a z e => by
          obtain ⟨o, ho⟩ := R1.al a z
          rw [ho]; exact hk a o e ho
        have hne : ∀ j q, O1 j = some q → j ≠ i → q ≠ p := fun j q h1 h2 e => h2 (R1.inj j i p (e ▸ h1) f0)
        cases r with
        | d d =>
          refine q v H' O1 ⟨R1.step hx f0 S (fun j q h1 h2 => keq q (.inr ⟨j, h1⟩) (hne j q h1 h2)) (fun j q h => (R1.out j q h).1) rfl rfl hp (dps_mono (msk_anti B) hr.1) fun a h => ?_, dp_mono (msk_anti B) hr.2⟩
          have e : a ≠ p := fun e => (R1.out i p f0).1 (e ▸ h)
          rw [keq a (.inl h) e]
          exact R1.frn a h
        | l zs =>
          obtain ⟨t, ts, et, nt, ht, ha, at'⟩ := hr
          have hmt : ¬ C.M t := fun z => by obtain ⟨_, o, z⟩ := R1.frn t z; rw [nt] at z; cases z
          have htp : t ≠ p := fun e => by rw [e, f2] at nt; cases nt
          have S' : Same (msk (C.m O1) H1) (msk ((C.add t (.lst ts)).m O1) H') := fun a o h => by
            obtain ⟨h1, h2⟩ := msk_some h
            have : a ≠ t := fun e => by rw [e, nt] at h2; cases h2
            rw [msk_no fun z => z.elim (fun z => z.elim (fun z => h1 (.inl z)) this) fun z => h1 (.inr z)]
            exact hk a o (fun e => h1 (e ▸ hm)) h2
          have B' : ∀ a, (C.add t (.lst ts)).m O1 a → (((C.m O1 a ∧ a ≠ p) ∨ a = p) ∨ a = t) := fun a z => by
            rcases z with (z | z) | z
            · exact .inl (B a (.inl z))
            · exact .inr z
            · exact .inl (B a (.inr z))
          refine q v H' O1 ⟨t, ts, et, hmt, ?_, ht, R1.step hx f0 S' (fun j q h1 h2 => keq q (.inr ⟨j, h1⟩) (hne j q h1 h2)) (fun j q h z => z.elim (R1.out j q h).1 fun z => ?_) rfl rfl hp ?_ fun a h => ?_, dps_mono (msk_anti B') at'⟩
          · cases qq : C.Hs t with
            | none => rfl
            | some o => have := msk_sub _ _ (R1.pin t o qq); rw [nt] at this; cases this
          · obtain ⟨_, o, h2⟩ := R1.out j q h
            rw [z, nt] at h2; cases h2
          · exact dps_mono (msk_anti B') ha
          · by_cases e : a = t
            · subst e
              exact ⟨by rw [ht]; exact upd_same.symm, _, ht⟩
            · have h := h.resolve_right e
              have e' : a ≠ p := fun e => (R1.out i p f0).1 (e ▸ h)
              obtain ⟨k1, k2⟩ := R1.frn a h
              rw [keq a (.inl h) e']
              exact ⟨by rw [k1]; exact (upd_ne e).symm, k2⟩
      · cases e
    · cases e
  · cases e
/-- a new list is lent and forgotten -/
def mBoxNew (f : FE) (z : ZB) (fs : FA) : FE := fun env => match f env with
  | some (.l xs, e1) => (match fs e1 with | some (ds, e2) => (match z xs ds with | some (r, _) => some (.d r.toD, e2) | none => none) | none => none)
  | _ => none
theorem te_boxNew {n : Nat} {f : FE} {z : ZB} {fs : FA} (hz : ∀ xs ds r, z xs ds = some r → ds.length + 1 = n) : ∀ σ H Q, teOf K (mBoxNew f z fs) σ H Q → tCall (spB K n z) [] E0 (tCons (teOf K f) (taOf K fs)) σ H Q := fun σ H Q q => by
  obtain ⟨C, env, O, r, env', R, e, q⟩ := q
  unfold mBoxNew at e
  split at e
  · rename_i xs e1 h1
    split at e
    · rename_i ds e2 h2
      split at e
      · rename_i r' ys hzz
        cases e
        refine ⟨C, env, O, _, _, R, h1, fun v H1 O1 P1 => ?_⟩
        obtain ⟨p, us, ep, np, hs, hp, R1, a1⟩ := P1
        subst ep
        refine ⟨(C.add p (.lst us)).pinAt (msk ((C.add p (.lst us)).m O1) H1), e1, O1, ds, _, R1.pinned, h2, fun vs H2 O2 R2 a2 => ?_⟩
        show spB K n z (.ref p :: vs ++ []) H2 Q E0
        rw [List.append_nil]
        have R2' : Rep K (C.add p (.lst us)) env' σ H2 O2 := R2.unpin R1.pin
        have hp2 : H2 p = some (.lst us) := by rw [(R2'.frn p (.inr rfl)).1]; exact upd_same
        have nO : ∀ i, O2 i ≠ some p := fun i h => (R2'.out i p h).1 (.inr rfl)
        have A : ∀ a, (C.m O2 a ∨ a = p) → (C.add p (.lst us)).m O2 a := fun a z => by
          rcases z with (z | z) | z
          · exact .inl (.inl z)
          · exact .inr z
          · exact .inl (.inr z)
        have nmp : ¬ C.m O2 p := fun z => z.elim np fun ⟨i, z⟩ => nO i z
        refine ⟨p, vs, rfl, by rw [dps_len a2]; exact hz _ _ _ hzz, C.m O2, us, xs, ds, _, ys, fun a h => R2'.al a (A a (.inl h)), nmp, hp2, dps_mono (R2.pin.trans (msk_anti A)) a1, dps_mono (msk_anti A) a2, hzz, fun v H' us' hk hp' hr => ?_⟩
        have keq : ∀ a, C.m O2 a → H' a = H2 a := fun a z => by
          obtain ⟨o, ho⟩ := R2'.al a (A a (.inl z))
          rw [ho]; exact hk a o (fun e => nmp (e ▸ z)) ho
        have S : Same (msk ((C.add p (.lst us)).m O2) H2) (msk (C.m O2) H') := fun a o h => by
          obtain ⟨k1, k2⟩ := msk_some h
          rw [msk_no fun z => k1 (A a (.inl z))]
          exact hk a o (fun e => k1 (A a (.inr e))) k2
        refine q v H' O2 ⟨R2'.step0 S (fun j q h => keq q (.inr ⟨j, h⟩)) (fun j q h z => (R2'.out j q h).1 (.inl z)) rfl rfl fun a h => ?_, ?_⟩
        · obtain ⟨k1, k2⟩ := R2'.frn a (.inl h)
          rw [keq a (.inl h)]
          exact ⟨by rw [k1]; exact upd_ne fun e => np (e ▸ h), k2⟩
        · cases r' with
          | d d => exact dp_mono (msk_anti fun a z => .inl z) hr.2
          | l zs =>
            obtain ⟨t, ts, et, nt, ht, _, at'⟩ := hr
            subst et
            refine Dp.lst (.inl (.inl ?_)) (dps_mono (msk_anti fun a z => .inl (.inl z)) at')
            rw [msk_no fun z => ?_]
            · exact ht
            · obtain ⟨o, ho⟩ := R2'.al t (A t (.inl z))
              rw [nt] at ho; cases ho
      · cases e
    · cases e
  · cases e
end
section
variable {X : Cx}
theorem se_box {k n i : Nat} {f : Addr} {fd : FuncData} {ps : List Str} {x y : Str} {es : List Expr} {g : FA} {z : ZB} {p p2 pos : Pos} (F : FnOk X.prog X.w X.K X.mg X.base CX0 k f fd ps (spB X.K n z)) (hr : Room k X.A) (hg : Gl X x) (hm : X.mg x = some (.ref f)) (hk : PySem.W.keepIn X.K (.ref f) = true) (hb : Binds X.K fd ps [])
    (hz : ∀ xs ds r, z xs ds = some r → ds.length + 1 = n) (hv : PE X (.Name y p2) (tVar i)) (ha : SA X es g) (hdb : (x == ("__debug__" : Str)) = false := by decide)
    (he : starEach (.Name y p2 :: es) X.env = (false, eval (.Name y p2) X.env) :: starEach es X.env := by rfl) (hpl : (backTo pos (starEach es X.env)).any (·.1) = false := by rfl) :
    SE X (.Call (.Name x p) (.Name y p2 :: es) [] pos) (mBox i z g) := PE.imp (pe_call F hr hg hm hk hb .nil pass0 (pa_cons hv ha he) hdb he hpl) (te_box hz)
theorem se_boxNew {k n : Nat} {f : Addr} {fd : FuncData} {ps : List Str} {x : Str} {e : Expr} {es : List Expr} {h : FE} {g : FA} {z : ZB} {p pos : Pos} (F : FnOk X.prog X.w X.K X.mg X.base CX0 k f fd ps (spB X.K n z)) (hr : Room k X.A) (hg : Gl X x) (hm : X.mg x = some (.ref f)) (hk : PySem.W.keepIn X.K (.ref f) = true) (hb : Binds X.K fd ps [])
    (hz : ∀ xs ds r, z xs ds = some r → ds.length + 1 = n) (hv : SE X e h) (ha : SA X es g) (hdb : (x == ("__debug__" : Str)) = false := by decide)
    (he : starEach (e :: es) X.env = (false, eval e X.env) :: starEach es X.env := by rfl) (hpl : (backTo pos (starEach es X.env)).any (·.1) = false := by rfl) :
    SE X (.Call (.Name x p) (e :: es) [] pos) (mBoxNew h z g) := PE.imp (pe_call F hr hg hm hk hb .nil pass0 (pa_cons hv ha he) hdb he hpl) (te_boxNew hz)
/-! while: a run -/
inductive WRun (t : FT) (b : FS) : MEnv → Fl × MEnv → Prop
  | stop {env e1 : MEnv} (h : t env = some (false, e1)) : WRun t b env (.nx, e1)
  | nx {env e1 e2 : MEnv} {r : Fl × MEnv} (h : t env = some (true, e1)) (hb : b e1 = some (.nx, e2)) (n : WRun t b e2 r) : WRun t b env r
  | ct {env e1 e2 : MEnv} {r : Fl × MEnv} (h : t env = some (true, e1)) (hb : b e1 = some (.ct, e2)) (n : WRun t b e2 r) : WRun t b env r
  | bk {env e1 e2 : MEnv} (h : t env = some (true, e1)) (hb : b e1 = some (.bk, e2)) : WRun t b env (.nx, e2)
  | rt {env e1 e2 : MEnv} {v : Rv} (h : t env = some (true, e1)) (hb : b e1 = some (.rt v, e2)) : WRun t b env (.rt v, e2)
inductive WRunN (t : FT) (b : FS) : Nat → MEnv → Fl × MEnv → Prop
  | stop {n : Nat} {env e1 : MEnv} (h : t env = some (false, e1)) : WRunN t b n env (.nx, e1)
  | nx {n : Nat} {env e1 e2 : MEnv} {r : Fl × MEnv} (h : t env = some (true, e1)) (hb : b e1 = some (.nx, e2)) (nn : WRunN t b n e2 r) : WRunN t b (n + 1) env r
  | ct {n : Nat} {env e1 e2 : MEnv} {r : Fl × MEnv} (h : t env = some (true, e1)) (hb : b e1 = some (.ct, e2)) (nn : WRunN t b n e2 r) : WRunN t b (n + 1) env r
  | bk {n : Nat} {env e1 e2 : MEnv} (h : t env = some (true, e1)) (hb : b e1 = some (.bk, e2)) : WRunN t b n env (.nx, e2)
  | rt {n : Nat} {env e1 e2 : MEnv} {v : Rv} (h : t env = some (true, e1)) (hb : b e1 = some (.rt v, e2)) : WRunN t b n env (.rt v, e2)
theorem WRun.num {t : FT} {b : FS} {env : MEnv} {r : Fl × MEnv} (h : WRun t b env r) : ∃ n, WRunN t b n env r := by
  induction h with
  | stop h => exact ⟨0, .stop h⟩
  | nx h hb _ ih => obtain ⟨n, ih⟩ := ih; exact ⟨n + 1, .nx h hb ih⟩
  | ct h hb _ ih => obtain ⟨n, ih⟩ := ih; exact ⟨n + 1, .ct h hb ih⟩
  | bk h hb => exact ⟨0, .bk h hb⟩
  | rt h hb => exact ⟨0, .rt h hb⟩
theorem WRun.fn {t : FT} {b : FS} {env : MEnv} {r : Fl × MEnv} (h : WRun t b env r) : ∀ {r'}, WRun t b env r' → r' = r := by
  induction h with
  | stop h =>
    intro r' h'
    cases h' with
    | stop g => rw [h] at g; cases g; rfl
    | nx g _ _ => rw [h] at g; cases g
    | ct g _ _ => rw [h] at g; cases g
    | bk g _ => rw [h] at g; cases g
    | rt g _ => rw [h] at g; cases g
  | nx h hb _ ih =>
    intro r' h'
    cases h' with
    | stop g => rw [h] at g; cases g
    | nx g gb n => rw [h] at g; cases g; rw [hb] at gb; cases gb; exact ih n
    | ct g gb n => rw [h] at g; cases g; rw [hb] at gb; cases gb
    | bk g gb => rw [h] at g; cases g; rw [hb] at gb; cases gb
    | rt g gb => rw [h] at g; cases g; rw [hb] at gb; cases gb
  | ct h hb _ ih =>
    intro r' h'
    cases h' with
    | stop g => rw [h] at g; cases g
    | nx g gb n => rw [h] at g; cases g; rw [hb] at gb; cases gb
    | ct g gb n => rw [h] at g; cases g; rw [hb] at gb; cases gb; exact ih n
    | bk g gb => rw [h] at g; cases g; rw [hb] at gb; cases gb
    | rt g gb => rw [h] at g; cases g; rw [hb] at gb; cases gb
  | bk h hb =>
    intro r' h'
    cases h' with
    | stop g => rw [h] at g; cases g
    | nx g gb n => rw [h] at g; cases g; rw [hb] at gb; cases gb
    | ct g gb n => rw [h] at g; cases g; rw [hb] at gb; cases gb
    | bk g gb => rw [h] at g; cases g; rw [hb] at gb; cases gb; rfl
    | rt g gb => rw [h] at g; cases g; rw [hb] at gb; cases gb
  | rt h hb =>
    intro r' h'
    cases h' with
    | stop g => rw [h] at g; cases g
    | nx g gb n => rw [h] at g; cases g; rw [hb] at gb; cases gb
    | ct g gb n => rw [h] at g; cases g; rw [hb] at gb; cases gb
    | bk g gb => rw [h] at g; cases g; rw [hb] at gb; cases gb
    | rt g gb => rw [h] at g; cases g; rw [hb] at gb; cases gb; rfl
noncomputable def mWhile (t : FT) (b : FS) : FS := fun env => open Classical in if h : ∃ r, WRun t b env r then some h.choose else none
theorem mWhile_eq {t : FT} {b : FS} {env : MEnv} {r : Fl × MEnv} (h : WRun t b env r) : mWhile t b env = some r := by
  unfold mWhile
  have hx : ∃ r, WRun t b env r := ⟨r, h⟩
  rw [dif_pos hx]
  exact congrArg some (h.fn hx.choose_spec)
theorem mWhile_run {t : FT} {b : FS} {env : MEnv} {r : Fl × MEnv} (h : mWhile t b env = some r) : WRun t b env r := by
  unfold mWhile at h
  split at h
  · rename_i hx
    cases h
    exact hx.choose_spec
  · cases h
theorem ss_while {c : Expr} {body : List Stmt} {t : FT} {b : FS} {pos : Pos} (hp : PassesOwn (model X.prog X.w) X.A X.env X.xe) (hc : ST X c t) (hb : SSs X body b) : SS X (.While c body [] pos) (mWhile t b) := PS.imp (ps_while hp hc hb) fun Dn σ H q => by
  obtain ⟨C, env, O, fl, env', R, e, q⟩ := q
  obtain ⟨n, hn⟩ := (mWhile_run e).num
  refine ⟨fun m σ' H' => ∃ env1 O1, Rep X.K C env1 σ' H' O1 ∧ WRunN t b m env1 (fl, env'), ⟨n, env, O, R, hn⟩, ?_⟩
  rintro m σ' H' ⟨env1, O1, R1, h1⟩
  generalize hr : (fl, env') = r at h1
  cases h1 with
  | stop h => cases hr; exact ⟨C, env1, O1, _, _, R1, h, fun H2 O2 R2 => iteF (q σ' H2 O2 R2)⟩
  | nx h hb nn =>
    subst hr
    exact ⟨C, env1, O1, _, _, R1, h, fun H2 O2 R2 => iteT ⟨fun σ3 H3 => ∃ env1 O1, Rep X.K C env1 σ3 H3 O1 ∧ WRunN t b _ env1 (fl, env'), fun σ3 H3 hN => ⟨_, Nat.lt_succ_self _, hN⟩, C, _, O2, _, _, R2, hb, fun σ4 H4 O4 R4 => ⟨_, O4, R4, nn⟩⟩⟩
  | ct h hb nn =>
    subst hr
    exact ⟨C, env1, O1, _, _, R1, h, fun H2 O2 R2 => iteT ⟨fun σ3 H3 => ∃ env1 O1, Rep X.K C env1 σ3 H3 O1 ∧ WRunN t b _ env1 (fl, env'), fun σ3 H3 hN => ⟨_, Nat.lt_succ_self _, hN⟩, C, _, O2, _, _, R2, hb, fun σ4 H4 O4 R4 => ⟨_, O4, R4, nn⟩⟩⟩
  | bk h hb =>
    cases hr
    exact ⟨C, env1, O1, _, _, R1, h, fun H2 O2 R2 => iteT ⟨fun _ _ => False, fun _ _ z => z.elim, C, _, O2, _, _, R2, hb, fun σ4 H4 O4 R4 => q σ4 H4 O4 R4⟩⟩
  | rt h hb =>
    cases hr
    exact ⟨C, env1, O1, _, _, R1, h, fun H2 O2 R2 => iteT ⟨fun _ _ => False, fun _ _ z => z.elim, C, _, O2, _, _, R2, hb, fun v σ4 H4 O4 p4 => q v σ4 H4 O4 p4⟩⟩
end
end Mir

/-! Mir 7: operations by values. -/
namespace Mir
open PySem PySem.Spec PyProof.Rows L2

section
variable {X : Cx}
theorem rd_of {K : Fr} {H : Hp} {m : Addr → Prop} {a : Addr} {u : HO} (h : Rd (msk m H) a u) : Rd H a u := rd_mono msk_sub h
theorem rv_same {K : Fr} {m : Addr → Prop} {H : Hp} {v : V} {d : D} (h : Dp K (msk m H) v d) : RvOk K m H H v (.d d) := h
theorem Dp.rd {pins : List (Addr × Obj)} {σ : L2.St} {H : Hp} {s : Shared} {m : Addr → Prop} {v : V} {u : Value} {d : D} (h : Dp X.K (msk m H) v d) (I : Inv X pins σ H s) (r : RelV v u) : ∃ as, Reads s.heap u d as := L2.Dp.reads I d v u (dp_mono msk_sub h).deep r
theorem DpAll.rd {pins : List (Addr × Obj)} {σ : L2.St} {H : Hp} {s : Shared} {m : Addr → Prop} {vs : List V} {us : List Value} {ds : List D} (h : DpAll X.K (msk m H) vs ds) (I : Inv X pins σ H s) (r : Vals vs us) : ∃ as, ReadsAll s.heap us ds as := L2.Dp.readsAll I ds vs us (dps_mono msk_sub h).deep r
mutual
theorem dp_plain {K : Fr} {H : Hp} : ∀ {v : V} {d : D}, Dp K H v d → d.plain = true
  | _, _, .non => rfl
  | _, _, .bl _ => rfl
  | _, _, .int _ => rfl
  | _, _, .str _ => rfl
  | _, _, .lst _ a => dps_plain a
  | _, _, .tup _ a => dps_plain a
theorem dps_plain {K : Fr} {H : Hp} : ∀ {vs : List V} {ds : List D}, DpAll K H vs ds → PyData.plainAll ds = true
  | _, _, .nil => rfl
  | _, _, .cons h t => by rw [PyData.plainAll, dp_plain h, dps_plain t]; rfl
end
/-! ints -/
def intsOf : List D → Option (List Int)
  | [] => some []
  | .int i :: r => (match intsOf r with | some l => some (i :: l) | none => none)
  | _ => none
theorem intsOf_eq : ∀ {ds : List D} {ns : List Int}, intsOf ds = some ns → ds = ns.map PyData.int
  | [], ns, h => by cases h; rfl
  | d :: r, ns, h => by
    cases d with
    | int i =>
      rw [intsOf] at h
      split at h
      · rename_i l hl
        cases h
        rw [List.map_cons, intsOf_eq hl]
      · cases h
    | none => cases h
    | bool b => cases h
    | str s => cases h
    | list l => cases h
    | tuple l => cases h
    | dict l => cases h
theorem intsOf_map : ∀ ns : List Int, intsOf (ns.map PyData.int) = some ns
  | [] => rfl
  | n :: ns => by rw [List.map_cons, intsOf, intsOf_map ns]
def boolsOf : List D → Option (List Bool)
  | [] => some []
  | .bool i :: r => (match boolsOf r with | some l => some (i :: l) | none => none)
  | _ => none
theorem boolsOf_eq : ∀ {ds : List D} {ns : List Bool}, boolsOf ds = some ns → ds = ns.map PyData.bool
  | [], ns, h => by cases h; rfl
  | d :: r, ns, h => by
    cases d with
    | bool i =>
      rw [boolsOf] at h
      split at h
      · rename_i l hl
        cases h
        rw [List.map_cons, boolsOf_eq hl]
      · cases h
    | none => cases h
    | int b => cases h
    | str s => cases h
    | list l => cases h
    | tuple l => cases h
    | dict l => cases h
theorem boolsOf_map : ∀ ns : List Bool, boolsOf (ns.map PyData.bool) = some ns
  | [] => rfl
  | n :: ns => by rw [List.map_cons, boolsOf, boolsOf_map ns]
/-! + - * // % ** -/
def addD : D → D → Option Rv
  | .int a, .int b => some (.d (.int (a + b)))
  | .str a, .str b => if a.length + b.length ≤ sizeLine then some (.d (.str (a ++ b))) else none
  | .list a, .list b => if a.length + b.length ≤ sizeLine then some (.l (a ++ b)) else none
  | .tuple a, .tuple b => if a.length + b.length ≤ sizeLine then some (.d (.tuple (a ++ b))) else none
  | _, _ => none
theorem op_catR {X : Cx} : OpR X (binaryOp .Add) (fun x y H Q => ∃ (l b : Addr) (xs zs : List V), x = .ref l ∧ y = .ref b ∧ SqL X.K H l xs ∧ SqL X.K H b zs ∧ xs.length + zs.length ≤ sizeLine ∧ ∀ p, H p = none → Q (.ref p) (upd H p (.lst (xs ++ zs)))) := by
  intro pins s σ H x y v u Q I rx ry h
  obtain ⟨l, b, xs, zs, rfl, rfl, hA, hB, hz, q⟩ := h
  cases rx; cases ry
  obtain ⟨i1, r1, p1, _⟩ := I.list hA
  obtain ⟨i2, r2, p2, _⟩ := I.list hB
  have l1 := r1.length
  have l2 := r2.length
  obtain ⟨⟨cls, dd, data, sl⟩, ho, hc, n, hd⟩ := p1.isList
  obtain ⟨⟨cls2, dd2, data2, sl2⟩, ho2, hc2, n2, hd2⟩ := p2.isList
  simp only at hc hd hc2 hd2
  subst hc hd hc2 hd2
  refine concat_meets ⟨_, ho, rfl⟩ ⟨_, ho2, rfl⟩ noFill_list_add seq_list_add PySem.F.slot_list_add PySem.F.entry_list_add (PySem.F.args_list_add_2 _ _) (list_addW l b i1.toArray i2.toArray n n2 dd dd2 sl sl2 (by rw [List.size_toArray, List.size_toArray]; omega)) ⟨ho, ho2, ?_⟩
  rw [show i1.toArray ++ i2.toArray = (i1 ++ i2).toArray by simp]
  exact ⟨.ref _, _, I.lnew (t' := s.toks) (r1.append r2) (by rw [List.length_append]; exact hz), rfl, q _ I.fresh⟩
theorem op_addD : OpR X (binaryOp .Add) (rD2 X.K addD) := by
  intro pins s σ H x y v u Q I rx ry h
  obtain ⟨m, d, e, r, al, hd, he, hz, q⟩ := h
  unfold addD at hz
  split at hz
  · cases hz; cases hd; cases he
    exact op_add pins s σ H _ _ v u Q I rx ry ⟨_, _, rfl, rfl, q _ H (Same.refl _) (.int _)⟩
  · split at hz
    · rename_i hl
      cases hz; cases hd; cases he
      exact op_add_str pins s σ H _ _ v u Q I rx ry ⟨_, _, rfl, rfl, hl, q _ H (Same.refl _) (.str _)⟩
    · cases hz
  · split at hz
    · rename_i hl
      cases hz
      cases hd with
      | lst h1 a1 =>
        cases he with
        | lst h2 a2 =>
          exact op_catR pins s σ H _ _ v u Q I rx ry ⟨_, _, _, _, rfl, rfl, sql_mono msk_sub h1, sql_mono msk_sub h2, by rw [dps_len a1, dps_len a2]; exact hl, fun p n => q _ _ (same_new n) (rv_new n (dps_app a1 a2))⟩
    · cases hz
  · split at hz
    · rename_i hl
      cases hz
      cases hd with
      | tup h1 a1 =>
        cases he with
        | tup h2 a2 =>
          refine op_catA pins s σ H _ _ v u Q I rx ry ⟨_, _, _, _, rfl, rfl, sqt_mono msk_sub h1, sqt_mono msk_sub h2, by rw [dps_len a1, dps_len a2]; exact hl, fun z => ?_, fun z w => ?_, fun z w p n => q _ _ (same_new n) (dp_newT al n (dps_app a1 a2))⟩
          · subst z; cases a1
            exact q _ H (Same.refl _) (Dp.tup h2 a2)
          · subst w; cases a2
            refine q _ H (Same.refl _) ?_
            rw [List.append_nil]
            exact Dp.tup h1 a1
    · cases hz
  · cases hz
def subD : D → D → Option Rv
  | .int a, .int b => some (.d (.int (a - b)))
  | _, _ => none
theorem op_subD : OpR X (binaryOp .Sub) (rD2 X.K subD) := by
  intro pins s σ H x y v u Q I rx ry h
  obtain ⟨m, d, e, r, al, hd, he, hz, q⟩ := h
  unfold subD at hz
  split at hz
  · cases hz; cases hd; cases he
    exact op_sub pins s σ H _ _ v u Q I rx ry ⟨_, _, rfl, rfl, q _ H (Same.refl _) (.int _)⟩
  · cases hz
def mulOk (i j : Int) : Bool := decide (i.natAbs < 2 ^ 64) || decide (j.natAbs < 2 ^ 64) || decide (i.natAbs.log2 + j.natAbs.log2 < 1000000)
theorem mulOk_ok {i j : Int} (h : mulOk i j = true) : IntMulOk i j := by
  unfold mulOk at h
  rw [Bool.or_eq_true, Bool.or_eq_true] at h
  rcases h with (h | h) | h
  · have h := of_decide_eq_true h
    exact CMul.ok (.inl ⟨by omega, by omega⟩)
  · have h := of_decide_eq_true h
    exact CMul.ok (.inr ⟨by omega, by omega⟩)
  · exact CMulW.ok (show CMulW i j from of_decide_eq_true (p := i.natAbs.log2 + j.natAbs.log2 < 1000000) h)
theorem op_mulI : OpR X (binaryOp .Mult) (rI (fun i j => mulOk i j = true) fun i j => .int (i * j)) := opI fun _ _ _ _ _ _ _ hc q => PyProof.Rows.mul_int q (mulOk_ok hc)
def mulD : D → D → Option Rv
  | .int a, .int b => if mulOk a b = true then some (.d (.int (a * b))) else none
  | .list a, .int k => if -(2 ^ 63) ≤ k ∧ k < 2 ^ 63 ∧ a.length * k.toNat ≤ sizeLine then some (.l (List.replicate k.toNat a).flatten) else none
  | .tuple a, .int k => if a ≠ [] ∧ 2 ≤ k ∧ k ≤ 1000 ∧ a.length ≤ 1000 then some (.d (.tuple (List.replicate k.toNat a).flatten)) else none
  | _, _ => none
theorem dps_rep {K : Fr} {H : Hp} {vs : List V} {ds : List D} (h : DpAll K H vs ds) : ∀ n, DpAll K H (List.replicate n vs).flatten (List.replicate n ds).flatten
  | 0 => .nil
  | n + 1 => by rw [List.replicate_succ, List.replicate_succ, List.flatten_cons, List.flatten_cons]; exact dps_app h (dps_rep h n)
theorem dps_nil {K : Fr} {H : Hp} {vs : List V} {ds : List D} (h : DpAll K H vs ds) : vs = [] ↔ ds = [] := by cases h <;> simp
theorem op_repR {X : Cx} : OpR X (binaryOp .Mult) (fun x y H Q => ∃ (l : Addr) (k : Int) (xs : List V), x = .ref l ∧ y = .int k ∧ SqL X.K H l xs ∧ -(2 ^ 63) ≤ k ∧ k < 2 ^ 63 ∧ xs.length * k.toNat ≤ sizeLine ∧ ∀ p, H p = none → Q (.ref p) (upd H p (.lst (List.replicate k.toNat xs).flatten))) := by
  intro pins s σ H x y v u Q I rx ry h
  obtain ⟨l, k, xs, rfl, rfl, hA, h1, h2, hz, q⟩ := h
  cases rx
  obtain ⟨t, rfl⟩ := ry
  obtain ⟨is, r, pl, _⟩ := I.list hA
  obtain ⟨⟨cls, dd, data, sl⟩, e, hc, n, hd⟩ := pl.isList
  simp only at hc hd
  subst hc hd
  have hlen : is.toArray.size * k.toNat ≤ sizeLine := by rw [List.size_toArray, ← r.length]; exact hz
  have c0 : (sizeLine : Nat) ≤ (2 ^ 63 - 1) / 8 := by decide
  have c1 : ¬ is.toArray.size * k.toNat > (2 ^ 63 - 1) / 8 := by omega
  have c2 : ¬ (!Builtin.List.listFitsIndex k) = true := by rw [fitsIndex_both h1 h2]; decide
  have c3 : ¬ Builtin.List.listTooLong (is.toArray.size * k.toNat) = true := by rw [notLongL hlen]; decide
  have f0 : ∀ m : Nat, List.foldl (· ++ ·) #[] (List.replicate m is.toArray) = (List.replicate m is).flatten.toArray := fun m => by
    have z := foldl_rep is m []; rw [List.nil_append] at z; exact z
  have hnew : List.foldl (· ++ ·) #[] (List.replicate (if is.toArray.isEmpty = true then 0 else k.toNat) is.toArray) = (List.replicate k.toNat is).flatten.toArray := by
    rw [f0]; cases is with
    | nil => simp
    | cons a r' => rw [if_neg (by simp)]
  refine wpAny_binaryOp_repeat_ref (T := "list") (U := "int") (by decide) ⟨_, e, rfl⟩ (fun s' => typeIs_int s' k t) noFill_list_mul F.fills_int_mul F.slot_int_rmul repeat_list F.slot_int_index.lookup (call_meets F.slot_int_rmul (typeIs_int s k t) F.entry_int_rmul (F.args_int_rmul_2 _ _) (lm_int_rmul_list_any k t l is.toArray n dd sl) ⟨e, rfl, ⟨_, e, rfl⟩, call_meets F.slot_list_mul ⟨_, e, rfl⟩ F.entry_list_mul (F.args_list_mul_2 _ _) (lm_list_mul_any l is.toArray n dd sl k t c2 c1 c3) ⟨e, ?_⟩⟩)
  rw [hnew]
  exact ⟨.ref _, _, I.lnew (t' := s.toks) (r.rep k.toNat) (by rw [PyProof.Rows.lm_len_rep_flat, Nat.mul_comm]; exact hz), rfl, q _ I.fresh⟩
theorem op_mulD : OpR X (binaryOp .Mult) (rD2 X.K mulD) := by
  intro pins s σ H x y v u Q I rx ry h
  obtain ⟨m, d, e, r, al, hd, he, hz, q⟩ := h
  unfold mulD at hz
  split at hz
  · split at hz
    · rename_i hm
      cases hz; cases hd; cases he
      exact op_mulI pins s σ H _ _ v u Q I rx ry ⟨_, _, rfl, rfl, hm, q _ H (Same.refl _) (.int _)⟩
    · cases hz
  · split at hz
    · rename_i hm
      cases hz; cases he
      cases hd with
      | lst h1 a1 =>
        exact op_repR pins s σ H _ _ v u Q I rx ry ⟨_, _, _, rfl, rfl, sql_mono msk_sub h1, hm.1, hm.2.1, by rw [dps_len a1]; exact hm.2.2, fun p n => q _ _ (same_new n) (rv_new n (dps_rep a1 _))⟩
    · cases hz
  · split at hz
    · rename_i hm
      cases hz; cases he
      cases hd with
      | tup h1 a1 => exact op_repT pins s σ H _ _ v u Q I rx ry ⟨_, _, _, rfl, rfl, sqt_mono msk_sub h1, fun z => hm.1 ((dps_nil a1).mp z), hm.2.1, hm.2.2.1, by rw [dps_len a1]; exact hm.2.2.2, fun p n => q _ _ (same_new n) (dp_newT al n (dps_rep a1 _))⟩
    · cases hz
  · cases hz
def fdivD : D → D → Option Rv
  | .int a, .int b => if 0 < b ∧ b.natAbs.log2 < 9000 then some (.d (.int (a / b))) else none
  | _, _ => none
theorem op_fdivD : OpR X (binaryOp .FloorDiv) (rD2 X.K fdivD) := by
  intro pins s σ H x y v u Q I rx ry h
  obtain ⟨m, d, e, r, al, hd, he, hz, q⟩ := h
  unfold fdivD at hz
  split at hz
  · split at hz
    · rename_i hm
      cases hz; cases hd; cases he
      exact op_fdivW pins s σ H _ _ v u Q I rx ry ⟨_, _, rfl, rfl, hm, q _ H (Same.refl _) (.int _)⟩
    · cases hz
  · cases hz
def modD : D → D → Option Rv
  | .int a, .int b => if 0 < b then some (.d (.int (a % b))) else none
  | _, _ => none
theorem op_modD : OpR X (binaryOp .Mod) (rD2 X.K modD) := by
  intro pins s σ H x y v u Q I rx ry h
  obtain ⟨m, d, e, r, al, hd, he, hz, q⟩ := h
  unfold modD at hz
  split at hz
  · split at hz
    · rename_i hm
      cases hz; cases hd; cases he
      exact op_mod pins s σ H _ _ v u Q I rx ry ⟨_, _, rfl, rfl, hm, q _ H (Same.refl _) (.int _)⟩
    · cases hz
  · cases hz
def powD : D → D → Option Rv
  | .int a, .int b => if 0 ≤ b ∧ b ≤ 1000000 ∧ a.natAbs < 2 ^ 64 then some (.d (.int (a ^ b.toNat))) else none
  | _, _ => none
theorem op_powD : OpR X (binaryOp .Pow) (rD2 X.K powD) := by
  intro pins s σ H x y v u Q I rx ry h
  obtain ⟨m, d, e, r, al, hd, he, hz, q⟩ := h
  unfold powD at hz
  split at hz
  · split at hz
    · rename_i hm
      cases hz; cases hd; cases he
      exact op_pow pins s σ H _ _ v u Q I rx ry ⟨_, _, rfl, rfl, hm, q _ H (Same.refl _) (.int _)⟩
    · cases hz
  · cases hz
def negD : D → Option Rv
  | .int a => some (.d (.int (-a)))
  | _ => none
theorem un_negD : UnR X (unaryOp .USub) (rD1 X.K negD) := by
  intro pins s σ H x v Q I rx h
  obtain ⟨m, d, r, al, hd, hz, q⟩ := h
  unfold negD at hz
  split at hz
  · cases hz; cases hd
    exact un_neg pins s σ H _ v Q I rx ⟨_, rfl, q _ H (Same.refl _) (.int _)⟩
  · cases hz
/-! comparisons -/
def eqD (d e : D) : Option Rv := if d.depth ≤ 100 then some (.d (.bool (PyData.eqv d e))) else none
def neD (d e : D) : Option Rv := if d.depth ≤ 100 then some (.d (.bool (!PyData.eqv d e))) else none
theorem op_eqD' (hu : X.A.units + 128 < cLine) : OpR X (compareOp .Eq) (rD2 X.K eqD) := by
  intro pins s σ H x y v u Q I rx ry h
  obtain ⟨m, d, e, r, al, hd, he, hz, q⟩ := h
  unfold eqD at hz
  split at hz
  · rename_i hm
    cases hz
    obtain ⟨as, r1⟩ := hd.rd I rx
    obtain ⟨bs, r2⟩ := he.rd I ry
    exact PySem.SeqAt.eq_plain r1 r2 (dp_plain hd) (dp_plain he) (by have := Nat.min_le_left d.depth e.depth; omega) ⟨.bl _, H, I, rfl, q _ H (Same.refl _) (.bl _)⟩
  · cases hz
theorem op_neD' (hu : X.A.units + 128 < cLine) : OpR X (compareOp .NotEq) (rD2 X.K neD) := by
  intro pins s σ H x y v u Q I rx ry h
  obtain ⟨m, d, e, r, al, hd, he, hz, q⟩ := h
  unfold neD at hz
  split at hz
  · rename_i hm
    cases hz
    obtain ⟨as, r1⟩ := hd.rd I rx
    obtain ⟨bs, r2⟩ := he.rd I ry
    exact PySem.SeqAt.ne_plain r1 r2 (dp_plain hd) (dp_plain he) (by have := Nat.min_le_left d.depth e.depth; omega) ⟨.bl _, H, I, rfl, q _ H (Same.refl _) (.bl _)⟩
  · cases hz
def ltD : D → D → Option Rv
  | .int a, .int b => some (.d (.bool (decide (a < b))))
  | d, e => if PySem.W.alike d e = true ∧ d.depth ≤ 100 ∧ PyData.eqv d .none = false then some (.d (.bool (PySem.W.dataLt d e))) else none
def leD : D → D → Option Rv
  | .int a, .int b => some (.d (.bool (decide (a ≤ b))))
  | d, e => if PySem.W.alike d e = true ∧ d.depth ≤ 100 ∧ PyData.eqv d .none = false then some (.d (.bool (!PySem.W.dataLt e d))) else none
def gtD : D → D → Option Rv
  | .int a, .int b => some (.d (.bool (decide (b < a))))
  | d, e => if PySem.W.alike d e = true ∧ d.depth ≤ 100 ∧ PyData.eqv d .none = false then some (.d (.bool (PySem.W.dataLt e d))) else none
def geD : D → D → Option Rv
  | .int a, .int b => some (.d (.bool (decide (b ≤ a))))
  | d, e => if PySem.W.alike d e = true ∧ d.depth ≤ 100 ∧ PyData.eqv d .none = false then some (.d (.bool (!PySem.W.dataLt d e))) else none
theorem ne_non {d : D} (h : PyData.eqv d .none = false) : d ≠ .none := fun e => by subst e; simp [PyData.eqv] at h
theorem op_ltD (hu : X.A.units + 128 < cLine) : OpR X (compareOp .Lt) (rD2 X.K ltD) := by
  intro pins s σ H x y v u Q I rx ry h
  obtain ⟨m, d, e, r, al, hd, he, hz, q⟩ := h
  unfold ltD at hz
  split at hz
  · cases hz; cases hd; cases he
    exact op_lt pins s σ H _ _ v u Q I rx ry ⟨_, _, rfl, rfl, q _ H (Same.refl _) (.bl _)⟩
  · split at hz
    · rename_i hm
      cases hz
      obtain ⟨as, r1⟩ := hd.rd I rx
      obtain ⟨bs, r2⟩ := he.rd I ry
      exact PySem.W.lt_data r1 r2 hm.1 (ne_non hm.2.2) (by have := Nat.min_le_left d.depth e.depth; omega) ⟨.bl _, H, I, rfl, q _ H (Same.refl _) (.bl _)⟩
    · cases hz
theorem op_leD (hu : X.A.units + 128 < cLine) : OpR X (compareOp .LtE) (rD2 X.K leD) := by
  intro pins s σ H x y v u Q I rx ry h
  obtain ⟨m, d, e, r, al, hd, he, hz, q⟩ := h
  unfold leD at hz
  split at hz
  · cases hz; cases hd; cases he
    exact op_le pins s σ H _ _ v u Q I rx ry ⟨_, _, rfl, rfl, q _ H (Same.refl _) (.bl _)⟩
  · split at hz
    · rename_i hm
      cases hz
      obtain ⟨as, r1⟩ := hd.rd I rx
      obtain ⟨bs, r2⟩ := he.rd I ry
      exact PySem.W.le_data r1 r2 hm.1 (ne_non hm.2.2) (by have := Nat.min_le_left d.depth e.depth; omega) ⟨.bl _, H, I, rfl, q _ H (Same.refl _) (.bl _)⟩
    · cases hz
theorem op_gtD (hu : X.A.units + 128 < cLine) : OpR X (compareOp .Gt) (rD2 X.K gtD) := by
  intro pins s σ H x y v u Q I rx ry h
  obtain ⟨m, d, e, r, al, hd, he, hz, q⟩ := h
  unfold gtD at hz
  split at hz
  · cases hz; cases hd; cases he
    exact op_gt pins s σ H _ _ v u Q I rx ry ⟨_, _, rfl, rfl, q _ H (Same.refl _) (.bl _)⟩
  · split at hz
    · rename_i hm
      cases hz
      obtain ⟨as, r1⟩ := hd.rd I rx
      obtain ⟨bs, r2⟩ := he.rd I ry
      exact PySem.W.gt_data r1 r2 hm.1 (ne_non hm.2.2) (by have := Nat.min_le_left d.depth e.depth; omega) ⟨.bl _, H, I, rfl, q _ H (Same.refl _) (.bl _)⟩
    · cases hz
theorem op_geD (hu : X.A.units + 128 < cLine) : OpR X (compareOp .GtE) (rD2 X.K geD) := by
  intro pins s σ H x y v u Q I rx ry h
  obtain ⟨m, d, e, r, al, hd, he, hz, q⟩ := h
  unfold geD at hz
  split at hz
  · cases hz; cases hd; cases he
    exact op_ge pins s σ H _ _ v u Q I rx ry ⟨_, _, rfl, rfl, q _ H (Same.refl _) (.bl _)⟩
  · split at hz
    · rename_i hm
      cases hz
      obtain ⟨as, r1⟩ := hd.rd I rx
      obtain ⟨bs, r2⟩ := he.rd I ry
      exact PySem.W.ge_data r1 r2 hm.1 (ne_non hm.2.2) (by have := Nat.min_le_left d.depth e.depth; omega) ⟨.bl _, H, I, rfl, q _ H (Same.refl _) (.bl _)⟩
    · cases hz
/-! x is None, x is not None -/
def isNone : D → Bool
  | .none => true
  | _ => false
def isD (d e : D) : Option Rv := if isNone e = true then some (.d (.bool (isNone d))) else none
def isntD (d e : D) : Option Rv := if isNone e = true then some (.d (.bool (!isNone d))) else none
theorem dp_isNone {K : Fr} {H : Hp} {v : V} {d : D} (h : Dp K H v d) : decide (v = .non) = isNone d := by cases h <;> first | rfl | (apply decide_eq_false; intro z; cases z)
theorem op_isD : OpR X (compareOp .Is) (rD2 X.K isD) := by
  intro pins s σ H x y v u Q I rx ry h
  obtain ⟨m, d, e, r, al, hd, he, hz, q⟩ := h
  unfold isD at hz
  split at hz
  · rename_i hm
    cases hz
    cases he <;> first | cases hm | skip
    refine op_isN pins s σ H _ _ v u Q I rx ry ⟨rfl, ?_⟩
    rw [dp_isNone hd]
    exact q _ H (Same.refl _) (.bl _)
  · cases hz
theorem op_isntD : OpR X (compareOp .IsNot) (rD2 X.K isntD) := by
  intro pins s σ H x y v u Q I rx ry h
  obtain ⟨m, d, e, r, al, hd, he, hz, q⟩ := h
  unfold isntD at hz
  split at hz
  · rename_i hm
    cases hz
    cases he <;> first | cases hm | skip
    refine op_notN pins s σ H _ _ v u Q I rx ry ⟨rfl, ?_⟩
    rw [dp_isNone hd]
    exact q _ H (Same.refl _) (.bl _)
  · cases hz
/-! x in xs, x not in xs -/
def itemsOf : D → Option (List D)
  | .list xs => some xs
  | .tuple xs => some xs
  | _ => none
def inD (d e : D) : Option Rv := match itemsOf e with | some xs => if d.depth ≤ 100 then some (.d (.bool (xs.any fun y => PyData.eqv y d))) else none | none => none
def notInD (d e : D) : Option Rv := match itemsOf e with | some xs => if d.depth ≤ 100 then some (.d (.bool (!xs.any fun y => PyData.eqv y d))) else none | none => none
theorem op_inD (hu : X.A.units + 128 < cLine) : OpR X (compareOp .In) (rD2 X.K inD) := by
  intro pins s σ H x y v u Q I rx ry h
  obtain ⟨m, d, e, r, al, hd, he, hz, q⟩ := h
  unfold inD at hz
  split at hz
  · rename_i xs hx
    split at hz
    · rename_i hm
      cases hz
      obtain ⟨as, r1⟩ := hd.rd I rx
      obtain ⟨bs, r2⟩ := he.rd I ry
      unfold itemsOf at hx
      split at hx
      · cases hx
        exact PySem.SeqAt.in_list_data r2 r1 (by simpa [PyData.plain] using dp_plain he) (dp_plain hd) (by have := Nat.min_le_right (PyData.depthAll xs) d.depth; omega) ⟨.bl _, H, I, rfl, q _ H (Same.refl _) (.bl _)⟩
      · cases hx
        exact PySem.SeqAt.in_tuple_data r2 r1 (by simpa [PyData.plain] using dp_plain he) (dp_plain hd) (by have := Nat.min_le_right (PyData.depthAll xs) d.depth; omega) ⟨.bl _, H, I, rfl, q _ H (Same.refl _) (.bl _)⟩
      · cases hx
    · cases hz
  · cases hz
theorem op_notInD (hu : X.A.units + 128 < cLine) : OpR X (compareOp .NotIn) (rD2 X.K notInD) := by
  intro pins s σ H x y v u Q I rx ry h
  obtain ⟨m, d, e, r, al, hd, he, hz, q⟩ := h
  unfold notInD at hz
  split at hz
  · rename_i xs hx
    split at hz
    · rename_i hm
      cases hz
      obtain ⟨as, r1⟩ := hd.rd I rx
      obtain ⟨bs, r2⟩ := he.rd I ry
      unfold itemsOf at hx
      split at hx
      · cases hx
        exact PySem.SeqAt.notIn_list_data r2 r1 (by simpa [PyData.plain] using dp_plain he) (dp_plain hd) (by have := Nat.min_le_right (PyData.depthAll xs) d.depth; omega) ⟨.bl _, H, I, rfl, q _ H (Same.refl _) (.bl _)⟩
      · cases hx
        exact PySem.SeqAt.notIn_tuple_data r2 r1 (by simpa [PyData.plain] using dp_plain he) (dp_plain hd) (by have := Nat.min_le_right (PyData.depthAll xs) d.depth; omega) ⟨.bl _, H, I, rfl, q _ H (Same.refl _) (.bl _)⟩
      · cases hx
    · cases hz
  · cases hz
end
end Mir

/-! Mir 8: built-in calls, subscripts, slices. -/
namespace Mir
open PySem PySem.Spec PyProof.Rows L2
section
variable {X : Cx}
def f1 (g : D → Option Rv) : List D → Option Rv
  | [d] => g d
  | _ => none
def f2 (g : D → D → Option Rv) : List D → Option Rv
  | [d, e] => g d e
  | _ => none
theorem c1_of {f : Value} {g : D → Option Rv} (h : ∀ (pins : List (Addr × Obj)) (s : Shared) (σ : L2.St) (H : Hp) (x : V) (vs : List Value) (Q : VK) (m : Addr → Prop) (d : D) (r : Rv), L2.Inv X pins σ H s → Vals [x] vs → Al m H → Dp X.K (msk m H) x d → g d = some r → (∀ v H', Same H H' → RvOk X.K m H H' v r → Q v H') → wpAny (model X.prog X.w) X.A (call f vs) (EP X pins σ Q) X.xe s) : CallR X f (rDs X.K (f1 g)) := by
  intro pins s σ H xs us Q I rx h'
  obtain ⟨m, ds, r, al, a, hz, q⟩ := h'
  unfold f1 at hz
  split at hz
  · cases a with
    | cons h1 t1 =>
      cases t1
      exact h pins s σ H _ us Q m _ r I rx al h1 hz q
  · cases hz
theorem c2_of {f : Value} {g : D → D → Option Rv} (h : ∀ (pins : List (Addr × Obj)) (s : Shared) (σ : L2.St) (H : Hp) (x y : V) (vs : List Value) (Q : VK) (m : Addr → Prop) (d e : D) (r : Rv), L2.Inv X pins σ H s → Vals [x, y] vs → Al m H → Dp X.K (msk m H) x d → Dp X.K (msk m H) y e → g d e = some r → (∀ v H', Same H H' → RvOk X.K m H H' v r → Q v H') → wpAny (model X.prog X.w) X.A (call f vs) (EP X pins σ Q) X.xe s) : CallR X f (rDs X.K (f2 g)) := by
  intro pins s σ H xs us Q I rx h'
  obtain ⟨m, ds, r, al, a, hz, q⟩ := h'
  unfold f2 at hz
  split at hz
  · cases a with
    | cons h1 t1 =>
      cases t1 with
      | cons h2 t2 =>
        cases t2
        exact h pins s σ H _ _ us Q m _ _ r I rx al h1 h2 hz q
  · cases hz
/-! len abs min max int list tuple sum all any -/
def lenD : D → Option Rv
  | .list xs => some (.d (.int xs.length))
  | .tuple xs => some (.d (.int xs.length))
  | .str z => if z.length ≤ sizeLine then some (.d (.int z.length)) else none
  | _ => none
theorem cr_lenD : CallR X (.builtin "len") (rDs X.K (f1 lenD)) := c1_of fun pins s σ H x vs Q m d r I rx al hd hz q => by
  unfold lenD at hz
  split at hz
  · cases hz
    cases hd with
    | lst h a => exact call_len_seq pins s σ H _ vs Q I rx ⟨_, _, rfl, .inl (sql_mono msk_sub h), q _ H (Same.refl _) (by rw [dps_len a]; exact .int _)⟩
  · cases hz
    cases hd with
    | tup h a => exact call_len_seq pins s σ H _ vs Q I rx ⟨_, _, rfl, .inr (sqt_mono msk_sub h), q _ H (Same.refl _) (by rw [dps_len a]; exact .int _)⟩
  · split at hz
    · rename_i hl
      cases hz; cases hd
      exact call_len_str pins s σ H _ vs Q I rx ⟨_, rfl, hl, q _ H (Same.refl _) (.int _)⟩
    · cases hz
  · cases hz
def absD : D → Option Rv
  | .int a => some (.d (.int (if a < 0 then -a else a)))
  | _ => none
theorem cr_absD : CallR X (.builtin "abs") (rDs X.K (f1 absD)) := c1_of fun pins s σ H x vs Q m d r I rx al hd hz q => by
  unfold absD at hz
  split at hz
  · cases hz; cases hd
    exact call_abs pins s σ H _ vs Q I rx ⟨_, rfl, q _ H (Same.refl _) (.int _)⟩
  · cases hz
def max2D : D → D → Option Rv
  | .int a, .int b => some (.d (.int (if b > a then b else a)))
  | _, _ => none
def min2D : D → D → Option Rv
  | .int a, .int b => some (.d (.int (if b < a then b else a)))
  | _, _ => none
theorem cr_max2D (hc : X.calm = true) : CallR X (.builtin "max") (rDs X.K (f2 max2D)) := c2_of fun pins s σ H x y vs Q m d e r I rx al hd he hz q => by
  unfold max2D at hz
  split at hz
  · cases hz; cases hd; cases he
    exact call_max2 hc pins s σ H _ vs Q I rx ⟨_, _, rfl, q _ H (Same.refl _) (.int _)⟩
  · cases hz
theorem cr_min2D (hc : X.calm = true) : CallR X (.builtin "min") (rDs X.K (f2 min2D)) := c2_of fun pins s σ H x y vs Q m d e r I rx al hd he hz q => by
  unfold min2D at hz
  split at hz
  · cases hz; cases hd; cases he
    exact call_min2 hc pins s σ H _ vs Q I rx ⟨_, _, rfl, q _ H (Same.refl _) (.int _)⟩
  · cases hz
def intD : D → Option Rv
  | .int a => some (.d (.int a))
  | .bool b => some (.d (.int (if b then 1 else 0)))
  | _ => none
theorem cr_intD : CallR X (.type "int") (rDs X.K (f1 intD)) := c1_of fun pins s σ H x vs Q m d r I rx al hd hz q => by
  unfold intD at hz
  split at hz
  · cases hz; cases hd
    exact call_int1 pins s σ H _ vs Q I rx (.inl ⟨_, rfl, q _ H (Same.refl _) (.int _)⟩)
  · cases hz; cases hd
    exact call_int1 pins s σ H _ vs Q I rx (.inr ⟨_, rfl, q _ H (Same.refl _) (.int _)⟩)
  · cases hz
def listD : D → Option Rv
  | .list xs => some (.l xs)
  | .tuple xs => some (.l xs)
  | _ => none
theorem cr_listD : CallR X (.type "list") (rDs X.K (f1 listD)) := c1_of fun pins s σ H x vs Q m d r I rx al hd hz q => by
  unfold listD at hz
  split at hz
  · cases hz
    cases hd with
    | lst h a => exact call_list_of pins s σ H _ vs Q I rx ⟨_, _, rfl, .inl (sql_mono msk_sub h), fun l n => q _ _ (same_new n) (rv_new n a)⟩
  · cases hz
    cases hd with
    | tup h a => exact call_list_of pins s σ H _ vs Q I rx ⟨_, _, rfl, .inr (sqt_mono msk_sub h), fun l n => q _ _ (same_new n) (rv_new n a)⟩
  · cases hz
def tupleD : D → Option Rv
  | .list xs => some (.d (.tuple xs))
  | .tuple xs => some (.d (.tuple xs))
  | _ => none
theorem cr_tupleD : CallR X (.type "tuple") (rDs X.K (f1 tupleD)) := c1_of fun pins s σ H x vs Q m d r I rx al hd hz q => by
  unfold tupleD at hz
  split at hz
  · cases hz
    cases hd with
    | lst h a => exact call_tuple_of pins s σ H _ vs Q I rx ⟨_, _, rfl, .inl ⟨sql_mono msk_sub h, fun l n => q _ _ (same_new n) (dp_newT al n a)⟩⟩
  · cases hz
    cases hd with
    | tup h a => exact call_tuple_of pins s σ H _ vs Q I rx ⟨_, _, rfl, .inr ⟨sqt_mono msk_sub h, q _ H (Same.refl _) (Dp.tup h a)⟩⟩
  · cases hz
def allD : D → Option Rv
  | .list xs => (match boolsOf xs with | some bs => some (.d (.bool (bs.all id))) | none => none)
  | _ => none
def anyD : D → Option Rv
  | .list xs => (match boolsOf xs with | some bs => some (.d (.bool (bs.any id))) | none => none)
  | _ => none
theorem cr_allD (hc : X.calm = true) : CallR X (.builtin "all") (rDs X.K (f1 allD)) := c1_of fun pins s σ H x vs Q m d r I rx al hd hz q => by
  unfold allD at hz
  split at hz
  · split at hz
    · rename_i bs hb
      cases hz
      cases hd with
      | lst h a =>
        rw [boolsOf_eq hb] at a
        have e := dps_bools a
        subst e
        exact cr_all hc pins s σ H _ vs Q I rx ⟨_, bs, rfl, (sql_mono msk_sub h), q _ H (Same.refl _) (.bl _)⟩
    · cases hz
  · cases hz
theorem cr_anyD (hc : X.calm = true) : CallR X (.builtin "any") (rDs X.K (f1 anyD)) := c1_of fun pins s σ H x vs Q m d r I rx al hd hz q => by
  unfold anyD at hz
  split at hz
  · split at hz
    · rename_i bs hb
      cases hz
      cases hd with
      | lst h a =>
        rw [boolsOf_eq hb] at a
        have e := dps_bools a
        subst e
        exact cr_any hc pins s σ H _ vs Q I rx ⟨_, bs, rfl, (sql_mono msk_sub h), q _ H (Same.refl _) (.bl _)⟩
    · cases hz
  · cases hz
/-! min, max of a list or tuple of whole numbers; default= -/
def maxI : Int → List Int → Int
  | a, [] => a
  | a, b :: r => maxI (if a < b then b else a) r
def minI : Int → List Int → Int
  | a, [] => a
  | a, b :: r => minI (if b < a then b else a) r
theorem alike_ints (ns : List Int) : PySem.W.AlikeAll (ns.map PyData.int) := ⟨fun x hx y hy => by
    obtain ⟨i, _, rfl⟩ := List.mem_map.mp hx
    obtain ⟨j, _, rfl⟩ := List.mem_map.mp hy
    rfl, fun x hx => by
    obtain ⟨i, _, rfl⟩ := List.mem_map.mp hx
    intro z; cases z⟩
theorem maxD_ints : ∀ (ns : List Int) (a : Int), PySem.W.maxD (.int a) (ns.map PyData.int) = .int (maxI a ns)
  | [], a => rfl
  | b :: r, a => by
    show PySem.W.maxD (if PySem.W.dataLt (.int a) (.int b) = true then .int b else .int a) (r.map PyData.int) = _
    rw [PySem.W.dataLt_int]
    unfold maxI
    by_cases h : a < b
    · rw [if_pos (decide_eq_true h), if_pos h]; exact maxD_ints r b
    · rw [if_neg (by rw [decide_eq_false h]; decide), if_neg h]; exact maxD_ints r a
theorem minD_ints : ∀ (ns : List Int) (a : Int), PySem.W.minD (.int a) (ns.map PyData.int) = .int (minI a ns)
  | [], a => rfl
  | b :: r, a => by
    show PySem.W.minD (if PySem.W.dataLt (.int b) (.int a) = true then .int b else .int a) (r.map PyData.int) = _
    rw [PySem.W.dataLt_int]
    unfold minI
    by_cases h : b < a
    · rw [if_pos (decide_eq_true h), if_pos h]; exact minD_ints r b
    · rw [if_neg (by rw [decide_eq_false h]; decide), if_neg h]; exact minD_ints r a
theorem depth_ints : ∀ ns : List Int, PyData.depthAll (ns.map PyData.int) ≤ 1
  | [] => by decide
  | n :: r => by
    have := depth_ints r
    rw [List.map_cons]
    simp only [PyData.depthAll, PyData.depth]
    omega
def seqInts : D → Option (List Int)
  | .list xs => intsOf xs
  | .tuple xs => intsOf xs
  | _ => none
def maxD1 (d : D) : Option Rv := match seqInts d with | some (a :: r) => some (.d (.int (maxI a r))) | _ => none
def minD1 (d : D) : Option Rv := match seqInts d with | some (a :: r) => some (.d (.int (minI a r))) | _ => none
theorem cr_maxD1 (hc : X.calm = true) (hu : X.A.units + 128 < cLine) : CallR X (.builtin "max") (rDs X.K (f1 maxD1)) := c1_of fun pins s σ H x vs Q m d r I rx al hd hz q => by
  unfold maxD1 at hz
  split at hz
  · rename_i a r' hs
    cases hz
    have dep := depth_ints (a :: r')
    unfold seqInts at hs
    split at hs
    · rw [intsOf_eq hs] at hd
      cases hd with
      | lst h a1 =>
        obtain ⟨u, rfl, ru⟩ := vals1 rx
        cases ru
        obtain ⟨its, rv, hl, _⟩ := I.list (sql_mono msk_sub h)
        obtain ⟨as, rr⟩ := a1.rd I rv
        rw [List.map_cons] at rr dep
        have al' := alike_ints (a :: r')
        rw [List.map_cons] at al'
        refine PySem.W.max_list_data (I.ok.hd hc) hl.isList (by simpa using rr) al' (by omega) fun i v h' tk bs hv hr hk => ?_
        rw [maxD_ints] at hr
        cases hr
        exact ⟨.int _, H, I.kept hk, ⟨_, rfl⟩, q _ H (Same.refl _) (.int _)⟩
    · rw [intsOf_eq hs] at hd
      cases hd with
      | tup h a1 =>
        obtain ⟨u, rfl, ru⟩ := vals1 rx
        cases ru
        obtain ⟨its, rv, hl, _⟩ := I.tuple (sqt_mono msk_sub h)
        obtain ⟨as, rr⟩ := a1.rd I rv
        rw [List.map_cons] at rr dep
        have al' := alike_ints (a :: r')
        rw [List.map_cons] at al'
        refine PySem.W.max_tuple_data (I.ok.hd hc) hl (by simpa using rr) al' (by omega) fun i v h' tk bs hv hr hk => ?_
        rw [maxD_ints] at hr
        cases hr
        exact ⟨.int _, H, I.kept hk, ⟨_, rfl⟩, q _ H (Same.refl _) (.int _)⟩
    · cases hs
  · cases hz
/-- max(xs, default=d), xs of whole numbers -/
def maxDef (d e : D) : Option Rv := match seqInts d with | some (a :: r) => some (.d (.int (maxI a r))) | some [] => some (.d e) | none => none
theorem ck_maxD (hc : X.calm = true) (hu : X.A.units + 128 < cLine) : CallRK X (.builtin "max") [Str.ofString "default"] (fun xs zs H Q => rDs X.K (f2 maxDef) (xs ++ zs) H Q ∧ xs.length = 1) := by
  intro pins s σ H xs zs us ws Q I rx rz h'
  obtain ⟨⟨m, ds, r, al, a, hz, q⟩, hl1⟩ := h'
  unfold f2 at hz
  split at hz
  · rename_i d e
    match xs, hl1, a, rx with
    | [x], _, a, rx =>
      cases a with
      | cons hd t1 =>
        have t1 : DpAll X.K (msk m H) zs [e] := t1
        cases t1 with
        | cons he t2 =>
          cases t2
          obtain ⟨u, rfl, ru⟩ := vals1 rx
          obtain ⟨w, rfl, rw'⟩ := vals1 rz
          unfold maxDef at hz
          have fin0 : ∀ (h' : Heap) (tk : Nat), some (Rv.d e) = some r → (∀ b o, s.heap.get? b = some o → h'.get? b = some o) → EP X pins σ Q w { s with heap := h', toks := tk } := fun h' tk er hk => by
            cases er
            exact ⟨_, H, I.kept hk, rw', q _ H (Same.refl _) he⟩
          unfold seqInts at hz
          cases d with
          | list xs =>
            simp only at hz
            cases hi : intsOf xs with
            | none => rw [hi] at hz; cases hz
            | some ns =>
              rw [hi] at hz
              rw [intsOf_eq hi] at hd
              have dep := depth_ints ns
              cases hd with
              | lst h a1 =>
                cases ru
                obtain ⟨its, rv, hl, _⟩ := I.list (sql_mono msk_sub h)
                obtain ⟨as, rr⟩ := a1.rd I rv
                refine PySem.W.max_list_default (I.ok.hd hc) hl.isList (by simpa using rr) (alike_ints ns) (by omega) (fun e0 h' tk hk => ?_) fun y ys i v h' tk bs ey hv hr hk => ?_
                · cases ns with
                  | nil => exact fin0 h' tk hz hk
                  | cons a b => cases e0
                · cases ns with
                  | nil => cases ey
                  | cons a b =>
                    cases ey
                    cases hz
                    rw [maxD_ints] at hr
                    cases hr
                    exact ⟨.int _, H, I.kept hk, ⟨_, rfl⟩, q _ H (Same.refl _) (.int _)⟩
          | tuple xs =>
            simp only at hz
            cases hi : intsOf xs with
            | none => rw [hi] at hz; cases hz
            | some ns =>
              rw [hi] at hz
              rw [intsOf_eq hi] at hd
              have dep := depth_ints ns
              cases hd with
              | tup h a1 =>
                cases ru
                obtain ⟨its, rv, hl, _⟩ := I.tuple (sqt_mono msk_sub h)
                obtain ⟨as, rr⟩ := a1.rd I rv
                refine PySem.W.max_tuple_default (I.ok.hd hc) hl (by simpa using rr) (alike_ints ns) (by omega) (fun e0 h' tk hk => ?_) fun y ys i v h' tk bs ey hv hr hk => ?_
                · cases ns with
                  | nil => exact fin0 h' tk hz hk
                  | cons a b => cases e0
                · cases ns with
                  | nil => cases ey
                  | cons a b =>
                    cases ey
                    cases hz
                    rw [maxD_ints] at hr
                    cases hr
                    exact ⟨.int _, H, I.kept hk, ⟨_, rfl⟩, q _ H (Same.refl _) (.int _)⟩
          | none => cases hz
          | bool b => cases hz
          | int i => cases hz
          | str z => cases hz
          | dict l => cases hz
  · cases hz
theorem cr_minD1 (hc : X.calm = true) (hu : X.A.units + 128 < cLine) : CallR X (.builtin "min") (rDs X.K (f1 minD1)) := c1_of fun pins s σ H x vs Q m d r I rx al hd hz q => by
  unfold minD1 at hz
  split at hz
  · rename_i a r' hs
    cases hz
    have dep := depth_ints (a :: r')
    unfold seqInts at hs
    split at hs
    · rw [intsOf_eq hs] at hd
      cases hd with
      | lst h a1 =>
        obtain ⟨u, rfl, ru⟩ := vals1 rx
        cases ru
        obtain ⟨its, rv, hl, _⟩ := I.list (sql_mono msk_sub h)
        obtain ⟨as, rr⟩ := a1.rd I rv
        rw [List.map_cons] at rr dep
        have al' := alike_ints (a :: r')
        rw [List.map_cons] at al'
        refine PySem.W.min_list_data (I.ok.hd hc) hl.isList (by simpa using rr) al' (by omega) fun i v h' tk bs hv hr hk => ?_
        rw [minD_ints] at hr
        cases hr
        exact ⟨.int _, H, I.kept hk, ⟨_, rfl⟩, q _ H (Same.refl _) (.int _)⟩
    · rw [intsOf_eq hs] at hd
      cases hd with
      | tup h a1 =>
        obtain ⟨u, rfl, ru⟩ := vals1 rx
        cases ru
        obtain ⟨its, rv, hl, _⟩ := I.tuple (sqt_mono msk_sub h)
        obtain ⟨as, rr⟩ := a1.rd I rv
        rw [List.map_cons] at rr dep
        have al' := alike_ints (a :: r')
        rw [List.map_cons] at al'
        refine PySem.W.min_tuple_data (I.ok.hd hc) hl (by simpa using rr) al' (by omega) fun i v h' tk bs hv hr hk => ?_
        rw [minD_ints] at hr
        cases hr
        exact ⟨.int _, H, I.kept hk, ⟨_, rfl⟩, q _ H (Same.refl _) (.int _)⟩
    · cases hs
  · cases hz
/-- min(xs, default=d), xs of whole numbers -/
def minDef (d e : D) : Option Rv := match seqInts d with | some (a :: r) => some (.d (.int (minI a r))) | some [] => some (.d e) | none => none
theorem ck_minD (hc : X.calm = true) (hu : X.A.units + 128 < cLine) : CallRK X (.builtin "min") [Str.ofString "default"] (fun xs zs H Q => rDs X.K (f2 minDef) (xs ++ zs) H Q ∧ xs.length = 1) := by
  intro pins s σ H xs zs us ws Q I rx rz h'
  obtain ⟨⟨m, ds, r, al, a, hz, q⟩, hl1⟩ := h'
  unfold f2 at hz
  split at hz
  · rename_i d e
    match xs, hl1, a, rx with
    | [x], _, a, rx =>
      cases a with
      | cons hd t1 =>
        have t1 : DpAll X.K (msk m H) zs [e] := t1
        cases t1 with
        | cons he t2 =>
          cases t2
          obtain ⟨u, rfl, ru⟩ := vals1 rx
          obtain ⟨w, rfl, rw'⟩ := vals1 rz
          unfold minDef at hz
          have fin0 : ∀ (h' : Heap) (tk : Nat), some (Rv.d e) = some r → (∀ b o, s.heap.get? b = some o → h'.get? b = some o) → EP X pins σ Q w { s with heap := h', toks := tk } := fun h' tk er hk => by
            cases er
            exact ⟨_, H, I.kept hk, rw', q _ H (Same.refl _) he⟩
          unfold seqInts at hz
          cases d with
          | list xs =>
            simp only at hz
            cases hi : intsOf xs with
            | none => rw [hi] at hz; cases hz
            | some ns =>
              rw [hi] at hz
              rw [intsOf_eq hi] at hd
              have dep := depth_ints ns
              cases hd with
              | lst h a1 =>
                cases ru
                obtain ⟨its, rv, hl, _⟩ := I.list (sql_mono msk_sub h)
                obtain ⟨as, rr⟩ := a1.rd I rv
                refine PySem.W.min_list_default (I.ok.hd hc) hl.isList (by simpa using rr) (alike_ints ns) (by omega) (fun e0 h' tk hk => ?_) fun y ys i v h' tk bs ey hv hr hk => ?_
                · cases ns with
                  | nil => exact fin0 h' tk hz hk
                  | cons a b => cases e0
                · cases ns with
                  | nil => cases ey
                  | cons a b =>
                    cases ey
                    cases hz
                    rw [minD_ints] at hr
                    cases hr
                    exact ⟨.int _, H, I.kept hk, ⟨_, rfl⟩, q _ H (Same.refl _) (.int _)⟩
          | tuple xs =>
            simp only at hz
            cases hi : intsOf xs with
            | none => rw [hi] at hz; cases hz
            | some ns =>
              rw [hi] at hz
              rw [intsOf_eq hi] at hd
              have dep := depth_ints ns
              cases hd with
              | tup h a1 =>
                cases ru
                obtain ⟨its, rv, hl, _⟩ := I.tuple (sqt_mono msk_sub h)
                obtain ⟨as, rr⟩ := a1.rd I rv
                refine PySem.W.min_tuple_default (I.ok.hd hc) hl (by simpa using rr) (alike_ints ns) (by omega) (fun e0 h' tk hk => ?_) fun y ys i v h' tk bs ey hv hr hk => ?_
                · cases ns with
                  | nil => exact fin0 h' tk hz hk
                  | cons a b => cases e0
                · cases ns with
                  | nil => cases ey
                  | cons a b =>
                    cases ey
                    cases hz
                    rw [minD_ints] at hr
                    cases hr
                    exact ⟨.int _, H, I.kept hk, ⟨_, rfl⟩, q _ H (Same.refl _) (.int _)⟩
          | none => cases hz
          | bool b => cases hz
          | int i => cases hz
          | str z => cases hz
          | dict l => cases hz
  · cases hz
/-- f(xs, default=e) -/
theorem se_dflt {id : String} {x : Str} {e d : Expr} {f g : FE} {z : D → D → Option Rv} {p pos kp : Pos} (hc : CallRK X (.builtin id) [Str.ofString "default"] (fun xs zs H Q => rDs X.K (f2 z) (xs ++ zs) H Q ∧ xs.length = 1))
    (h : PE X (.Call (.Name x p) [e] [⟨some "default", d, kp⟩] pos) (tCKw (fun xs zs H Q => rDs X.K (f2 z) (xs ++ zs) H Q ∧ xs.length = 1) (tCons (teOf X.K f) tNil) (tCons (teOf X.K g) tNil))) : SE X (.Call (.Name x p) [e] [⟨some "default", d, kp⟩] pos) (m2 z f g) := PE.imp h fun σ H Q q => by
  obtain ⟨C, env, O, rr, env', R, e, q⟩ := q
  unfold m2 at e
  split at e
  · rename_i r1 e1 h1
    split at e
    · rename_i r2 e2 h2
      split at e
      · rename_i r3 h3
        cases e
        exact te_run R h1 fun v H1 O1 _ R1 d1 => te_run R1 h2 fun w H2 O2 P2 R2 d2 => ⟨⟨C.m O2, [_, _], _, R2.al, .cons (P2.keep d1) (.cons d2 .nil), h3, fun u H' s k => q u H' O2 (R2.post s k)⟩, rfl⟩
      · cases e
    · cases e
  · cases e
/-! sum -/
def sumD : D → Option Rv
  | .list xs => (match intsOf xs with | some ns => some (.d (.int ns.sum)) | none => none)
  | _ => none
theorem cr_sumD (hc : X.calm = true) : CallR X (.builtin "sum") (rDs X.K (f1 sumD)) := c1_of fun pins s σ H x vs Q m d r I rx al hd hz q => by
  unfold sumD at hz
  split at hz
  · split at hz
    · rename_i ns hb
      cases hz
      cases hd with
      | lst h a =>
        rw [intsOf_eq hb] at a
        have e := dps_ints a
        subst e
        exact cr_sum hc pins s σ H _ vs Q I rx ⟨_, ns, rfl, (sql_mono msk_sub h), q _ H (Same.refl _) (.int _)⟩
    · cases hz
  · cases hz
/-! subscripts -/
def ixD : D → D → Option Rv
  | .list xs, .int j => (match atI xs j with | some d => some (.d d) | none => none)
  | .tuple xs, .int j => (match atI xs j with | some d => some (.d d) | none => none)
  | .str z, .int j => if z.length ≤ sizeLine then (match atI z.cps.toList j with | some c => some (.d (.str ⟨#[c]⟩)) | none => none) else none
  | _, _ => none
theorem ix_D {K : Fr} : ∀ x y H Q, rD2 K ixD x y H Q → rIx K x y H Q := fun x y H Q h => by
  obtain ⟨m, d, e, r, al, hd, he, hz, q⟩ := h
  unfold ixD at hz
  split at hz
  · split at hz
    · rename_i d' hd'
      cases hz; cases he
      cases hd with
      | lst h a =>
        obtain ⟨w, hw, dw⟩ := atI_dps a hd'
        exact .inl ⟨_, _, _, w, rfl, rfl, (sql_mono msk_sub h), hw, q w H (Same.refl _) dw⟩
    · cases hz
  · split at hz
    · rename_i d' hd'
      cases hz; cases he
      cases hd with
      | tup h a =>
        obtain ⟨w, hw, dw⟩ := atI_dps a hd'
        exact .inr (.inl ⟨_, _, _, w, rfl, rfl, sqt_mono msk_sub h, hw, q w H (Same.refl _) dw⟩)
    · cases hz
  · split at hz
    · rename_i hl
      split at hz
      · rename_i c hc
        cases hz; cases hd; cases he
        exact .inr (.inr ⟨_, _, c, rfl, rfl, hl, hc, q _ H (Same.refl _) (.str _)⟩)
      · cases hz
    · cases hz
  · cases hz
theorem se_ix {a b : Expr} {f g : FE} {pos : Pos} (ha : SE X a f) (hb : SE X b g) (hs : PlainIx b) : SE X (.Subscript a b pos) (m2 ixD f g) := PE.imp (pe_ix ix_seq ha hb hs) (te_op ix_D)
/-! slices -/
abbrev FO := MEnv → Option (Option Int × MEnv)
def toOf (K : Fr) (g : FO) : TO := fun σ H Q => ∃ (C : Ctx) (env : MEnv) (O : Ow) (o : Option Int) (env' : MEnv), Rep K C env σ H O ∧ g env = some (o, env') ∧ ∀ H' O', Rep K C env' σ H' O' → Q o H'
def fNo : FO := fun env => some (none, env)
def fPart (f : FE) : FO := fun env => match f env with | some (.d (.int i), e) => some (some i, e) | _ => none
theorem PO.imp {e : Option Expr} {t t' : TO} (h : PO X e t) (i : ∀ σ H Q, t' σ H Q → t σ H Q) : PO X e t' := ⟨fun pins s σ H Q I q => h.run pins s σ H Q I (i σ H Q q)⟩
theorem so_none : PO X none (toOf X.K fNo) := PO.imp po_none fun σ H Q q => by
  obtain ⟨C, env, O, o, env', R, e, q⟩ := q
  cases e
  exact q H O R
theorem so_some {e : Expr} {f : FE} (h : SE X e f) : PO X (some e) (toOf X.K (fPart f)) := PO.imp (po_some h) fun σ H Q q => by
  obtain ⟨C, env, O, o, env', R, e, q⟩ := q
  unfold fPart at e
  split at e
  · rename_i i e1 h1
    cases e
    refine ⟨C, env, O, _, _, R, h1, fun v H' O' p => ?_⟩
    obtain ⟨p1, p2⟩ := p
    cases p2
    exact ⟨i, rfl, q H' O' p1⟩
  · cases e
def cutL {α : Type} (xs : List α) (lo hi : Option Int) : List α := (xs.drop (HT.sIx xs.length 0 lo)).take (HT.sIx xs.length xs.length hi - HT.sIx xs.length 0 lo)
def slD (d : D) (lo hi : Option Int) : Option Rv := match d with
  | .list xs => some (.l (cutL xs lo hi))
  | .tuple xs => some (.d (.tuple (cutL xs lo hi)))
  | .str z => if z.length ≤ sizeLine then some (.d (.str (cutS z lo hi))) else none
  | _ => none
def mSl (f : FE) (lo hi : FO) : FE := fun env => match f env with
  | some (r, e1) => (match lo e1 with
    | some (l, e2) => (match hi e2 with
      | some (h, e3) => (match slD r.toD l h with | some z => some (z, e3) | none => none)
      | none => none)
    | none => none)
  | none => none
theorem dps_cut {K : Fr} {H : Hp} {vs : List V} {ds : List D} (h : DpAll K H vs ds) (lo hi : Option Int) : DpAll K H (cutV vs lo hi) (cutL ds lo hi) := by
  unfold cutV cutL
  rw [dps_len h]
  exact dps_take _ (dps_drop _ h)
theorem se_sl {e : Expr} {lo hi : Option Expr} {p2 pos : Pos} {f : FE} {fl fh : FO} (he : SE X e f) (hl : PO X lo (toOf X.K fl)) (hh : PO X hi (toOf X.K fh)) : SE X (.Subscript e (.Slice lo hi none p2) pos) (mSl f fl fh) :=
  PE.imp (pe_slice (sl_list.or (sl_tupA.or sl_str)) he hl hh) fun σ H Q q => by
  obtain ⟨C, env, O, rr, env', R, e, q⟩ := q
  unfold mSl at e
  split at e
  · rename_i r1 e1 h1
    split at e
    · rename_i l e2 h2
      split at e
      · rename_i h e3 h3
        split at e
        · rename_i z hz
          cases e
          refine te_run R h1 fun v H1 O1 _ R1 d1 => ⟨C.pinAt (msk (C.m O1) H1), _, O1, _, _, R1.pinned, h2, fun H2 O2 R2 => ⟨C.pinAt (msk (C.m O1) H1), _, O2, _, _, R2, h3, fun H3 O3 R3 => ?_⟩⟩
          have R3' : Rep X.K C _ σ H3 O3 := R3.unpin R1.pin
          have d3 := R3.keep d1
          unfold slD at hz
          split at hz
          · rename_i xs hx
            cases hz
            rw [hx] at d3
            cases d3 with
            | lst hq a => exact .inl ⟨_, _, rfl, (sql_mono msk_sub hq), fun p n => q _ _ O3 (R3'.post (same_new n) (rv_new n (dps_cut a l h)))⟩
          · rename_i xs hx
            cases hz
            rw [hx] at d3
            cases d3 with
            | tup hq a =>
              refine .inr (.inl ⟨_, _, rfl, sqt_mono msk_sub hq, fun hw => ?_, fun _ p n => q _ _ O3 (R3'.post (same_new n) (dp_newT R3'.al n (dps_cut a l h)))⟩)
              refine q _ H3 O3 ⟨R3', ?_⟩
              have : cutL xs l h = xs := by
                unfold cutL
                rw [← dps_len a, hw.1, hw.2, List.drop_zero, Nat.sub_zero, dps_len a, List.take_length]
              rw [this]
              exact Dp.tup hq a
          · rename_i z' hx
            split at hz
            · rename_i hl
              cases hz
              rw [hx] at d3
              cases d3
              exact .inr (.inr ⟨_, rfl, hl, q _ H3 O3 ⟨R3', .str _⟩⟩)
            · cases hz
          · cases hz
        · cases e
      · cases e
    · cases e
  · cases e
end
end Mir

/-! Mir 9: what is walked. -/
namespace Mir
open PySem PySem.Spec PyProof.Rows L2

/-! ### sources: a list, a tuple, a text -/
inductive Src where
  | L (a : Addr) | T (a : Addr) | S (z : Str)
def chrs (z : Str) : List V := z.cps.toList.map fun c => V.str ⟨#[c]⟩
def Src.its (K : Fr) (H : Hp) : Src → List V → Prop
  | .L a, xs => SqL K H a xs
  | .T a, xs => SqT K H a xs
  | .S z, xs => xs = chrs z
def Src.iSt (it : Addr) (i : Nat) (h : Heap) : Src → Prop
  | .L a => h.IsListIter it a i
  | .T a => h.IsTupleIter it a i
  | .S z => ∃ t, h.IsStrIter it (strIterType z) z t i
def Src.lt (N : Nat) : Src → Prop
  | .L a => a < N
  | .T a => a < N
  | .S _ => True
def Src.ofV (x : V) : Src → Prop
  | .L a => x = .ref a
  | .T a => x = .ref a
  | .S z => x = .str z
section
variable {X : Cx} {pins : List (Addr × Obj)} {σ : L2.St} {H : Hp} {s : Shared}
theorem Src.inj (I : L2.Inv X pins σ H s) {a : Src} {xs ys : List V} (h : a.its X.K H xs) (h' : a.its X.K H ys) : xs = ys := by
  cases a with
  | L a => exact I.list_inj h h'
  | T a => exact I.tuple_inj h h'
  | S z => exact (show xs = chrs z from h).trans (show ys = chrs z from h').symm
/-- what such an iterator draws -/
theorem Src.draws (I : L2.Inv X pins σ H s) (hc : X.calm = true) {a : Src} {xs : List V} (h : a.its X.K H xs) {it N : Addr} {i : Nat} (hN : a.lt N) (hi : N ≤ it) (st : a.iSt it i s.heap) :
    ∃ (fp : List Addr) (P : Nat → Value → Prop) (St : Nat → Heap → Prop), (∀ b ∈ fp, b < N) ∧ Draws X.prog X.w X.A.in1 it (it :: fp) xs.length P St ∧ St i s.heap ∧ (∀ j h', St j h' → a.iSt it j h') ∧ ∀ j v, P j v → ∃ x, xs[j]? = some x ∧ RelV x v := by
  have hh : X.A.in1.handled = none := I.ok.hd hc
  cases a with
  | L a =>
    obtain ⟨its, rv, p, _⟩ := I.list h
    have hne : a ≠ it := Nat.ne_of_lt (Nat.lt_of_lt_of_le hN hi)
    have D := Draws.list (prog := X.prog) (w := X.w) hh it a hne its.toArray
    have e : its.toArray.size = xs.length := by rw [List.size_toArray, rv.length]
    rw [e] at D
    refine ⟨[a], _, _, fun b hb => by have := List.mem_singleton.mp hb; rw [this]; exact hN, D, ⟨st, p.isList⟩, fun j h' z => z.1, fun j v hv => ?_⟩
    have hv : its[j]? = some v := by simpa using hv
    cases q : xs[j]? with
    | none => have := rv.none_of q; rw [hv] at this; cases this
    | some x =>
      obtain ⟨u, hu, ru⟩ := rv.get q
      rw [hv] at hu; cases hu
      exact ⟨x, rfl, ru⟩
  | T a =>
    obtain ⟨its, rv, p, _⟩ := I.tuple h
    have hne : a ≠ it := Nat.ne_of_lt (Nat.lt_of_lt_of_le hN hi)
    have D := Draws.tuple (prog := X.prog) (w := X.w) hh it a hne its.toArray
    have e : its.toArray.size = xs.length := by rw [List.size_toArray, rv.length]
    rw [e] at D
    refine ⟨[a], _, _, fun b hb => by have := List.mem_singleton.mp hb; rw [this]; exact hN, D, ⟨st, p⟩, fun j h' z => z.1, fun j v hv => ?_⟩
    have hv : its[j]? = some v := by simpa using hv
    cases q : xs[j]? with
    | none => have := rv.none_of q; rw [hv] at this; cases this
    | some x =>
      obtain ⟨u, hu, ru⟩ := rv.get q
      rw [hv] at hu; cases hu
      exact ⟨x, rfl, ru⟩
  | S z =>
    obtain ⟨t, st⟩ := st
    have h : xs = chrs z := h
    subst h
    have D := Draws.text (prog := X.prog) (w := X.w) hh it z t
    have e : z.cps.size = (chrs z).length := by unfold chrs; rw [List.length_map, Array.length_toList]
    rw [e] at D
    refine ⟨[], _, _, (fun b hb => by cases hb), D, st, fun j h' z => ⟨t, z⟩, fun j v hv => ?_⟩
    obtain ⟨c, u, hcx, rfl⟩ := hv
    refine ⟨.str ⟨#[c]⟩, ?_, ⟨u, rfl⟩⟩
    unfold chrs
    rw [List.getElem?_map, Array.getElem?_toList, hcx]
    rfl
/-- how it begins -/
theorem Src.begins (I : L2.Inv X pins σ H s) {a : Src} {xs : List V} {x : V} {v : Value} (hx : a.ofV x) (r : RelV x v) (h : a.its X.K H xs) : ∃ (o : Obj) (G : Heap → Prop), Begins v o G ∧ G s.heap ∧ (∀ it h', h'.get? it = some o → a.iSt it 0 h') ∧ a.lt s.heap.objs.size := by
  cases a with
  | L a =>
    have hx : x = .ref a := hx
    subst hx
    cases r
    obtain ⟨its, rv, p, _⟩ := I.list h
    exact ⟨_, _, begins_list a its.toArray, p.isList, fun it h' e => ⟨_, e, rfl, rfl⟩, p.lt⟩
  | T a =>
    have hx : x = .ref a := hx
    subst hx
    cases r
    obtain ⟨its, rv, p, _⟩ := I.tuple h
    exact ⟨_, _, begins_tuple a its.toArray, p, fun it h' e => ⟨_, e, rfl, rfl⟩, p.lt⟩
  | S z =>
    have hx : x = .str z := hx
    subst hx
    obtain ⟨t, rfl⟩ := r
    exact ⟨_, _, begins_text z t, trivial, fun it h' e => ⟨t, _, e, rfl, rfl⟩, trivial⟩
end
theorem Src.obj {a : Src} {it : Addr} {i : Nat} {h : Heap} (st : a.iSt it i h) : ∃ o, h.get? it = some o ∧ ∀ v, o.data ≠ .cell v := by
  cases a with
  | L a => obtain ⟨o, e, _, d⟩ := st; exact ⟨o, e, fun v z => by rw [d] at z; cases z⟩
  | T a => obtain ⟨o, e, _, d⟩ := st; exact ⟨o, e, fun v z => by rw [d] at z; cases z⟩
  | S z => obtain ⟨t, o, e, _, d⟩ := st; exact ⟨o, e, fun v z => by rw [d] at z; cases z⟩
theorem Src.keep {a : Src} {it : Addr} {i : Nat} {h h' : Heap} (st : a.iSt it i h) (k : ∀ o, h.get? it = some o → h'.get? it = some o) : a.iSt it i h' := by
  cases a with
  | L a => exact Heap.IsListIter.at st k
  | T a => obtain ⟨o, e, r⟩ := st; exact ⟨o, k o e, r⟩
  | S z => obtain ⟨t, o, e, r⟩ := st; exact ⟨t, o, k o e, r⟩
theorem trip {x y z : V} {us : List Value} (r : Vals [x, y, z] us) : ∃ a b c, us = [a, b, c] ∧ RelV x a ∧ RelV y b ∧ RelV z c := by
  cases r with
  | cons p q =>
    obtain ⟨b, c, rfl, h1, h2⟩ := vals2 q
    exact ⟨_, b, c, rfl, p, h1, h2⟩
/-- data as a source -/
def srcD : D → Option (List D)
  | .list xs => some xs
  | .tuple xs => some xs
  | .str z => some (z.cps.toList.map fun c => PyData.str ⟨#[c]⟩)
  | _ => none
theorem chrs_dp {K : Fr} {H : Hp} (l : List Nat) : DpAll K H (l.map fun c => V.str ⟨#[c]⟩) (l.map fun c => PyData.str ⟨#[c]⟩) := by
  induction l with
  | nil => exact .nil
  | cons c r ih => exact .cons (.str _) ih
theorem src_of {K : Fr} {H : Hp} {v : V} {d : D} {ds : List D} (h : Dp K H v d) (e : srcD d = some ds) : ∃ (a : Src) (xs : List V), a.ofV v ∧ a.its K H xs ∧ DpAll K H xs ds := by
  cases h with
  | lst h t => cases e; exact ⟨.L _, _, rfl, h, t⟩
  | tup h t => cases e; exact ⟨.T _, _, rfl, h, t⟩
  | str z => cases e; exact ⟨.S z, chrs z, rfl, rfl, chrs_dp _⟩
  | non => cases e
  | bl b => cases e
  | int i => cases e
theorem Src.mono {K : Fr} {H H' : Hp} {a : Src} {xs : List V} (e : Same H H') (h : a.its K H xs) : a.its K H' xs := by
  cases a with
  | L a => exact sql_mono e h
  | T a => exact sqt_mono e h
  | S z => exact h
/-- the items of 2 sources, in new tuples -/
def ItZ2 (K : Fr) (a b : Src) : It :=
  ⟨fun i H => ∃ (xs ys : List V) (x y : V), a.its K H xs ∧ b.its K H ys ∧ xs[i]? = some x ∧ ys[i]? = some y,
    fun i H v H' => ∃ (T : Addr) (x y : V), v = .ref T ∧ H T = none ∧ H' = upd H T (.tup [x, y]) ∧ (∀ xs, a.its K H xs → xs[i]? = some x) ∧ (∀ ys, b.its K H ys → ys[i]? = some y),
    fun i H => ∃ xs ys : List V, a.its K H xs ∧ b.its K H ys ∧ i = min xs.length ys.length⟩
theorem turn_z2 {P : Program} {w : World} {K : Fr} {elts : List Expr} {kk : Nat} {tpos : Pos} {a b : Src} {N : Nat} (ha : a.lt N) (hb : b.lt N) :
    Turn P w K (.Tuple elts kk tpos) (ItZ2 K a b) [N + 4, N + 2, N + 3, N, N + 1] (N + 4 : Nat)
      (fun i h => IsZip h (N + 4 : Nat) (N + 2 : Nat) (N + 3 : Nat) .none ∧ IsTupOf2 h (N + 2 : Nat) (.ref (N : Nat)) (.ref (N + 1 : Nat)) ∧ (∃ p0 p1, IsTupOf2 h (N + 3 : Nat) p0 p1) ∧ a.iSt (N : Nat) i h ∧ b.iSt (N + 1 : Nat) i h) where
  mem := by simp
  obj := fun i h st c hm => by
    obtain ⟨hz, hTI, ⟨p0, p1, hTO⟩, h1, h2⟩ := st
    have e' : c = (N + 4 : Nat) ∨ c = (N + 2 : Nat) ∨ c = (N + 3 : Nat) ∨ c = (N : Nat) ∨ c = (N + 1 : Nat) := by simpa using hm
    rcases e' with q | q | q | q | q
    · rw [q]; exact ⟨_, hz, fun v q => nomatch q⟩
    · rw [q]; exact ⟨_, hTI, fun v q => nomatch q⟩
    · rw [q]; exact ⟨_, hTO, fun v q => nomatch q⟩
    · rw [q]; exact Src.obj h1
    · rw [q]; exact Src.obj h2
  keep := fun i h h' st k => by
    obtain ⟨hz, hTI, ⟨p0, p1, hTO⟩, h1, h2⟩ := st
    exact ⟨k _ (by simp) _ hz, k _ (by simp) _ hTI, ⟨p0, p1, k _ (by simp) _ hTO⟩, Src.keep h1 fun o q => k _ (by simp) o q, Src.keep h2 fun o q => k _ (by simp) o q⟩
  item := by
    intro X hP hw hK hc i pins s σ H E I hf st hg
    subst hP hw hK
    obtain ⟨hz, hTI, hTO, h1, h2⟩ := st
    obtain ⟨xs, ys, x, y, hqx, hqy, hx, hy⟩ := hg
    obtain ⟨fp1, P1, S1, l1, D1, t1, u1, v1⟩ := Src.draws I hc hqx ha (Nat.le_add_right N 0) h1
    obtain ⟨fp2, P2, S2, l2, D2, t2, u2, v2⟩ := Src.draws I hc hqy hb (Nat.le_add_right N 1) h2
    have G := GoesN.zip2 (elts := elts) (x1 := kk) (pos := tpos) (zip_sep2 l1 l2) D1 D2
    have hlt : i < min xs.length ys.length := by
      have q1 := (List.getElem?_eq_some_iff.mp hx).1
      have q2 := (List.getElem?_eq_some_iff.mp hy).1
      omega
    refine G.goes i s _ E hlt ⟨hz, hTI, hTO, t1, t2⟩ fun v h' tk hY st' hk htk => ?_
    obtain ⟨T, w1, w2, rfl, hT, y1, y2, ⟨o, ho, hcl, nn, hdt⟩⟩ := hY
    obtain ⟨x1, e1, r1⟩ := v1 i w1 y1
    obtain ⟨x2, e2, r2⟩ := v2 i w2 y2
    obtain ⟨gz, gTI, gTO, g1, g2⟩ := st'
    have keep : ∀ c o, c ∉ [N + 4, N + 2, N + 3, N, N + 1] → s.heap.get? c = some o → h'.get? c = some o := fun c o hb q => hk c o (fun z => hb (by simp only [List.mem_cons, List.not_mem_nil, or_false] at z ⊢; rcases z with z | z | z | z <;> simp [z])) q
    have I1 : L2.Inv X pins σ (upd H T (.tup [x1, x2])) { s with heap := h', toks := tk } := I.turnedNew (ch := [N + 4, N + 2, N + 3, N, N + 1]) keep hf hT ⟨by show 2 ≤ sizeLine; decide, [w1, w2], .cons r1 (.cons r2 (.nil)), ⟨o, ho, hcl, nn, hdt⟩⟩
    refine ⟨.ref T, _, I1, rfl, ⟨T, x1, x2, rfl, I.hok.fresh hT, rfl, fun l hl => by rw [Src.inj I hl hqx]; exact e1, fun l hl => by rw [Src.inj I hl hqy]; exact e2⟩, ⟨gz, gTI, gTO, u1 _ _ g1, u2 _ _ g2⟩, fun c hcm => ?_⟩
    rw [upd_ne fun e => ?_]
    · exact (hf c hcm).1
    · subst e
      have hlt2 : c < s.heap.objs.size := by
        have e' : c = (N + 4 : Nat) ∨ c = (N + 2 : Nat) ∨ c = (N + 3 : Nat) ∨ c = (N : Nat) ∨ c = (N + 1 : Nat) := by simpa using hcm
        rcases e' with q | q | q | q | q
        · rw [q]; exact Heap.lt_size hz
        · rw [q]; exact Heap.lt_size hTI
        · obtain ⟨p0, p1, hTO⟩ := hTO; rw [q]; exact Heap.lt_size hTO
        · obtain ⟨o, e, _⟩ := Src.obj h1; rw [q]; exact Heap.lt_size e
        · obtain ⟨o, e, _⟩ := Src.obj h2; rw [q]; exact Heap.lt_size e
      exact absurd (Nat.lt_of_lt_of_le hlt2 hT) (Nat.lt_irrefl _)
  done := by
    intro X hP hw hK hc i pins s σ H E I hf st hg
    subst hP hw hK
    obtain ⟨hz, hTI, hTO, h1, h2⟩ := st
    obtain ⟨xs, ys, hqx, hqy, hi⟩ := hg
    subst hi
    obtain ⟨fp1, P1, S1, l1, D1, t1, u1, v1⟩ := Src.draws I hc hqx ha (Nat.le_add_right N 0) h1
    obtain ⟨fp2, P2, S2, l2, D2, t2, u2, v2⟩ := Src.draws I hc hqy hb (Nat.le_add_right N 1) h2
    have G := GoesN.zip2 (elts := elts) (x1 := kk) (pos := tpos) (zip_sep2 l1 l2) D1 D2
    refine G.stops s _ E ⟨hz, hTI, hTO, t1, t2⟩ fun h' tk hk htk => ?_
    exact I.turnedL (ch := [N + 4, N + 2, N + 3, N, N + 1]) (fun c o hb q => hk c o (fun z => hb (by simp only [List.mem_cons, List.not_mem_nil, or_false] at z ⊢; rcases z with z | z | z | z <;> simp [z])) q) hf
  self := fun A i s Q E st h => wpAny_pyIter_zip st.1 h
/-- the items of 3 sources, in new tuples -/
def ItZ3 (K : Fr) (a b c : Src) : It :=
  ⟨fun i H => ∃ (xs ys ts : List V) (x y t : V), a.its K H xs ∧ b.its K H ys ∧ c.its K H ts ∧ xs[i]? = some x ∧ ys[i]? = some y ∧ ts[i]? = some t,
    fun i H v H' => ∃ (T : Addr) (x y t : V), v = .ref T ∧ H T = none ∧ H' = upd H T (.tup [x, y, t]) ∧ (∀ xs, a.its K H xs → xs[i]? = some x) ∧ (∀ ys, b.its K H ys → ys[i]? = some y) ∧ (∀ ts, c.its K H ts → ts[i]? = some t),
    fun i H => ∃ xs ys ts : List V, a.its K H xs ∧ b.its K H ys ∧ c.its K H ts ∧ i = min (min xs.length ys.length) ts.length⟩
theorem turn_z3 {P : Program} {w : World} {K : Fr} {elts : List Expr} {kk : Nat} {tpos : Pos} {a b c : Src} {N : Nat} (ha : a.lt N) (hb : b.lt N) (hc0 : c.lt N) :
    Turn P w K (.Tuple elts kk tpos) (ItZ3 K a b c) [N + 5, N + 3, N + 4, N, N + 1, N + 2] (N + 5 : Nat)
      (fun i h => IsZip h (N + 5 : Nat) (N + 3 : Nat) (N + 4 : Nat) .none ∧ IsTupOf3 h (N + 3 : Nat) (.ref (N : Nat)) (.ref (N + 1 : Nat)) (.ref (N + 2 : Nat)) ∧ (∃ p0 p1 p2, IsTupOf3 h (N + 4 : Nat) p0 p1 p2) ∧ a.iSt (N : Nat) i h ∧ b.iSt (N + 1 : Nat) i h ∧ c.iSt (N + 2 : Nat) i h) where
  mem := by simp
  obj := fun i h st c hm => by
    obtain ⟨hz, hTI, ⟨p0, p1, p2, hTO⟩, h1, h2, h3⟩ := st
    have e' : c = (N + 5 : Nat) ∨ c = (N + 3 : Nat) ∨ c = (N + 4 : Nat) ∨ c = (N : Nat) ∨ c = (N + 1 : Nat) ∨ c = (N + 2 : Nat) := by simpa using hm
    rcases e' with q | q | q | q | q | q
    · rw [q]; exact ⟨_, hz, fun v q => nomatch q⟩
    · rw [q]; exact ⟨_, hTI, fun v q => nomatch q⟩
    · rw [q]; exact ⟨_, hTO, fun v q => nomatch q⟩
    · rw [q]; exact Src.obj h1
    · rw [q]; exact Src.obj h2
    · rw [q]; exact Src.obj h3
  keep := fun i h h' st k => by
    obtain ⟨hz, hTI, ⟨p0, p1, p2, hTO⟩, h1, h2, h3⟩ := st
    exact ⟨k _ (by simp) _ hz, k _ (by simp) _ hTI, ⟨p0, p1, p2, k _ (by simp) _ hTO⟩, Src.keep h1 fun o q => k _ (by simp) o q, Src.keep h2 fun o q => k _ (by simp) o q, Src.keep h3 fun o q => k _ (by simp) o q⟩
  item := by
    intro X hP hw hK hc i pins s σ H E I hf st hg
    subst hP hw hK
    obtain ⟨hz, hTI, hTO, h1, h2, h3⟩ := st
    obtain ⟨xs, ys, ts, x, y, t, hqx, hqy, hqt, hx, hy, ht⟩ := hg
    obtain ⟨fp1, P1, S1, l1, D1, t1, u1, v1⟩ := Src.draws I hc hqx ha (Nat.le_add_right N 0) h1
    obtain ⟨fp2, P2, S2, l2, D2, t2, u2, v2⟩ := Src.draws I hc hqy hb (Nat.le_add_right N 1) h2
    obtain ⟨fp3, P3, S3, l3, D3, t3, u3, v3⟩ := Src.draws I hc hqt hc0 (Nat.le_add_right N 2) h3
    have G := GoesN.zip3 (elts := elts) (x1 := kk) (pos := tpos) (zip_sep3 l1 l2 l3) D1 D2 D3
    have hlt : i < min (min xs.length ys.length) ts.length := by
      have q1 := (List.getElem?_eq_some_iff.mp hx).1
      have q2 := (List.getElem?_eq_some_iff.mp hy).1
      have q3 := (List.getElem?_eq_some_iff.mp ht).1
      omega
    refine G.goes i s _ E hlt ⟨hz, hTI, hTO, t1, t2, t3⟩ fun v h' tk hY st' hk htk => ?_
    obtain ⟨T, w1, w2, w3, rfl, hT, y1, y2, y3, ⟨o, ho, hcl, nn, hdt⟩⟩ := hY
    obtain ⟨x1, e1, r1⟩ := v1 i w1 y1
    obtain ⟨x2, e2, r2⟩ := v2 i w2 y2
    obtain ⟨x3, e3, r3⟩ := v3 i w3 y3
    obtain ⟨gz, gTI, gTO, g1, g2, g3⟩ := st'
    have keep : ∀ c o, c ∉ [N + 5, N + 3, N + 4, N, N + 1, N + 2] → s.heap.get? c = some o → h'.get? c = some o := fun c o hb q => hk c o (fun z => hb (by simp only [List.mem_cons, List.not_mem_nil, or_false] at z ⊢; rcases z with z | z | z | z | z <;> simp [z])) q
    have I1 : L2.Inv X pins σ (upd H T (.tup [x1, x2, x3])) { s with heap := h', toks := tk } := I.turnedNew (ch := [N + 5, N + 3, N + 4, N, N + 1, N + 2]) keep hf hT ⟨by show 3 ≤ sizeLine; decide, [w1, w2, w3], .cons r1 (.cons r2 (.cons r3 (.nil))), ⟨o, ho, hcl, nn, hdt⟩⟩
    refine ⟨.ref T, _, I1, rfl, ⟨T, x1, x2, x3, rfl, I.hok.fresh hT, rfl, fun l hl => by rw [Src.inj I hl hqx]; exact e1, fun l hl => by rw [Src.inj I hl hqy]; exact e2, fun l hl => by rw [Src.inj I hl hqt]; exact e3⟩, ⟨gz, gTI, gTO, u1 _ _ g1, u2 _ _ g2, u3 _ _ g3⟩, fun c hcm => ?_⟩
    rw [upd_ne fun e => ?_]
    · exact (hf c hcm).1
    · subst e
      have hlt2 : c < s.heap.objs.size := by
        have e' : c = (N + 5 : Nat) ∨ c = (N + 3 : Nat) ∨ c = (N + 4 : Nat) ∨ c = (N : Nat) ∨ c = (N + 1 : Nat) ∨ c = (N + 2 : Nat) := by simpa using hcm
        rcases e' with q | q | q | q | q | q
        · rw [q]; exact Heap.lt_size hz
        · rw [q]; exact Heap.lt_size hTI
        · obtain ⟨p0, p1, p2, hTO⟩ := hTO; rw [q]; exact Heap.lt_size hTO
        · obtain ⟨o, e, _⟩ := Src.obj h1; rw [q]; exact Heap.lt_size e
        · obtain ⟨o, e, _⟩ := Src.obj h2; rw [q]; exact Heap.lt_size e
        · obtain ⟨o, e, _⟩ := Src.obj h3; rw [q]; exact Heap.lt_size e
      exact absurd (Nat.lt_of_lt_of_le hlt2 hT) (Nat.lt_irrefl _)
  done := by
    intro X hP hw hK hc i pins s σ H E I hf st hg
    subst hP hw hK
    obtain ⟨hz, hTI, hTO, h1, h2, h3⟩ := st
    obtain ⟨xs, ys, ts, hqx, hqy, hqt, hi⟩ := hg
    subst hi
    obtain ⟨fp1, P1, S1, l1, D1, t1, u1, v1⟩ := Src.draws I hc hqx ha (Nat.le_add_right N 0) h1
    obtain ⟨fp2, P2, S2, l2, D2, t2, u2, v2⟩ := Src.draws I hc hqy hb (Nat.le_add_right N 1) h2
    obtain ⟨fp3, P3, S3, l3, D3, t3, u3, v3⟩ := Src.draws I hc hqt hc0 (Nat.le_add_right N 2) h3
    have G := GoesN.zip3 (elts := elts) (x1 := kk) (pos := tpos) (zip_sep3 l1 l2 l3) D1 D2 D3
    refine G.stops s _ E ⟨hz, hTI, hTO, t1, t2, t3⟩ fun h' tk hk htk => ?_
    exact I.turnedL (ch := [N + 5, N + 3, N + 4, N, N + 1, N + 2]) (fun c o hb q => hk c o (fun z => hb (by simp only [List.mem_cons, List.not_mem_nil, or_false] at z ⊢; rcases z with z | z | z | z | z <;> simp [z])) q) hf
  self := fun A i s Q E st h => wpAny_pyIter_zip st.1 h
def iZ2 (K : Fr) (ta : TA) : TI := fun σ H R => ta σ H fun vs H1 => ∃ (a b : Src) (x y : V) (xs ys : List V), vs = [x, y] ∧ a.ofV x ∧ b.ofV y ∧ a.its K H1 xs ∧ b.its K H1 ys ∧ R (ItZ2 K a b) H1
theorem pi_z2 {X : Cx} {e1 e2 : Expr} {ta : TA} {p pos tpos : Pos} {elts : List Expr} {kk : Nat} (hg : Gl X "zip") (hm : X.mg "zip" = none) (ha : PA X [e1, e2] ta) (hs : starEach [e1, e2] X.env = (false, eval e1 X.env) :: starEach [e2] X.env := by rfl) (hpl : (backTo pos (starEach [e2] X.env)).any (·.1) = false := by rfl) :
    PI X (.Tuple elts kk tpos) (.Call (.Name "zip" p) [e1, e2] [] pos) (iZ2 X.K ta) := by
  refine ⟨fun pins s σ H R I h => Call_ (ld_blt I hg hm boot_zip (callWith_type1 (thn (ha.run pos pins s σ H _ I h) fun us s1 ⟨vs, H1, I1, r1, q1⟩ => ?_) hs hpl))⟩
  obtain ⟨a, b, x, y, xs, ys, rfl, ox, oy, qx, qy, q⟩ := q1
  obtain ⟨u1, u2, rfl, r1, r2⟩ := vals2 r1
  obtain ⟨p1, G1, B1, k1, i1, l1⟩ := Src.begins I1 ox r1 qx
  obtain ⟨p2, G2, B2, k2, i2, l2⟩ := Src.begins I1 oy r2 qy
  refine zip_begins2 B1 B2 k1 k2 fun h' hz hTI hTO h1 h2 hsz hk => wpAny_pyIter_zip hz ?_
  refine ⟨_, _, _, _, H1, rfl, I1.kept (t' := s1.toks) hk, turn_z2 l1 l2, ⟨hz, hTI, ⟨_, _, hTO⟩, i1 _ _ h1, i2 _ _ h2⟩, fun c hcm => ?_, q⟩
  have e' : c = s1.heap.objs.size + 4 ∨ c = s1.heap.objs.size + 2 ∨ c = s1.heap.objs.size + 3 ∨ c = s1.heap.objs.size ∨ c = s1.heap.objs.size + 1 := by simpa using hcm
  have hle : s1.heap.objs.size ≤ c := by
    rcases e' with z | z | z | z | z <;> (rw [z]; first | exact Nat.le_add_right _ _ | exact Nat.le_refl _)
  exact I1.fpOk hle (I1.hok.fresh hle)
def zipD2 : List D → List D → List D
  | d1 :: r1, d2 :: r2 => PyData.tuple [d1, d2] :: zipD2 r1 r2
  | _, _ => []
theorem zipD2_len : ∀ xs ys, (zipD2 xs ys).length = min xs.length ys.length
  | d1 :: r1, d2 :: r2 => by
    unfold zipD2
    rw [List.length_cons, zipD2_len r1 r2]
    simp only [List.length_cons]
    omega
  | [], _ => by simp [zipD2]
  | _ :: _, [] => by simp [zipD2]
theorem zipD2_get : ∀ (xs ys : List D) (i : Nat) (d : D), (zipD2 xs ys)[i]? = some d → ∃ d1 d2, xs[i]? = some d1 ∧ ys[i]? = some d2 ∧ d = .tuple [d1, d2]
  | d1 :: r1, d2 :: r2, 0, d, h => ⟨d1, d2, rfl, rfl, (Option.some.inj h).symm⟩
  | d1 :: r1, d2 :: r2, i + 1, d, h => zipD2_get r1 r2 i d h
  | [], _, i, d, h => by simp [zipD2] at h
  | _ :: _, [], i, d, h => by simp [zipD2] at h
def mZip2 (fs : FA) : FA := fun env => match fs env with
  | some ([d1, d2], e1) => (match srcD d1, srcD d2 with | some xs, some ys => some (zipD2 xs ys, e1) | _, _ => none)
  | _ => none
theorem walk_z2 {K : Fr} {Hv : Hp} {a b : Src} {xs ys : List V} {dxs dys : List D} (h1 : a.its K Hv xs) (a1 : DpAll K Hv xs dxs) (h2 : b.its K Hv ys) (a2 : DpAll K Hv ys dys) : WalkOk K Hv (ItZ2 K a b) (zipD2 dxs dys) := fun m H2 e al => by
  have g1 : a.its K H2 xs := Src.mono (e.trans msk_sub) h1
  have g2 : b.its K H2 ys := Src.mono (e.trans msk_sub) h2
  refine ⟨⟨xs, ys, g1, g2, ?_⟩, fun i d hd => ?_⟩
  · rw [zipD2_len, dps_len a1, dps_len a2]
  · obtain ⟨d1, d2, f1, f2, rfl⟩ := zipD2_get _ _ i d hd
    obtain ⟨v1, w1, z1⟩ := dps_get a1 f1
    obtain ⟨v2, w2, z2⟩ := dps_get a2 f2
    refine ⟨⟨xs, ys, _, _, g1, g2, w1, w2⟩, fun x H3 y => ?_⟩
    obtain ⟨T, x1, x2, rfl, hT, rfl, y1, y2⟩ := y
    have c1 := y1 _ g1; rw [w1] at c1; cases c1
    have c2 := y2 _ g2; rw [w2] at c2; cases c2
    exact ⟨same_new hT, dp_newT al hT (.cons (dp_mono e z1) (.cons (dp_mono e z2) (.nil)))⟩
theorem si_zip2 {X : Cx} {e1 e2 : Expr} {fs : FA} {p pos tpos : Pos} {elts : List Expr} {kk : Nat} (hg : Gl X "zip") (hm : X.mg "zip" = none) (ha : SA X [e1, e2] fs) (hs : starEach [e1, e2] X.env = (false, eval e1 X.env) :: starEach [e2] X.env := by rfl) (hpl : (backTo pos (starEach [e2] X.env)).any (·.1) = false := by rfl) :
    SI X (.Tuple elts kk tpos) (.Call (.Name "zip" p) [e1, e2] [] pos) (mZip2 fs) := PI.imp (pi_z2 hg hm ha hs hpl) fun σ H R q => by
  obtain ⟨C, env, O, ds, env', R0, e, q⟩ := q
  unfold mZip2 at e
  split at e
  · rename_i d1 d2 e1 h1
    split at e
    · rename_i x1 x2 xs ys s1 s2
      cases e
      refine ⟨C, env, O, _, _, R0, h1, fun vs H1 O1 R1 a => ?_⟩
      cases a with
      | cons z1 t1 =>
        cases t1 with
        | cons z2 t2 =>
          cases t2
          obtain ⟨a, l1, o1, i1, b1⟩ := src_of z1 s1
          obtain ⟨b, l2, o2, i2, b2⟩ := src_of z2 s2
          exact ⟨a, b, _, _, l1, l2, rfl, o1, o2, Src.mono msk_sub i1, Src.mono msk_sub i2, q _ H1 O1 R1 (walk_z2 i1 b1 i2 b2)⟩
    · cases e
  · cases e
def iZ3 (K : Fr) (ta : TA) : TI := fun σ H R => ta σ H fun vs H1 => ∃ (a b c : Src) (x y t : V) (xs ys ts : List V), vs = [x, y, t] ∧ a.ofV x ∧ b.ofV y ∧ c.ofV t ∧ a.its K H1 xs ∧ b.its K H1 ys ∧ c.its K H1 ts ∧ R (ItZ3 K a b c) H1
theorem pi_z3 {X : Cx} {e1 e2 e3 : Expr} {ta : TA} {p pos tpos : Pos} {elts : List Expr} {kk : Nat} (hg : Gl X "zip") (hm : X.mg "zip" = none) (ha : PA X [e1, e2, e3] ta) (hs : starEach [e1, e2, e3] X.env = (false, eval e1 X.env) :: starEach [e2, e3] X.env := by rfl) (hpl : (backTo pos (starEach [e2, e3] X.env)).any (·.1) = false := by rfl) :
    PI X (.Tuple elts kk tpos) (.Call (.Name "zip" p) [e1, e2, e3] [] pos) (iZ3 X.K ta) := by
  refine ⟨fun pins s σ H R I h => Call_ (ld_blt I hg hm boot_zip (callWith_type1 (thn (ha.run pos pins s σ H _ I h) fun us s1 ⟨vs, H1, I1, r1, q1⟩ => ?_) hs hpl))⟩
  obtain ⟨a, b, c, x, y, t, xs, ys, ts, rfl, ox, oy, ot, qx, qy, qt, q⟩ := q1
  obtain ⟨u1, u2, u3, rfl, r1, r2, r3⟩ := trip r1
  obtain ⟨p1, G1, B1, k1, i1, l1⟩ := Src.begins I1 ox r1 qx
  obtain ⟨p2, G2, B2, k2, i2, l2⟩ := Src.begins I1 oy r2 qy
  obtain ⟨p3, G3, B3, k3, i3, l3⟩ := Src.begins I1 ot r3 qt
  refine zip_begins3 B1 B2 B3 k1 k2 k3 fun h' hz hTI hTO h1 h2 h3 hsz hk => wpAny_pyIter_zip hz ?_
  refine ⟨_, _, _, _, H1, rfl, I1.kept (t' := s1.toks) hk, turn_z3 l1 l2 l3, ⟨hz, hTI, ⟨_, _, _, hTO⟩, i1 _ _ h1, i2 _ _ h2, i3 _ _ h3⟩, fun c hcm => ?_, q⟩
  have e' : c = s1.heap.objs.size + 5 ∨ c = s1.heap.objs.size + 3 ∨ c = s1.heap.objs.size + 4 ∨ c = s1.heap.objs.size ∨ c = s1.heap.objs.size + 1 ∨ c = s1.heap.objs.size + 2 := by simpa using hcm
  have hle : s1.heap.objs.size ≤ c := by
    rcases e' with z | z | z | z | z | z <;> (rw [z]; first | exact Nat.le_add_right _ _ | exact Nat.le_refl _)
  exact I1.fpOk hle (I1.hok.fresh hle)
def zipD3 : List D → List D → List D → List D
  | d1 :: r1, d2 :: r2, d3 :: r3 => PyData.tuple [d1, d2, d3] :: zipD3 r1 r2 r3
  | _, _, _ => []
theorem zipD3_len : ∀ xs ys ts, (zipD3 xs ys ts).length = min (min xs.length ys.length) ts.length
  | d1 :: r1, d2 :: r2, d3 :: r3 => by
    unfold zipD3
    rw [List.length_cons, zipD3_len r1 r2 r3]
    simp only [List.length_cons]
    omega
  | [], _, _ => by simp [zipD3]
  | _ :: _, [], _ => by simp [zipD3]
  | _ :: _, _ :: _, [] => by simp [zipD3]
theorem zipD3_get : ∀ (xs ys ts : List D) (i : Nat) (d : D), (zipD3 xs ys ts)[i]? = some d → ∃ d1 d2 d3, xs[i]? = some d1 ∧ ys[i]? = some d2 ∧ ts[i]? = some d3 ∧ d = .tuple [d1, d2, d3]
  | d1 :: r1, d2 :: r2, d3 :: r3, 0, d, h => ⟨d1, d2, d3, rfl, rfl, rfl, (Option.some.inj h).symm⟩
  | d1 :: r1, d2 :: r2, d3 :: r3, i + 1, d, h => zipD3_get r1 r2 r3 i d h
  | [], _, _, i, d, h => by simp [zipD3] at h
  | _ :: _, [], _, i, d, h => by simp [zipD3] at h
  | _ :: _, _ :: _, [], i, d, h => by simp [zipD3] at h
def mZip3 (fs : FA) : FA := fun env => match fs env with
  | some ([d1, d2, d3], e1) => (match srcD d1, srcD d2, srcD d3 with | some xs, some ys, some ts => some (zipD3 xs ys ts, e1) | _, _, _ => none)
  | _ => none
theorem walk_z3 {K : Fr} {Hv : Hp} {a b c : Src} {xs ys ts : List V} {dxs dys dts : List D} (h1 : a.its K Hv xs) (a1 : DpAll K Hv xs dxs) (h2 : b.its K Hv ys) (a2 : DpAll K Hv ys dys) (h3 : c.its K Hv ts) (a3 : DpAll K Hv ts dts) : WalkOk K Hv (ItZ3 K a b c) (zipD3 dxs dys dts) := fun m H2 e al => by
  have g1 : a.its K H2 xs := Src.mono (e.trans msk_sub) h1
  have g2 : b.its K H2 ys := Src.mono (e.trans msk_sub) h2
  have g3 : c.its K H2 ts := Src.mono (e.trans msk_sub) h3
  refine ⟨⟨xs, ys, ts, g1, g2, g3, ?_⟩, fun i d hd => ?_⟩
  · rw [zipD3_len, dps_len a1, dps_len a2, dps_len a3]
  · obtain ⟨d1, d2, d3, f1, f2, f3, rfl⟩ := zipD3_get _ _ _ i d hd
    obtain ⟨v1, w1, z1⟩ := dps_get a1 f1
    obtain ⟨v2, w2, z2⟩ := dps_get a2 f2
    obtain ⟨v3, w3, z3⟩ := dps_get a3 f3
    refine ⟨⟨xs, ys, ts, _, _, _, g1, g2, g3, w1, w2, w3⟩, fun x H3 y => ?_⟩
    obtain ⟨T, x1, x2, x3, rfl, hT, rfl, y1, y2, y3⟩ := y
    have c1 := y1 _ g1; rw [w1] at c1; cases c1
    have c2 := y2 _ g2; rw [w2] at c2; cases c2
    have c3 := y3 _ g3; rw [w3] at c3; cases c3
    exact ⟨same_new hT, dp_newT al hT (.cons (dp_mono e z1) (.cons (dp_mono e z2) (.cons (dp_mono e z3) (.nil))))⟩
theorem si_zip3 {X : Cx} {e1 e2 e3 : Expr} {fs : FA} {p pos tpos : Pos} {elts : List Expr} {kk : Nat} (hg : Gl X "zip") (hm : X.mg "zip" = none) (ha : SA X [e1, e2, e3] fs) (hs : starEach [e1, e2, e3] X.env = (false, eval e1 X.env) :: starEach [e2, e3] X.env := by rfl) (hpl : (backTo pos (starEach [e2, e3] X.env)).any (·.1) = false := by rfl) :
    SI X (.Tuple elts kk tpos) (.Call (.Name "zip" p) [e1, e2, e3] [] pos) (mZip3 fs) := PI.imp (pi_z3 hg hm ha hs hpl) fun σ H R q => by
  obtain ⟨C, env, O, ds, env', R0, e, q⟩ := q
  unfold mZip3 at e
  split at e
  · rename_i d1 d2 d3 e1 h1
    split at e
    · rename_i x1 x2 x3 xs ys ts s1 s2 s3
      cases e
      refine ⟨C, env, O, _, _, R0, h1, fun vs H1 O1 R1 a => ?_⟩
      cases a with
      | cons z1 t1 =>
        cases t1 with
        | cons z2 t2 =>
          cases t2 with
          | cons z3 t3 =>
            cases t3
            obtain ⟨a, l1, o1, i1, b1⟩ := src_of z1 s1
            obtain ⟨b, l2, o2, i2, b2⟩ := src_of z2 s2
            obtain ⟨c, l3, o3, i3, b3⟩ := src_of z3 s3
            exact ⟨a, b, c, _, _, _, l1, l2, l3, rfl, o1, o2, o3, Src.mono msk_sub i1, Src.mono msk_sub i2, Src.mono msk_sub i3, q _ H1 O1 R1 (walk_z3 i1 b1 i2 b2 i3 b3)⟩
    · cases e
  · cases e
/-! ### enumerate -/
theorem meets_en1 {v : Value} {o : Obj} {G : Heap → Prop} (B : Begins v o G) : Meets (Builtin.«enumerate.__new__» ⟨[.type "enumerate", v], []⟩) (fun _ R s => G s.heap ∧ R (.ok (.ret (.ref (s.heap.push o).objs.size))) { s with heap := (s.heap.push o).push { cls := .type "enumerate", data := .fields #[.none, .bool false, .ref s.heap.objs.size, rawInt 0, .none, .none] } }) :=
  .of_wp fun prog w A R s h => by
    obtain ⟨hp, g, d, tk, os⟩ := s; obtain ⟨h1, h⟩ := h
    have hsub := sub_enumerate
    have q1 : ∀ {A' : Around} {E : Value → Shared → Prop} {Q : Value → Shared → Prop}, Q (.ref hp.objs.size) ⟨hp.push o, g, d, tk, os⟩ → wpAny (model prog w) A' (pyIter v) Q E ⟨hp, g, d, tk, os⟩ := fun q => B.iter prog w _ _ ⟨hp, g, d, tk, os⟩ _ h1 q
    wp_walk using q1
    refine wpAny_stack_any fun st => wpAny_pure ?_
    split
    · rename_i c _ _ _ _ _
      cases (c == Value.type "enumerate") <;> (wp_walk using q1; exact ⟨_, rfl, h⟩)
    · wp_walk using q1
      exact ⟨_, rfl, h⟩
theorem en_begins {prog : Program} {w : World} {A : Around} {E : Value → Shared → Prop} {s : Shared} {v : Value} {o : Obj} {G : Heap → Prop} {Q : Value → Shared → Prop} (B : Begins v o G) (h1 : G s.heap)
    (h : ∀ h', IsEnum h' (s.heap.objs.size + 1) s.heap.objs.size 0 .none → h'.get? s.heap.objs.size = some o → (∀ b o, s.heap.get? b = some o → h'.get? b = some o) → Q (.ref (s.heap.objs.size + 1)) { s with heap := h' }) : wpAny (model prog w) A (call (.type "enumerate") [v]) Q E s := by
  refine callType_new F.called_enumerate (by decide) (F.typeCall_enumerate_1 _) (F.newCall_enumerate_1 _) (fun obj => F.args_object_init_2 obj _) F.entry_enumerate_new (meets_en1 B) ⟨h1, ?_⟩
  have hz : (s.heap.push o).objs.size = s.heap.objs.size + 1 := Heap.size_push ..
  show _ ∧ _
  rw [hz]
  have he : IsEnum ((s.heap.push o).push { cls := .type "enumerate", data := .fields #[.none, .bool false, .ref s.heap.objs.size, rawInt 0, .none, .none] }) (s.heap.objs.size + 1) s.heap.objs.size 0 .none := by
    have g := Heap.get?_push_size (s.heap.push o) (o := { cls := .type "enumerate", data := .fields #[.none, .bool false, .ref s.heap.objs.size, rawInt 0, .none, .none] }) rfl
    rw [hz] at g; exact g
  exact ⟨⟨_, he, rfl⟩, h _ he (Heap.get?_push_of_some _ (Heap.get?_push_size _ B.free)) fun b o x => Heap.get?_push_of_some _ (Heap.get?_push_of_some _ x)⟩
def ItEn (K : Fr) (a : Src) : It :=
  ⟨fun i H => ∃ (xs : List V) (x : V), a.its K H xs ∧ xs[i]? = some x, fun i H v H' => ∃ (T : Addr) (x : V), v = .ref T ∧ H T = none ∧ H' = upd H T (.tup [.int (i : Nat), x]) ∧ ∀ xs, a.its K H xs → xs[i]? = some x, fun i H => ∃ xs : List V, a.its K H xs ∧ i = xs.length⟩
theorem turn_en {P : Program} {w : World} {K : Fr} {elts : List Expr} {kk : Nat} {tpos : Pos} {a : Src} {N : Nat} (ha : a.lt N) :
    Turn P w K (.Tuple elts kk tpos) (ItEn K a) [N + 1, N] (N + 1 : Nat) (fun i h => (∃ old, IsEnum h (N + 1 : Nat) (N : Nat) (0 + (i : Int)) old) ∧ a.iSt (N : Nat) i h) where
  mem := by simp
  obj := fun i h st c hm => by
    obtain ⟨⟨old, hz⟩, h1⟩ := st
    have e' : c = (N + 1 : Nat) ∨ c = (N : Nat) := by simpa using hm
    rcases e' with q | q
    · rw [q]; exact ⟨_, hz, fun v q => nomatch q⟩
    · rw [q]; exact Src.obj h1
  keep := fun i h h' st k => by
    obtain ⟨⟨old, hz⟩, h1⟩ := st
    exact ⟨⟨old, k _ (by simp) _ hz⟩, Src.keep h1 fun o q => k _ (by simp) o q⟩
  item := by
    intro X hP hw hK hc i pins s σ H E I hf st hg
    subst hP hw hK
    obtain ⟨hz, h1⟩ := st
    obtain ⟨xs, x, hqx, hx⟩ := hg
    obtain ⟨fp1, P1, S1, l1, D1, t1, u1, v1⟩ := Src.draws I hc hqx ha (Nat.le_refl N) h1
    have hef : (N + 1 : Nat) ∉ (N :: fp1 : List Addr) := fun z => by
      rcases List.mem_cons.mp z with z | z
      · exact absurd z (Nat.succ_ne_self N)
      · exact absurd (Nat.lt_trans (Nat.lt_succ_self N) (l1 _ z)) (Nat.lt_irrefl _)
    have G := GoesN.enumFrom (elts := elts) (x1 := kk) (pos := tpos) 0 D1 (N + 1 : Nat) (Nat.succ_ne_self N) hef (List.mem_cons_self ..)
    refine G.goes i s _ E (List.getElem?_eq_some_iff.mp hx).1 ⟨hz, t1⟩ fun v h' tk hY st' hk htk => ?_
    obtain ⟨T, tt, w1, rfl, hT, y1, ⟨o, ho, hcl, nn, hdt⟩⟩ := hY
    obtain ⟨x1, e1, r1⟩ := v1 i w1 y1
    obtain ⟨gz, g1⟩ := st'
    have keep : ∀ c o, c ∉ [N + 1, N] → s.heap.get? c = some o → h'.get? c = some o := fun c o hb q => hk c o hb q
    rw [Int.zero_add] at hdt
    have I1 : L2.Inv X pins σ (upd H T (.tup [.int (i : Nat), x1])) { s with heap := h', toks := tk } := I.turnedNew (ch := [N + 1, N]) keep hf hT ⟨by show 2 ≤ sizeLine; decide, [.int (i : Nat) tt, w1], .cons ⟨tt, rfl⟩ (.cons r1 .nil), ⟨o, ho, hcl, nn, hdt⟩⟩
    refine ⟨.ref T, _, I1, rfl, ⟨T, x1, rfl, I.hok.fresh hT, rfl, fun l hl => by rw [Src.inj I hl hqx]; exact e1⟩, ⟨gz, u1 _ _ g1⟩, fun c hcm => ?_⟩
    rw [upd_ne fun e => ?_]
    · exact (hf c hcm).1
    · subst e
      have hlt2 : c < s.heap.objs.size := by
        have e' : c = (N + 1 : Nat) ∨ c = (N : Nat) := by simpa using hcm
        rcases e' with q | q
        · obtain ⟨old, hz⟩ := hz; rw [q]; exact Heap.lt_size hz
        · obtain ⟨o, e, _⟩ := Src.obj h1; rw [q]; exact Heap.lt_size e
      exact absurd (Nat.lt_of_lt_of_le hlt2 hT) (Nat.lt_irrefl _)
  done := by
    intro X hP hw hK hc i pins s σ H E I hf st hg
    subst hP hw hK
    obtain ⟨hz, h1⟩ := st
    obtain ⟨xs, hqx, hi⟩ := hg
    subst hi
    obtain ⟨fp1, P1, S1, l1, D1, t1, u1, v1⟩ := Src.draws I hc hqx ha (Nat.le_refl N) h1
    have hef : (N + 1 : Nat) ∉ (N :: fp1 : List Addr) := fun z => by
      rcases List.mem_cons.mp z with z | z
      · exact absurd z (Nat.succ_ne_self N)
      · exact absurd (Nat.lt_trans (Nat.lt_succ_self N) (l1 _ z)) (Nat.lt_irrefl _)
    have G := GoesN.enumFrom (elts := elts) (x1 := kk) (pos := tpos) 0 D1 (N + 1 : Nat) (Nat.succ_ne_self N) hef (List.mem_cons_self ..)
    exact G.stops s _ E ⟨hz, t1⟩ fun h' tk hk htk => I.turnedL (ch := [N + 1, N]) (fun c o hb q => hk c o hb q) hf
  self := fun A i s Q E st h => let ⟨⟨_, he⟩, _⟩ := st; wpAny_pyIter_enum he h
def iEn (K : Fr) (ta : TA) : TI := fun σ H R => ta σ H fun vs H1 => ∃ (a : Src) (x : V) (xs : List V), vs = [x] ∧ a.ofV x ∧ a.its K H1 xs ∧ R (ItEn K a) H1
theorem pi_en {X : Cx} {e1 : Expr} {ta : TA} {p pos tpos : Pos} {elts : List Expr} {kk : Nat} (hg : Gl X "enumerate") (hm : X.mg "enumerate" = none) (ha : PA X [e1] ta) (hs : starEach [e1] X.env = [(false, eval e1 X.env)] := by rfl) : PI X (.Tuple elts kk tpos) (.Call (.Name "enumerate" p) [e1] [] pos) (iEn X.K ta) := by
  refine ⟨fun pins s σ H R I h => Call_ (ld_blt I hg hm boot_enumerate (callWith_type1 (thn (ha.run pos pins s σ H _ I h) fun us s1 ⟨vs, H1, I1, r1, q1⟩ => ?_) hs rfl))⟩
  obtain ⟨a, x, xs, rfl, ox, qx, q⟩ := q1
  obtain ⟨u1, rfl, rr⟩ := vals1 r1
  obtain ⟨p1, G1, B1, k1, i1, l1⟩ := Src.begins I1 ox rr qx
  refine en_begins B1 k1 fun h' hz h1 hk => wpAny_pyIter_enum hz ?_
  refine ⟨_, _, _, _, H1, rfl, I1.kept (t' := s1.toks) hk, turn_en l1, ⟨⟨.none, hz⟩, i1 _ _ h1⟩, fun c hcm => ?_, q⟩
  have e' : c = s1.heap.objs.size + 1 ∨ c = s1.heap.objs.size := by simpa using hcm
  have hle : s1.heap.objs.size ≤ c := by rcases e' with z | z <;> (rw [z]; first | exact Nat.le_add_right _ _ | exact Nat.le_refl _)
  exact I1.fpOk hle (I1.hok.fresh hle)
def enumD (k : Nat) : List D → List D
  | [] => []
  | d :: r => PyData.tuple [.int (k : Nat), d] :: enumD (k + 1) r
theorem enumD_len : ∀ (xs : List D) (k : Nat), (enumD k xs).length = xs.length
  | [], _ => rfl
  | d :: r, k => by unfold enumD; rw [List.length_cons, List.length_cons, enumD_len r]
theorem enumD_get : ∀ (xs : List D) (k i : Nat) (d : D), (enumD k xs)[i]? = some d → ∃ d1, xs[i]? = some d1 ∧ d = .tuple [.int ((k + i : Nat) : Int), d1]
  | d1 :: r, k, 0, d, h => ⟨d1, rfl, (Option.some.inj h).symm⟩
  | d1 :: r, k, i + 1, d, h => by
    obtain ⟨e, h1, h2⟩ := enumD_get r (k + 1) i d h
    exact ⟨e, h1, by rw [h2]; congr 4; omega⟩
  | [], k, i, d, h => by simp [enumD] at h
def mEnum (fs : FA) : FA := fun env => match fs env with
  | some ([d1], e1) => (match srcD d1 with | some xs => some (enumD 0 xs, e1) | none => none)
  | _ => none
theorem walk_en {K : Fr} {Hv : Hp} {a : Src} {xs : List V} {dxs : List D} (h1 : a.its K Hv xs) (a1 : DpAll K Hv xs dxs) : WalkOk K Hv (ItEn K a) (enumD 0 dxs) := fun m H2 e al => by
  have g1 : a.its K H2 xs := Src.mono (e.trans msk_sub) h1
  refine ⟨⟨xs, g1, ?_⟩, fun i d hd => ?_⟩
  · rw [enumD_len, dps_len a1]
  · obtain ⟨d1, f1, rfl⟩ := enumD_get _ _ i d hd
    obtain ⟨v1, w1, z1⟩ := dps_get a1 f1
    refine ⟨⟨xs, _, g1, w1⟩, fun x H3 y => ?_⟩
    obtain ⟨T, x1, rfl, hT, rfl, y1⟩ := y
    have c1 := y1 _ g1; rw [w1] at c1; cases c1
    refine ⟨same_new hT, dp_newT al hT (.cons ?_ (.cons (dp_mono e z1) .nil))⟩
    rw [Nat.zero_add]
    exact .int _
theorem si_enum {X : Cx} {e1 : Expr} {fs : FA} {p pos tpos : Pos} {elts : List Expr} {kk : Nat} (hg : Gl X "enumerate") (hm : X.mg "enumerate" = none) (ha : SA X [e1] fs) (hs : starEach [e1] X.env = [(false, eval e1 X.env)] := by rfl) :
    SI X (.Tuple elts kk tpos) (.Call (.Name "enumerate" p) [e1] [] pos) (mEnum fs) := PI.imp (pi_en hg hm ha hs) fun σ H R q => by
  obtain ⟨C, env, O, ds, env', R0, e, q⟩ := q
  unfold mEnum at e
  split at e
  · rename_i d1 e1 h1
    split at e
    · rename_i xs s1
      cases e
      refine ⟨C, env, O, _, _, R0, h1, fun vs H1 O1 R1 a => ?_⟩
      cases a with
      | cons z1 t1 =>
        cases t1
        obtain ⟨a, l1, o1, i1, b1⟩ := src_of z1 s1
        exact ⟨a, _, l1, rfl, o1, Src.mono msk_sub i1, q _ H1 O1 R1 (walk_en i1 b1)⟩
    · cases e
  · cases e
/-! ### a list, a tuple, a text itself -/
def mSeqIt (f : FE) : FA := fun env => match f env with
  | some (r, e1) => (match srcD r.toD with | some xs => some (xs, e1) | none => none)
  | _ => none
def iAny (K : Fr) (te : TE) : TI := fun σ H R => te σ H fun v H1 => (∃ a xs, v = .ref a ∧ SqL K H1 a xs ∧ R (Itl K a) H1) ∨ (∃ a xs, v = .ref a ∧ SqT K H1 a xs ∧ R (Itt K a) H1) ∨ ∃ z, v = .str z ∧ R (Its z) H1
theorem pi_any {X : Cx} {tg e : Expr} {te : TE} (he : PE X e te) : PI X tg e (iAny X.K te) := by
  refine ⟨fun pins s σ H R I h => thn (he.run pins s σ H _ I h) fun v s1 ⟨x, H1, I1, r1, q1⟩ => ?_⟩
  have fresh : ∀ b, b ∈ [s1.heap.objs.size] → FpOk X pins H1 b := fun b hb => by
    have e := List.mem_singleton.mp hb
    subst e
    exact I1.fpOk (Nat.le_refl _) (I1.hok.fresh (Nat.le_refl _))
  rcases q1 with ⟨a, xs, rfl, hq, q⟩ | ⟨a, xs, rfl, hq, q⟩ | ⟨z, rfl, q⟩
  · cases r1
    obtain ⟨its, rv, p, _⟩ := I1.list hq
    exact wpAny_pyIter_list p.isList ⟨s1.heap.objs.size, [s1.heap.objs.size], _, _, H1, rfl, I1.kept (t' := s1.toks) fun b o e => Heap.get?_push_of_some _ e, turn_list a _, ⟨_, Heap.get?_push_size _ rfl, rfl, rfl⟩, fresh, q⟩
  · cases r1
    obtain ⟨its, rv, p, _⟩ := I1.tuple hq
    exact wpAny_pyIter_tuple (show s1.heap.IsTuple a its.toArray from p) ⟨s1.heap.objs.size, [s1.heap.objs.size], _, _, H1, rfl, I1.kept (t' := s1.toks) fun b o e => Heap.get?_push_of_some _ e, turn_tuple a _, ⟨_, Heap.get?_push_size _ rfl, rfl, rfl⟩, fresh, q⟩
  · obtain ⟨t, rfl⟩ := r1
    refine wpAny_pyIter_strU ⟨s1.heap.objs.size, [s1.heap.objs.size], _, _, H1, rfl, I1.kept (t' := s1.toks) fun b o e => Heap.get?_push_of_some _ e, turn_str _ z t (strIterType z) ?_, ⟨_, Heap.get?_push_size _ rfl, rfl, rfl⟩, fresh, q⟩
    unfold strIterType
    split
    · exact .inl rfl
    · exact .inr rfl
theorem si_seq {X : Cx} {tg e : Expr} {f : FE} (he : SE X e f) : SI X tg e (mSeqIt f) := PI.imp (pi_any he) fun σ H R q => by
  obtain ⟨C, env, O, ds, env', R0, e, q⟩ := q
  unfold mSeqIt at e
  split at e
  · rename_i r e1 h1
    split at e
    · rename_i xs s1
      cases e
      refine te_run R0 h1 fun v H1 O1 _ R1 d1 => ?_
      generalize hd : r.toD = d at d1 s1
      cases d1 with
      | lst h a =>
        cases s1
        refine .inl ⟨_, _, rfl, (sql_mono msk_sub h), q _ H1 O1 R1 fun m H2 e al => ⟨⟨_, (sql_mono (e.trans msk_sub) h), by rw [dps_len a]; exact Nat.le_refl _⟩, fun i d hi => ?_⟩⟩
        obtain ⟨w, h1, h2⟩ := dps_get a hi
        refine ⟨⟨_, w, (sql_mono (e.trans msk_sub) h), h1⟩, fun x H3 y => ?_⟩
        obtain ⟨rfl, y⟩ := y
        have c := y _ (sql_mono (e.trans msk_sub) h)
        rw [h1] at c; cases c
        exact ⟨Same.refl _, dp_mono e h2⟩
      | tup h a =>
        cases s1
        refine .inr (.inl ⟨_, _, rfl, sqt_mono msk_sub h, q _ H1 O1 R1 fun m H2 e al => ⟨⟨_, sqt_mono (e.trans msk_sub) h, by rw [dps_len a]; exact Nat.le_refl _⟩, fun i d hi => ?_⟩⟩)
        obtain ⟨w, h1, h2⟩ := dps_get a hi
        refine ⟨⟨_, w, sqt_mono (e.trans msk_sub) h, h1⟩, fun x H3 y => ?_⟩
        obtain ⟨rfl, y⟩ := y
        have c := y _ (sqt_mono (e.trans msk_sub) h)
        rw [h1] at c; cases c
        exact ⟨Same.refl _, dp_mono e h2⟩
      | str z =>
        cases s1
        refine .inr (.inr ⟨z, rfl, q _ H1 O1 R1 fun m H2 e al => ⟨?_, fun i d hi => ?_⟩⟩)
        · show z.cps.size ≤ _
          rw [List.length_map, Array.length_toList]
          exact Nat.le_refl _
        · rw [List.getElem?_map, Array.getElem?_toList] at hi
          cases hc : z.cps[i]? with
          | none => rw [hc] at hi; cases hi
          | some c =>
            rw [hc] at hi
            cases hi
            refine ⟨(Array.getElem?_eq_some_iff.mp hc).1, fun x H3 y => ?_⟩
            obtain ⟨rfl, c', y1, rfl⟩ := y
            rw [hc] at y1; cases y1
            exact ⟨Same.refl _, .str _⟩
      | non => cases s1
      | bl b => cases s1
      | int i => cases s1
    · cases e
  · cases e
/-! ### range -/
def rangeD (lo : Int) (n : Nat) : List D := (List.range n).map fun (i : Nat) => PyData.int (lo + (i : Int))
def mRange1 (fs : FA) : FA := fun env => match fs env with
  | some ([.int j], e1) => if -(2 ^ 62) ≤ j ∧ j < 2 ^ 62 then some (rangeD 0 j.toNat, e1) else none
  | _ => none
def mRange2 (fs : FA) : FA := fun env => match fs env with
  | some ([.int i, .int j], e1) => if -(2 ^ 62) ≤ i ∧ i < 2 ^ 62 ∧ -(2 ^ 62) ≤ j ∧ j < 2 ^ 62 then some (rangeD i (j - i).toNat, e1) else none
  | _ => none
theorem walk_range {K : Fr} {Hv : Hp} (lo : Int) (n : Nat) : WalkOk K Hv (Itr lo n) (rangeD lo n) := fun m H2 e al => by
  unfold rangeD
  refine ⟨by show n ≤ _; rw [List.length_map, List.length_range]; exact Nat.le_refl _, fun i d hd => ?_⟩
  rw [List.getElem?_map] at hd
  by_cases hi : i < n
  · rw [List.getElem?_range hi] at hd
    cases hd
    refine ⟨hi, fun x H3 y => ?_⟩
    obtain ⟨rfl, rfl⟩ := y
    exact ⟨Same.refl _, .int _⟩
  · rw [List.getElem?_eq_none (by rw [List.length_range]; omega)] at hd
    cases hd
theorem si_range1 {X : Cx} {tg a : Expr} {fs : FA} {p pos : Pos} (hg : Gl X "range") (hm : X.mg "range" = none) (ha : SA X [a] fs) (hs : starEach [a] X.env = [(false, eval a X.env)] := by rfl) : SI X tg (.Call (.Name "range" p) [a] [] pos) (mRange1 fs) := PI.imp (pi_range1 hg hm ha hs) fun σ H R q => by
  obtain ⟨C, env, O, ds, env', R0, e, q⟩ := q
  unfold mRange1 at e
  split at e
  · rename_i j e1 h1
    split at e
    · rename_i hj
      cases e
      refine ⟨C, env, O, _, _, R0, h1, fun vs H1 O1 R1 a => ?_⟩
      cases a with
      | cons z t =>
        cases t; cases z
        exact ⟨j, rfl, hj.1, hj.2, q _ H1 O1 R1 (walk_range 0 _)⟩
    · cases e
  · cases e
theorem si_range2 {X : Cx} {tg a b : Expr} {fs : FA} {p pos : Pos} (hg : Gl X "range") (hm : X.mg "range" = none) (ha : SA X [a, b] fs) (hs : starEach [a, b] X.env = [(false, eval a X.env), (false, eval b X.env)] := by rfl) (hs2 : starEach [b] X.env = [(false, eval b X.env)] := by rfl) : SI X tg (.Call (.Name "range" p) [a, b] [] pos) (mRange2 fs) := PI.imp (pi_range2 hg hm ha hs hs2) fun σ H R q => by
  obtain ⟨C, env, O, ds, env', R0, e, q⟩ := q
  unfold mRange2 at e
  split at e
  · rename_i i j e1 h1
    split at e
    · rename_i hj
      cases e
      refine ⟨C, env, O, _, _, R0, h1, fun vs H1 O1 R1 a => ?_⟩
      cases a with
      | cons z t =>
        cases t with
        | cons z2 t2 =>
          cases t2; cases z; cases z2
          exact ⟨i, j, rfl, hj, q _ H1 O1 R1 (walk_range i _)⟩
    · cases e
  · cases e
end Mir

/-! Mir 10: several targets, op=, chains, isinstance, reversed, module constants, defs with keywords. -/
namespace Mir
open PySem PySem.Spec PyProof.Rows L2

def slotOf (own : Bool) (r : Rv) : Option Sl := match own, r with
  | true, .l xs => some (.ow xs)
  | true, .d _ => none
  | false, r => some (.dt r.toD)
theorem par_step {K : Fr} {f : FE} {σ : L2.St} {H : Hp} {Q : VK} {C : Ctx} {env : MEnv} {O : Ow} {r : Rv} {e1 : MEnv} {own : Bool} {s : Sl} (i : Nat) (R : Rep K C env σ H O) (e : f env = some (r, e1)) (hs : slotOf own r = some s)
    (q : ∀ v H1 C1 O1, Rep K C1 e1 σ H1 O1 → (∀ env2 σ2 H2 O2, Rep K C1 env2 σ2 H2 O2 → ∃ O3, Rep K C (env2.set i s) (σ2.set i (some v)) H2 O3) → Q v H1) : teOf K f σ H Q := by
  cases own with
  | false =>
    cases hs
    refine te_run R e fun v H1 O1 P1 R1 d1 => q v H1 (C.pinAt (msk (C.m O1) H1)) O1 R1.pinned fun env2 σ2 H2 O2 R2 => ?_
    exact ⟨_, (R2.unpin R1.pin).setD (dp_mono R2.pin d1)⟩
  | true =>
    cases r with
    | d d => cases hs
    | l xs =>
      cases hs
      refine ⟨C, env, O, _, _, R, e, fun v H1 O1 p => ?_⟩
      obtain ⟨p, us, ep, np, hh, hp, R1, a1⟩ := p
      subst ep
      refine q (.ref p) H1 ((C.add p (.lst us)).pinAt (msk ((C.add p (.lst us)).m O1) H1)) O1 R1.pinned fun env2 σ2 H2 O2 R2 => ?_
      have R2' : Rep K (C.add p (.lst us)) env2 σ2 H2 O2 := R2.unpin R1.pin
      exact ⟨_, R2'.setO np (by rw [(R2'.frn p (.inr rfl)).1]; exact upd_same) (dps_mono R2.pin a1)⟩
abbrev Par := Nat × Bool × FE
def tAll (K : Fr) : List Par → TA
  | [] => tNil
  | p :: ps => tCons (teOf K p.2.2) (tAll K ps)
def evalPar : List Par → MEnv → Option (List Sl × MEnv)
  | [], env => some ([], env)
  | p :: ps, env => match p.2.2 env with
    | none => none
    | some (r, e1) => match slotOf p.2.1 r, evalPar ps e1 with
      | some s, some (ss, e2) => some (s :: ss, e2)
      | _, _ => none
def setAll : List Par → List Sl → MEnv → MEnv
  | p :: ps, s :: ss, env => (setAll ps ss env).set p.1 s
  | _, _, env => env
def setAllV : List Par → List V → L2.St → L2.St
  | p :: ps, v :: vs, σ => (setAllV ps vs σ).set p.1 (some v)
  | _, _, σ => σ
theorem par_all {K : Fr} {σ : L2.St} : ∀ (ps : List Par) {H : Hp} {Q : List V → Hp → Prop} {C : Ctx} {env : MEnv} {O : Ow} {ss : List Sl} {e' : MEnv}, Rep K C env σ H O → evalPar ps env = some (ss, e') →
    (∀ vs H1, vs.length = ps.length → (∃ O3, Rep K C (setAll ps ss e') (setAllV ps vs σ) H1 O3) → Q vs H1) → tAll K ps σ H Q
  | [], H, Q, C, env, O, ss, e', R, e, q => by
    cases e
    exact q [] H rfl ⟨O, R⟩
  | p :: ps, H, Q, C, env, O, ss, e', R, e, q => by
    unfold evalPar at e
    split at e
    · cases e
    · rename_i r e1 h1
      split at e
      · rename_i s ss' e2 hs h2
        cases e
        refine par_step p.1 R h1 hs fun v H1 C1 O1 R1 fin => par_all ps R1 h2 fun vs H2 hl ⟨O3, R3⟩ => ?_
        exact q (v :: vs) H2 (by rw [List.length_cons, List.length_cons, hl]) (fin _ _ _ _ R3)
      · cases e
def mPar (ps : List Par) : FS := fun env => match evalPar ps env with | some (ss, e) => some (.nx, setAll ps ss e) | none => none
section
variable {X : Cx}
theorem ss_par2 {i j : Nat} {s : Stmt} {o1 o2 : Bool} {f g : FE} (hij : i ≠ j) (h : PS X s (tPar i j (tAll X.K [(i, o1, f), (j, o2, g)]))) : SS X s (mPar [(i, o1, f), (j, o2, g)]) := PS.imp h fun Dn σ H q => by
  obtain ⟨C, env, O, fl, env', R, e, q⟩ := q
  unfold mPar at e
  split at e
  · rename_i ss e1 h1
    cases e
    refine par_all _ R h1 fun vs H1 hl ⟨O3, R3⟩ => ?_
    match vs, hl, R3 with
    | [v, w], _, R3 =>
      refine ⟨v, w, rfl, q _ H1 O3 ?_⟩
      rw [List.set_comm _ _ hij]
      exact R3
  · cases e
theorem ss_par3 {i j k : Nat} {s : Stmt} {o1 o2 o3 : Bool} {f g h : FE} (hij : i ≠ j) (hik : i ≠ k) (hjk : j ≠ k) (hp : PS X s (tPar3 i j k (tAll X.K [(i, o1, f), (j, o2, g), (k, o3, h)]))) : SS X s (mPar [(i, o1, f), (j, o2, g), (k, o3, h)]) := PS.imp hp fun Dn σ H q => by
  obtain ⟨C, env, O, fl, env', R, e, q⟩ := q
  unfold mPar at e
  split at e
  · rename_i ss e1 h1
    cases e
    refine par_all _ R h1 fun vs H1 hl ⟨O3, R3⟩ => ?_
    match vs, hl, R3 with
    | [u, v, w], _, R3 =>
      refine ⟨u, v, w, rfl, q _ H1 O3 ?_⟩
      rw [List.set_comm _ _ hij, List.set_comm _ _ hik, List.set_comm _ _ hjk]
      exact R3
  · cases e
/-- targets in a row, by a tuple that is made -/
def gNames : List Par → TGs
  | [] => gNil
  | p :: ps => gCons (gName p.1) (gNames ps)
def setFwd : List Par → List V → L2.St → L2.St
  | p :: ps, v :: vs, σ => setFwd ps vs (σ.set p.1 (some v))
  | _, _, σ => σ
theorem gNames_ok : ∀ (ps : List Par) (vs : List V) (σ : L2.St) (H : Hp) (Q : L2.St → Hp → Prop), vs.length = ps.length → Q (setFwd ps vs σ) H → gNames ps vs σ H Q
  | [], [], σ, H, Q, _, q => ⟨rfl, q⟩
  | p :: ps, v :: vs, σ, H, Q, hl, q => ⟨v, vs, rfl, gNames_ok ps vs _ H Q (by simpa using hl) q⟩
theorem setFwd_out : ∀ (ps : List Par) (vs : List V) (σ : L2.St) (i : Nat) (x : Option V), (∀ p ∈ ps, p.1 ≠ i) → setFwd ps vs (σ.set i x) = (setFwd ps vs σ).set i x
  | [], vs, σ, i, x, _ => by cases vs <;> rfl
  | p :: ps, [], σ, i, x, _ => rfl
  | p :: ps, v :: vs, σ, i, x, h => by
    show setFwd ps vs ((σ.set i x).set p.1 (some v)) = (setFwd ps vs (σ.set p.1 (some v))).set i x
    rw [List.set_comm _ _ (Ne.symm (h p (by simp))), setFwd_out ps vs _ i x fun q hq => h q (by simp [hq])]
theorem setFwd_eq : ∀ (ps : List Par) (vs : List V) (σ : L2.St), (ps.map (·.1)).Nodup → setFwd ps vs σ = setAllV ps vs σ
  | [], vs, σ, _ => by cases vs <;> rfl
  | p :: ps, [], σ, _ => rfl
  | p :: ps, v :: vs, σ, h => by
    have h := List.nodup_cons.mp h
    show setFwd ps vs (σ.set p.1 (some v)) = (setAllV ps vs σ).set p.1 (some v)
    rw [setFwd_out ps vs σ p.1 (some v) fun q hq e => h.1 (List.mem_map.mpr ⟨q, hq, e⟩), setFwd_eq ps vs σ h.2]
theorem ss_parN {s : Stmt} {ps : List Par} {n : Nat} (hn : ps.length = n) (hz : n ≤ 100) (hd : (ps.map (·.1)).Nodup) (h : PS X s (tAsg (tTup (tAll X.K ps)) (gTup X.K n (gNames ps)))) : SS X s (mPar ps) := PS.imp h fun Dn σ H q => by
  obtain ⟨C, env, O, fl, env', R, e, q⟩ := q
  unfold mPar at e
  split at e
  · rename_i ss e1 h1
    cases e
    refine par_all _ R h1 fun vs H1 hl ⟨O3, R3⟩ => ⟨Nat.le_trans (by omega : vs.length ≤ 100) (by decide), fun p np => ?_⟩
    refine ⟨p, vs, rfl, .inl (.inl upd_same), by omega, gNames_ok _ _ _ _ _ hl ?_⟩
    rw [setFwd_eq _ _ _ hd]
    exact q _ _ O3 (R3.grow (same_new np))
  · cases e
/-! x op= e -/
def mAug (i : Nat) (z : D → D → Option Rv) (f : FE) : FS := fun env => match env[i]?, f env with
  | some (.dt d), some (r, e1) => (match z d r.toD with | some s => some (.nx, e1.set i (.dt s.toD)) | none => none)
  | _, _ => none
theorem ss_aug {i : Nat} {s : Stmt} {z : D → D → Option Rv} {f : FE} (h : PS X s (tAug i (teOf X.K f) (rD2 X.K z))) : SS X s (mAug i z f) := PS.imp h fun Dn σ H q => by
  obtain ⟨C, env, O, fl, env', R, e, q⟩ := q
  unfold mAug at e
  split at e
  · rename_i x1 x2 d r e1 h0 h1
    split at e
    · rename_i s3 h3
      cases e
      obtain ⟨v, k1, k2⟩ := R.dt i d h0
      refine ⟨v, k1, te_run R h1 fun w H1 O1 P1 R1 d1 => ⟨C.m O1, d, _, _, R1.al, P1.keep k2, d1, h3, fun u H' s k => ?_⟩⟩
      exact q _ H' _ ((R1.grow s).setD (k.toD R1.al))
    · cases e
  · cases e
/-- int += int, text += text: as + -/
def iaddD : D → D → Option Rv
  | .int a, .int b => some (.d (.int (a + b)))
  | .str a, .str b => if a.length + b.length ≤ sizeLine then some (.d (.str (a ++ b))) else none
  | _, _ => none
theorem ip_addD : PIp X .Add (rD2 X.K iaddD) := by
  intro pins s σ H x y v u Q I rx ry h
  obtain ⟨m, d, e, r, al, hd, he, hz, q⟩ := h
  unfold iaddD at hz
  split at hz
  · cases hz; cases hd; cases he
    exact ip_add pins s σ H _ _ v u Q I rx ry ⟨_, _, rfl, rfl, q _ H (Same.refl _) (.int _)⟩
  · split at hz
    · rename_i hl
      cases hz; cases hd; cases he
      exact iop_add_str pins s σ H _ _ v u Q I rx ry ⟨_, _, rfl, rfl, hl, q _ H (Same.refl _) (.str _)⟩
    · cases hz
  · cases hz
theorem ip_subD : PIp X .Sub (rD2 X.K subD) := by
  intro pins s σ H x y v u Q I rx ry h
  obtain ⟨m, d, e, r, al, hd, he, hz, q⟩ := h
  unfold subD at hz
  split at hz
  · cases hz; cases hd; cases he
    exact ip_sub pins s σ H _ _ v u Q I rx ry ⟨_, _, rfl, rfl, q _ H (Same.refl _) (.int _)⟩
  · cases hz
/-! a < b < c -/
def mChain (z z' : D → D → Option Rv) (f g h : FE) : FE := fun env => match f env with
  | some (r1, e1) => (match g e1 with
    | some (r2, e2) => (match z r1.toD r2.toD with
      | some (.d (.bool true)) => (match h e2 with | some (r3, e3) => (match z' r2.toD r3.toD with | some w => some (w, e3) | none => none) | none => none)
      | some (.d (.bool false)) => some (.d (.bool false), e2)
      | _ => none)
    | none => none)
  | none => none
theorem te_chain {K : Fr} {f g h : FE} {r r' : R2} {z z' : D → D → Option Rv} (hr : ∀ x y H Q, rD2 K z x y H Q → r x y H Q) (hr' : ∀ x y H Q, rD2 K z' x y H Q → r' x y H Q) : ∀ σ H Q, teOf K (mChain z z' f g h) σ H Q → tChain r r' (teOf K f) (teOf K g) (teOf K h) σ H Q := fun σ H Q q => by
  obtain ⟨C, env, O, rr, env', R, e, q⟩ := q
  unfold mChain at e
  split at e
  · rename_i r1 e1 h1
    split at e
    · rename_i r2 e2 h2
      refine te_run R h1 fun v H1 O1 _ R1 d1 => te_run R1 h2 fun w H2 O2 P2 R2 d2 => ?_
      split at e
      · rename_i h3
        split at e
        · rename_i r3 e3 h4
          split at e
          · rename_i w' h5
            cases e
            refine hr _ _ _ _ ⟨C.m O2, _, _, _, R2.al, P2.keep d1, d2, h3, fun u H' s k => ?_⟩
            cases k
            refine ⟨true, rfl, ?_⟩
            rw [if_pos rfl]
            have R3 := R2.grow s
            refine te_run R3 h4 fun t H4 O4 P4 R4 d4 => hr' _ _ _ _ ⟨C.m O4, _, _, _, R4.al, P4.keep (dp_mono (msk_mono s) d2), d4, h5, fun u H' s k => q u H' O4 (R4.post s k)⟩
          · cases e
        · cases e
      · rename_i h3
        cases e
        refine hr _ _ _ _ ⟨C.m O2, _, _, _, R2.al, P2.keep d1, d2, h3, fun u H' s k => ?_⟩
        cases k
        refine ⟨false, rfl, ?_⟩
        rw [if_neg Bool.false_ne_true]
        exact q _ H' O2 ⟨R2.grow s, .bl false⟩
      · cases e
    · cases e
  · cases e
/-! isinstance(x, T) -/
def mIsa (g : D → Bool) (f : FE) : FE := fun env => match f env with | some (r, e) => some (.d (.bool (g r.toD)), e) | none => none
def rIsaT (K : Fr) (T : String) (g : D → Bool) : List V → Hp → VK → Prop := fun xs H Q => ∃ (x : V) (m : Addr → Prop) (d : D), xs = [x, .ty T] ∧ Dp K (msk m H) x d ∧ Q (.bl (g d)) H
theorem cr_isa {T : String} {g : D → Bool} (h : ∀ (prog : Program) (w : World) (A : Around) (E : Value → Shared → Prop) (s : Shared) (v : Value) (d : PyData) (as : List Addr) (Q : Value → Shared → Prop), Reads s.heap v d as → (∀ tk, s.toks ≤ tk → Q (.bool (g d)) { s with toks := tk }) → wpAny (model prog w) A (call (.builtin "isinstance") [v, .type T]) Q E s) : CallR X (.builtin "isinstance") (rIsaT X.K T g) := by
  intro pins s σ H xs us Q I r h'
  obtain ⟨x, m, d, rfl, hd, q⟩ := h'
  obtain ⟨u, w, rfl, r1, r2⟩ := vals2 r
  obtain ⟨as, rd⟩ := hd.rd I r1
  have r2 : w = Value.type T := r2
  subst r2
  exact h _ _ _ _ s u d as _ rd fun tk _ => ⟨.bl _, H, I.tok _, rfl, q⟩
theorem te_isa {K : Fr} {T : String} {g : D → Bool} {f : FE} : ∀ σ H Q, teOf K (mIsa g f) σ H Q → tCB (rIsaT K T g) (tCons (teOf K f) (tCons (tC (.ty T)) tNil)) σ H Q := fun σ H Q q => by
  obtain ⟨C, env, O, rr, env', R, e, q⟩ := q
  unfold mIsa at e
  split at e
  · rename_i r1 e1 h1
    cases e
    exact te_run R h1 fun v H1 O1 _ R1 d1 => ⟨v, C.m O1, _, rfl, d1, q _ H1 O1 ⟨R1, .bl _⟩⟩
  · cases e
theorem se_isa {T : String} {g : D → Bool} {e t : Expr} {f : FE} {p pos : Pos} (hc : CallR X (.builtin "isinstance") (rIsaT X.K T g)) (hg : Gl X "isinstance") (hm : X.mg "isinstance" = none) (hf : SE X e f) (ht : PE X t (tC (.ty T)))
    (he : starEach [e, t] X.env = (false, eval e X.env) :: starEach [t] X.env := by rfl) (he2 : starEach [t] X.env = (false, eval t X.env) :: starEach [] X.env := by rfl) (hpl : (backTo pos (starEach [t] X.env)).any (·.1) = false := by rfl) :
    SE X (.Call (.Name "isinstance" p) [e, t] [] pos) (mIsa g f) := PE.imp (pe_callB hc hg hm (by decide +kernel) (pa_cons hf (pa_cons ht pa_nil he2) he) (by decide) (by decide) he hpl) te_isa
end
end Mir

/-! Mir 11: list(reversed(xs)), tuple(reversed(xs)). -/
namespace Mir
open PySem PySem.Spec PyProof.Rows L2 RT
section
variable {prog : Program} {w : World} {A : Around} {E : Value → Shared → Prop} {s : Shared}
theorem extend_rev {R : Result → Shared → Prop} {it l : Addr} {items : Array Value} (hh : A.handled = none) (hit : s.heap.IsRevIter it l ((items.size : Int) - 1)) (hl : s.heap.IsList l items) (hne : l ≠ it) (hn : items.size ≤ sizeLine) (S : Addr) (res : Value) (c₀ : Nat)
    (hS : s.heap.get? S = some { cls := .type "list", data := .seq #[] c₀ }) (hSi : S ≠ it) (hSl : S ≠ l)
    (hR : ∀ h' tk acc' c', (∀ b o, b ≠ S → b ≠ it → s.heap.get? b = some o → h'.get? b = some o) → h'.get? S = some { cls := .type "list", dict := none, data := .seq acc' c', slots := #[] } →
      ItemsOf (fun i v => items[items.size - 1 - i]? = some v) acc' items.size → R (.ok (.ret res)) { s with heap := h', toks := tk }) :
    wpAny (model prog w) A.in1 (Builtin.List.listExtendWith (.ref S) (.ref it) res) (fun fin s' => match fin with | .done f => R (.ok f) s' | .again c' => c'.quiet = true ∧ codeAny (model prog w) A c' R s') (fun e s' => R (.error e) s') s := by
  have W := (Walks.listRev (prog := prog) (w := w) (A := A.in1) hh it l hne items).toS
  have hSf : S ∉ [it, l] := by simp only [List.mem_cons, List.not_mem_nil, or_false, not_or]; exact ⟨hSi, hSl⟩
  have hT : s.TypeIs (.ref it) "list_reverseiterator" := hit.typeIs
  have h1 : Builtin.List.listSameRef (.ref S) (.ref it) = false := by simp [Builtin.List.listSameRef, hSi]
  unfold Builtin.List.listExtendWith
  refine wpAny_bind (wpAny_typeOf hT ?_)
  rw [if_neg (by rw [h1]; decide)]
  refine wpAny_bind (wpAny_pyIter_revIter hit ?_)
  refine wpAny_bind (wpAny_holding ?_)
  unfold Builtin.List.listLengthHint
  refine wpAny_bind (wpAny_specialOf hT nolen_lri ?_)
  show wpAny _ A.in1 (specialOf (Value.ref it) (Str.ofString "__length_hint__") >>= _) _ _ s
  refine wpAny_bind (wpAny_specialOf hT hint_lri ?_)
  generalize hid : ("list_reverseiterator.__length_hint__" : String) = id0
  wp_delta
  rw [show splitId id0 = some ("list_reverseiterator", "__length_hint__") from by subst hid; decide +kernel]
  subst hid
  refine wpAny_bind (wpAny_isInstance (b := true) hT (by rw [isSubtype_type]; kernel_rfl) (wpAny_pure ?_))
  rw [if_neg (by decide)]
  have e0 : ((items.size : Nat) : Int) - 1 - ((0 : Nat) : Int) = (items.size : Int) - 1 := by omega
  refine wpAny_pure ⟨plainId_quiet F.plain_extend_loop _, codeAny_extend_loopS W hn _ hSf _ items.size 0 _ _ _ rfl (Nat.zero_le _) ⟨Nat.zero_le _, by rw [e0]; exact hit, hl⟩ hS (ItemsOf.nil _) fun s' acc' c' hm hS' hacc => ?_⟩
  rw [Moved.eq_with hm]
  refine hR s'.heap s'.toks acc' c' (fun b o hb hb2 e => hm.heap b o (fun hmem => ?_) e) hS' hacc
  rcases List.mem_cons.mp hmem with e' | hmem
  · exact hb e'
  · exact hb2 (List.mem_singleton.mp hmem)
theorem call_list_rev {Q : Value → Shared → Prop} {it l : Addr} {items : Array Value} (hh : A.handled = none) (hit : s.heap.IsRevIter it l ((items.size : Int) - 1)) (hl : s.heap.IsList l items) (hne : l ≠ it) (hn : items.size ≤ sizeLine)
    (hQ : ∀ h' tk acc' c', (∀ b o, b ≠ it → s.heap.get? b = some o → h'.get? b = some o) → h'.get? s.heap.objs.size = some { cls := .type "list", dict := none, data := .seq acc' c', slots := #[] } →
      ItemsOf (fun i v => items[items.size - 1 - i]? = some v) acc' items.size → Q (.ref s.heap.objs.size) { s with heap := h', toks := tk }) : wpAny (model prog w) A (call (.type "list") [.ref it]) Q E s := by
  obtain ⟨oi, hoi, _⟩ := id hit
  obtain ⟨ol, hol, _⟩ := id hl
  refine callType_codes (Q₁ := fun obj s₁ => obj = .ref s.heap.objs.size ∧ s₁ = { s with heap := s.heap.push { cls := .type "list", data := .seq #[] } }) F.called_list (F.typeCall_list_1 _) F.entry_list_init (code_list_new _ ⟨rfl, rfl⟩) fun obj s₁ h₁ => ?_
  obtain ⟨rfl, rfl⟩ := h₁
  have hS : (s.heap.push { cls := .type "list", data := .seq #[] }).get? s.heap.objs.size = some { cls := .type "list", data := .seq #[] } := Heap.get?_push_size _ rfl
  have hSi : s.heap.objs.size ≠ it := Nat.ne_of_gt (Heap.lt_size hoi)
  have hSl : s.heap.objs.size ≠ l := Nat.ne_of_gt (Heap.lt_size hol)
  refine ⟨⟨_, hS, rfl⟩, F.args_list_init_2 _ _, ?_⟩
  show wpAny _ _ (do let old ← Builtin.List.listItems (.ref s.heap.objs.size); Builtin.List.listUpdate (.ref s.heap.objs.size) (fun _ => #[]); letGo old.toList.reverse; Builtin.List.listExtendWith (.ref s.heap.objs.size) (.ref it) .none) _ _ _
  refine wpAny_bind ?_
  unfold Builtin.List.listItems
  refine wpAny_bind (wpAny_seqItems hS rfl (wpAny_pure ?_))
  show wpAny _ _ (updateSeq s.heap.objs.size (fun _ => #[]) >>= fun _ => letGo (#[] : Array Value).toList.reverse >>= fun _ => Builtin.List.listExtendWith (.ref s.heap.objs.size) (.ref it) .none) _ _ _
  refine wpAny_bind (wpAny_updateSeq hS rfl ?_)
  have hS₂ := Heap.get?_update_self (Obj.mapSeq (fun _ => (#[] : Array Value))) hS rfl
  have oth : ∀ b o, b ≠ s.heap.objs.size → s.heap.get? b = some o → ((s.heap.push { cls := .type "list", data := .seq #[] }).update s.heap.objs.size (Obj.mapSeq (fun _ => (#[] : Array Value)))).get? b = some o := fun b o hb e => (Heap.get?_update_other _ _ (Ne.symm hb)).trans (Heap.get?_push_of_some _ e)
  refine wpAny_bind (wpAny_letGo ?_)
  refine extend_rev (A := A.in1) hh (hit.at fun o e => oth it o (Ne.symm hSi) e) (hl.at fun o e => oth l o (Ne.symm hSl) e) hne hn _ .none _ hS₂ hSi hSl fun h' tk acc' c' hk hS' hacc => ?_
  exact ⟨rfl, hQ h' tk acc' c' (fun b o hb e => hk b o (Nat.ne_of_lt (Heap.lt_size e)) hb (oth b o (Nat.ne_of_lt (Heap.lt_size e)) e)) hS' hacc⟩
end
section
variable {X : Cx}
def tListRev (K : Fr) (te : TE) : TE := fun σ H Q => te σ H fun v H1 => ∃ (a : Addr) (xs : List V), v = .ref a ∧ SqL K H1 a xs ∧ ∀ q, H1 q = none → Q (.ref q) (upd H1 q (.lst xs.reverse))
theorem pe_listRev {e : Expr} {te : TE} {p p2 pos pos2 : Pos} (hc : X.calm = true) (hg : Gl X "list") (hm : X.mg "list" = none) (hg2 : Gl X "reversed") (hm2 : X.mg "reversed" = none) (he : PE X e te) (hs : starEach [e] X.env = (false, eval e X.env) :: starEach [] X.env := by rfl)
    (hs2 : starEach [.Call (.Name "reversed" p2) [e] [] pos2] X.env = (false, eval (.Call (.Name "reversed" p2) [e] [] pos2) X.env) :: starEach [] X.env := by rfl) : PE X (.Call (.Name "list" p) [.Call (.Name "reversed" p2) [e] [] pos2] [] pos) (tListRev X.K te) := by
  refine ⟨fun pins s σ H Q I h => Call_ (ld_blt I hg hm boot_list (callWith_type1 (args_cons (Call_ (ld_blt I hg2 hm2 boot_reversed (callWith_type1 (args_cons (thn (he.run pins s σ H _ I h) fun u s1 ⟨v, H1, I1, r1, q1⟩ => args_nil ?_) hs) hs rfl))) hs2) hs2 rfl))⟩
  obtain ⟨a, xs, ev, hq, q⟩ := q1
  subst ev
  obtain rfl : u = Value.ref a := r1
  obtain ⟨its, rv, p', hz⟩ := I1.list hq
  refine call_reversed_list p'.isList (args_nil ?_)
  have I2 : L2.Inv X pins σ H1 { s1 with heap := s1.heap.push (revObj a ((its.toArray.size : Int) - 1)) } := I1.kept (t' := s1.toks) fun b o e => Heap.get?_push_of_some _ e
  obtain ⟨f0, f1, f2, f3, f4, f5⟩ := I1.fpOk (H' := H1) (b := s1.heap.objs.size) (Nat.le_refl _) (I1.hok.fresh (Nat.le_refl _))
  obtain ⟨ol, hol, _⟩ := id p'.isList
  have hn : its.toArray.size ≤ sizeLine := by rw [List.size_toArray, ← rv.length]; exact hz
  refine call_list_rev (s := { s1 with heap := s1.heap.push (revObj a ((its.toArray.size : Int) - 1)) }) (I1.ok.hd hc) ⟨_, Heap.get?_push_size _ rfl, rfl, rfl⟩ (p'.isList.push _) (Nat.ne_of_lt (Heap.lt_size hol)) hn fun h' tk acc c' hk hS hi => ?_
  have hsz : (s1.heap.push (revObj a ((its.toArray.size : Int) - 1))).objs.size = s1.heap.objs.size + 1 := Heap.size_push ..
  have hn2 : s1.heap.objs.size + 1 ≤ (s1.heap.push (revObj a ((its.toArray.size : Int) - 1))).objs.size := Nat.le_of_eq hsz.symm
  have hfr : H1 (s1.heap.push (revObj a ((its.toArray.size : Int) - 1))).objs.size = none := I1.hok.fresh (by rw [hsz]; exact Nat.le_succ _)
  -- the iterator has moved, a list has come
  have I3 := I2.turnedNew (h' := h') (t' := tk) (ch := [s1.heap.objs.size]) (T := (s1.heap.push (revObj a ((its.toArray.size : Int) - 1))).objs.size) (ob := .lst xs.reverse) (fun b o hb e => hk b o (fun z => hb (by simp [z])) e)
    (fun b hb => by have e := List.mem_singleton.mp hb; subst e; exact ⟨f0, f1, f2, f3, f4, f5⟩) (Nat.le_refl _) ⟨by rw [List.length_reverse]; exact hz, acc.toList, c', vals_rev rv hi, by rw [Array.toArray_toList]; exact hS⟩
  exact ⟨.ref _, _, I3, rfl, q _ hfr⟩
def revLD : D → Option Rv
  | .list xs => some (.l xs.reverse)
  | _ => none
def revTD : D → Option Rv
  | .list xs => some (.d (.tuple xs.reverse))
  | _ => none
theorem se_listRev {e : Expr} {f : FE} {p p2 pos pos2 : Pos} (hc : X.calm = true) (hg : Gl X "list") (hm : X.mg "list" = none) (hg2 : Gl X "reversed") (hm2 : X.mg "reversed" = none) (he : SE X e f) (hs : starEach [e] X.env = (false, eval e X.env) :: starEach [] X.env := by rfl)
    (hs2 : starEach [.Call (.Name "reversed" p2) [e] [] pos2] X.env = (false, eval (.Call (.Name "reversed" p2) [e] [] pos2) X.env) :: starEach [] X.env := by rfl) : SE X (.Call (.Name "list" p) [.Call (.Name "reversed" p2) [e] [] pos2] [] pos) (m1 revLD f) :=
  PE.imp (pe_listRev hc hg hm hg2 hm2 he hs hs2) (te_un (r := fun v H1 Q => ∃ (a : Addr) (xs : List V), v = .ref a ∧ SqL X.K H1 a xs ∧ ∀ q, H1 q = none → Q (.ref q) (upd H1 q (.lst xs.reverse))) fun x H Q h => by
    obtain ⟨m, d, r, al, hd, hz, q⟩ := h
    unfold revLD at hz
    split at hz
    · cases hz
      cases hd with
      | lst h a => exact ⟨_, _, rfl, (sql_mono msk_sub h), fun p n => q _ _ (same_new n) (rv_new n (dps_rev a))⟩
    · cases hz)
theorem se_tupRev {e : Expr} {f : FE} {p p2 pos pos2 : Pos} (hc : X.calm = true) (hg : Gl X "tuple") (hm : X.mg "tuple" = none) (hg2 : Gl X "reversed") (hm2 : X.mg "reversed" = none) (he : SE X e f) (hs : starEach [e] X.env = (false, eval e X.env) :: starEach [] X.env := by rfl)
    (hs2 : starEach [.Call (.Name "reversed" p2) [e] [] pos2] X.env = (false, eval (.Call (.Name "reversed" p2) [e] [] pos2) X.env) :: starEach [] X.env := by rfl) : SE X (.Call (.Name "tuple" p) [.Call (.Name "reversed" p2) [e] [] pos2] [] pos) (m1 revTD f) :=
  PE.imp (pe_tupRev hc hg hm hg2 hm2 he hs hs2) (te_un (r := fun v H1 Q => ∃ (a : Addr) (xs : List V), v = .ref a ∧ SqL X.K H1 a xs ∧ ∀ q, H1 q = none → Q (.ref q) (upd H1 q (.tup xs.reverse))) fun x H Q h => by
    obtain ⟨m, d, r, al, hd, hz, q⟩ := h
    unfold revTD at hz
    split at hz
    · cases hz
      cases hd with
      | lst h a => exact ⟨_, _, rfl, (sql_mono msk_sub h), fun p n => q _ _ (same_new n) (dp_newT al n (dps_rev a))⟩
    · cases hz)
end
end Mir

/-! Mir 12: tests by comparison, and/or tests, comprehensions to names, defs with no promise, the law's start. -/
namespace Mir
open PySem L2
theorem tt_bool {K : Fr} {f : FE} {σ : L2.St} {H : Hp} {Q : Bool → Hp → Prop} (q : ttOf K (tBool f) σ H Q) : teOf K f σ H fun x H' => ∃ k, x = .bl k ∧ Q k H' := by
  obtain ⟨C, env, O, b, env', R, e, q⟩ := q
  unfold tBool at e
  split at e
  · rename_i b' e1 h1
    cases e
    refine ⟨C, env, O, _, _, R, h1, fun v H' O' p => ?_⟩
    obtain ⟨p1, p2⟩ := p
    cases p2
    exact ⟨b, rfl, q H' O' p1⟩
  · cases e
section
variable {X : Cx}
theorem st_cmp {a b : Expr} {op : CmpOp} {pos : Pos} {f g : FE} {z : D → D → Option Rv} (ho : OpR X (compareOp op) (rD2 X.K z)) (ha : SE X a f) (hb : SE X b g) (hm : behindInMarks op b = false) : ST X (.Compare a [op] [b] pos) (tBool (m2 z f g)) :=
  PT.imp (pt_cmpR ho ha hb hm) fun σ H Q q => te_op (fun _ _ _ _ h => h) σ H _ (tt_bool q)
theorem st_chain {a b c : Expr} {op op' : CmpOp} {pos : Pos} {f g h : FE} {z z' : D → D → Option Rv} (ho : OpR X (compareOp op) (rD2 X.K z)) (ho' : OpR X (compareOp op') (rD2 X.K z')) (ha : SE X a f) (hb : SE X b g) (hc : SE X c h)
    (hm : lastMarks [op, op'] [b, c] = false := by with_unfolding_all rfl) : ST X (.Compare a [op, op'] [b, c] pos) (tBool (mChain z z' f g h)) :=
  PT.imp (pt_chain ho ho' ha hb hc hm) fun σ H Q q => te_chain (fun _ _ _ _ h => h) (fun _ _ _ _ h => h) σ H _ (tt_bool q)
theorem sw_and1 {a : Expr} {pos : Pos} {f : FT} (ha : ST X a f) : SW X (.BoolOp .And [a] pos) f := pw_and1 ha
theorem sw_or1 {a : Expr} {pos : Pos} {f : FT} (ha : ST X a f) : SW X (.BoolOp .Or [a] pos) f := pw_or1 ha
theorem sw_and {a b : Expr} {rest : List Expr} {pos : Pos} {f g : FT} (ha : ST X a f) (hb : SW X (.BoolOp .And (b :: rest) pos) g) : SW X (.BoolOp .And (a :: b :: rest) pos) (tAnd' f g) := PW.imp (pw_and ha hb) tt_and
theorem sw_or {a b : Expr} {rest : List Expr} {pos : Pos} {f g : FT} (ha : ST X a f) (hb : SW X (.BoolOp .Or (b :: rest) pos) g) : SW X (.BoolOp .Or (a :: b :: rest) pos) (tOr' f g) := PW.imp (pw_or ha hb) tt_or
theorem hu128 {k : Nat} {A : Around} (r : Room k A) : A.units + 128 < cLine := by have := r.un; omega
theorem ss_setLc {i : Nat} {st : Stmt} {te : TE} {f : FE} (h : PS X st (tAsg te (gName i))) (hi : ∀ σ H Q, teOf X.K f σ H Q → te σ H Q) : SS X st (mSet i f) :=
  PS.imp h fun Dn σ H q => hi σ H _ (ts_set Dn σ H q)
theorem ss_ownLc {i : Nat} {st : Stmt} {te : TE} {f : FE} (h : PS X st (tAsg te (gName i))) (hi : ∀ σ H Q, teOf X.K f σ H Q → te σ H Q) : SS X st (mOwn i f) :=
  PS.imp h fun Dn σ H q => hi σ H _ (ts_own Dn σ H q)
end
section
variable {P : Program} {w : World} {K : Fr} {mg : Str → Option Value} {base : Heap}
theorem fn_pureNo {f : Addr} {fd : FuncData} {ps : List Str} : FnOk P w K mg base CX0 0 f fd ps (spP K ps.length fun _ => none) :=
  ⟨fun vs H Q E h => h.1, fun A outer s H args us vs Q E hr he hb hv hs => by
    obtain ⟨_, _, _, _, _, _, h, _⟩ := hs
    cases h⟩
theorem fn_boxNo {f : Addr} {fd : FuncData} {ps : List Str} : FnOk P w K mg base CX0 0 f fd ps (spB K ps.length fun _ _ => none) :=
  ⟨fun vs H Q E h => by obtain ⟨p, ws, rfl, h, _⟩ := h; exact h, fun A outer s H args us vs Q E hr he hb hv hs => by
    obtain ⟨p, ws, _, _, m, _, _, _, _, _, _, _, _, _, _, h, _⟩ := hs
    cases h⟩
end
theorem law_start {K : Fr} {H : Hp} {a : Addr} {ns : List Int} {n : Nat} {Z : List D → Option Rv} {E : XK} (h : ∀ ns : List Int, ns.length ≤ n → Z [.list (ns.map .int)] = some (.d (.bool true))) (hl : ns.length ≤ n) (hS : SqL K H a (ns.map V.int)) :
    spP K 1 Z [.ref a] H (fun v _ => v = .bl true) E :=
  ⟨rfl, fun _ => False, [.list (ns.map .int)], .d (.bool true), fun _ z => z.elim, .cons (.lst (sql_mono (fun a o h => by rw [msk_no id]; exact h) hS) (dps_of_ints ns)) .nil, h ns hl, fun v H' _ hv => by cases hv; rfl⟩
end Mir

/-! Mir 13: what a function of data gives, by what must hold behind it. -/
namespace Mir
open PySem L2
def wX {α : Type} (o : Option (α × MEnv)) (P : α → MEnv → Prop) : Prop := ∃ r e, o = some (r, e) ∧ P r e
def wE (f : FE) (env : MEnv) (P : Rv → MEnv → Prop) : Prop := wX (f env) P
def wT (f : FT) (env : MEnv) (P : Bool → MEnv → Prop) : Prop := wX (f env) P
def wA (f : FA) (env : MEnv) (P : List D → MEnv → Prop) : Prop := wX (f env) P
def wS (f : FS) (env : MEnv) (P : Fl → MEnv → Prop) : Prop := wX (f env) P
def wU (u : UG) (d : D) (env : MEnv) (P : MEnv → Prop) : Prop := ∃ e, u d env = some e ∧ P e
def wUs (u : UGs) (d : List D) (env : MEnv) (P : MEnv → Prop) : Prop := ∃ e, u d env = some e ∧ P e
def wO (f : FO) (env : MEnv) (P : Option Int → MEnv → Prop) : Prop := wX (f env) P
theorem wX_none {α : Type} {P : α → MEnv → Prop} : wX none P ↔ False := ⟨fun ⟨_, _, e, _⟩ => (by cases e), False.elim⟩
theorem wX_some {α : Type} {r : α} {e : MEnv} {P : α → MEnv → Prop} : wX (some (r, e)) P ↔ P r e := ⟨fun ⟨_, _, q, h⟩ => by cases q; exact h, fun h => ⟨_, _, rfl, h⟩⟩
/-- an operation's answer -/
def wR (o : Option Rv) (P : Rv → Prop) : Prop := ∃ r, o = some r ∧ P r
def wB (o : Option (Rv × List D)) (P : Rv → List D → Prop) : Prop := ∃ r ys, o = some (r, ys) ∧ P r ys
theorem wR_none {P : Rv → Prop} : wR none P ↔ False := ⟨fun ⟨_, e, _⟩ => (by cases e), False.elim⟩
theorem wR_some {r : Rv} {P : Rv → Prop} : wR (some r) P ↔ P r := ⟨fun ⟨_, e, h⟩ => by cases e; exact h, fun h => ⟨r, rfl, h⟩⟩
theorem wB_some {r : Rv} {ys : List D} {P : Rv → List D → Prop} : wB (some (r, ys)) P ↔ P r ys := ⟨fun ⟨_, _, e, h⟩ => by cases e; exact h, fun h => ⟨r, ys, rfl, h⟩⟩
def mFrz (i : Nat) (g : FS) : FS := fun env => g (frzE env i)
section
variable {env : MEnv} {P : Rv → MEnv → Prop} {PT : Bool → MEnv → Prop} {PA : List D → MEnv → Prop} {PS : Fl → MEnv → Prop} {PU : MEnv → Prop} {PO : Option Int → MEnv → Prop}
theorem wE_var {i : Nat} : wE (mVar i) env P ↔ ∃ d, env[i]? = some (.dt d) ∧ P (.d d) env := by
  unfold wE mVar
  constructor
  · rintro ⟨r, e, h, p⟩
    split at h
    · cases h; exact ⟨_, by assumption, p⟩
    · cases h
  · rintro ⟨d, h, p⟩
    exact ⟨_, _, by rw [h], p⟩
theorem wE_c {d : D} : wE (mC d) env P ↔ P (.d d) env := ⟨fun ⟨_, _, e, h⟩ => by cases e; exact h, fun h => ⟨_, _, rfl, h⟩⟩
theorem wE_1 {g : D → Option Rv} {f : FE} : wE (m1 g f) env P ↔ wE f env fun r e => wR (g r.toD) fun z => P z e := by
  unfold wE m1
  cases f env with
  | none => simp only [wX_none, wX_some, wR_none, wR_some]
  | some p0 =>
    obtain ⟨r, e⟩ := p0
    simp only [wX_none, wX_some, wR_none, wR_some]
    cases g r.toD with
    | none => simp only [wX_none, wX_some, wR_none, wR_some]
    | some z => simp only [wX_none, wX_some, wR_none, wR_some]
theorem wE_2 {g : D → D → Option Rv} {f h : FE} : wE (m2 g f h) env P ↔ wE f env fun r e => wE h e fun s e2 => wR (g r.toD s.toD) fun z => P z e2 := by
  unfold wE m2
  cases f env with
  | none => simp only [wX_none, wX_some, wR_none, wR_some]
  | some p0 =>
    obtain ⟨r, e⟩ := p0
    simp only [wX_none, wX_some, wR_none, wR_some]
    cases h e with
    | none => simp only [wX_none, wX_some, wR_none, wR_some]
    | some p1 =>
      obtain ⟨s, e2⟩ := p1
      simp only [wX_none, wX_some, wR_none, wR_some]
      cases g r.toD s.toD with
      | none => simp only [wX_none, wX_some, wR_none, wR_some]
      | some z => simp only [wX_none, wX_some, wR_none, wR_some]
theorem wA_nil : wA mNil env PA ↔ PA [] env := ⟨fun ⟨_, _, e, h⟩ => by cases e; exact h, fun h => ⟨_, _, rfl, h⟩⟩
theorem wA_cons {f : FE} {g : FA} : wA (mCons f g) env PA ↔ wE f env fun r e => wA g e fun ds e2 => PA (r.toD :: ds) e2 := by
  unfold wA wE mCons
  cases f env with
  | none => simp only [wX_none, wX_some, wR_none, wR_some]
  | some p =>
    obtain ⟨r, e⟩ := p
    simp only [wX_none, wX_some, wR_none, wR_some]
    cases g e with
    | none => simp only [wX_none, wX_some, wR_none, wR_some]
    | some q =>
      obtain ⟨s, e2⟩ := q
      simp only [wX_none, wX_some, wR_none, wR_some]
theorem wE_A {g : List D → Option Rv} {f : FA} : wE (mA g f) env P ↔ wA f env fun ds e => wR (g ds) fun z => P z e := by
  unfold wE wA mA
  cases f env with
  | none => simp only [wX_none, wX_some, wR_none, wR_some]
  | some p0 =>
    obtain ⟨r, e⟩ := p0
    simp only [wX_none, wX_some, wR_none, wR_some]
    cases g r with
    | none => simp only [wX_none, wX_some, wR_none, wR_some]
    | some z => simp only [wX_none, wX_some, wR_none, wR_some]
theorem wT_bool {f : FE} : wT (tBool f) env PT ↔ wE f env fun r e => ∃ b, r = .d (.bool b) ∧ PT b e := by
  unfold wE wT tBool
  constructor
  · rintro ⟨b, e, h, p⟩
    split at h
    · cases h; exact ⟨_, _, by assumption, _, rfl, p⟩
    · cases h
  · rintro ⟨r, e, h, b, rfl, p⟩
    exact ⟨_, _, by rw [h], p⟩
theorem wT_yes : wT tYes' env PT ↔ PT true env := ⟨fun ⟨_, _, e, h⟩ => by cases e; exact h, fun h => ⟨_, _, rfl, h⟩⟩
theorem wT_not {f : FT} : wT (tNot' f) env PT ↔ wT f env fun b e => PT (!b) e := by
  unfold wT tNot'
  cases f env with
  | none => simp only [wX_none, wX_some, wR_none, wR_some]
  | some p =>
    obtain ⟨r, e⟩ := p
    simp only [wX_none, wX_some, wR_none, wR_some]
theorem wT_and {f g : FT} : wT (tAnd' f g) env PT ↔ wT f env fun b e => (b = true → wT g e PT) ∧ (b = false → PT false e) := by
  unfold wT tAnd'
  cases f env with
  | none => simp only [wX_none]
  | some p =>
    obtain ⟨b, e⟩ := p
    cases b <;> simp [wX_some]
theorem wT_or {f g : FT} : wT (tOr' f g) env PT ↔ wT f env fun b e => (b = true → PT true e) ∧ (b = false → wT g e PT) := by
  unfold wT tOr'
  cases f env with
  | none => simp only [wX_none]
  | some p =>
    obtain ⟨b, e⟩ := p
    cases b <;> simp [wX_some]
theorem wE_ofT {f : FT} : wE (mOfT f) env P ↔ wT f env fun b e => P (.d (.bool b)) e := by
  unfold wE wT mOfT
  cases f env with
  | none => simp only [wX_none, wX_some, wR_none, wR_some]
  | some p =>
    obtain ⟨r, e⟩ := p
    simp only [wX_none, wX_some, wR_none, wR_some]
theorem wE_if {t : FT} {f g : FE} : wE (mIf t f g) env P ↔ wT t env fun b e => (b = true → wE f e P) ∧ (b = false → wE g e P) := by
  unfold wE wT mIf
  cases t env with
  | none => simp only [wX_none]
  | some p =>
    obtain ⟨b, e⟩ := p
    cases b <;> simp [wX_some]
theorem wE_chain {z z' : D → D → Option Rv} {f g h : FE} : wE (mChain z z' f g h) env P ↔ wE f env fun r1 e1 => wE g e1 fun r2 e2 => wR (z r1.toD r2.toD) fun q => ∃ b, q = .d (.bool b) ∧ (b = true → wE h e2 fun r3 e3 => wR (z' r2.toD r3.toD) fun w => P w e3) ∧ (b = false → P (.d (.bool false)) e2) := by
  constructor
  · rintro ⟨rr, ee, hh, pp⟩
    unfold mChain at hh
    split at hh
    · split at hh
      · split at hh
        · rename_i hz
          refine ⟨_, _, by assumption, _, _, by assumption, _, hz, true, rfl, fun _ => ?_, fun z => by cases z⟩
          split at hh
          · split at hh
            · cases hh; exact ⟨_, _, by assumption, _, by assumption, pp⟩
            · cases hh
          · cases hh
        · rename_i hz
          cases hh
          exact ⟨_, _, by assumption, _, _, by assumption, _, hz, false, rfl, (fun z => by cases z), fun _ => pp⟩
        · cases hh
      · cases hh
    · cases hh
  · rintro ⟨_, _, h1, _, _, h2, q, hz, b, rfl, h3, h4⟩
    unfold wE mChain
    rw [h1]
    simp only [h2, hz]
    cases b with
    | false => exact ⟨_, _, rfl, h4 rfl⟩
    | true =>
      obtain ⟨t, e3, h5, w, h6, h7⟩ := h3 rfl
      exact ⟨_, _, by simp only [h5, h6], h7⟩
theorem wO_no : wO fNo env PO ↔ PO none env := ⟨fun ⟨_, _, e, h⟩ => by cases e; exact h, fun h => ⟨_, _, rfl, h⟩⟩
theorem wO_part {f : FE} : wO (fPart f) env PO ↔ wE f env fun r e => ∃ i, r = .d (.int i) ∧ PO (some i) e := by
  unfold wO wE fPart
  constructor
  · rintro ⟨b, e, h, p⟩
    split at h
    · cases h; exact ⟨_, _, by assumption, _, rfl, p⟩
    · cases h
  · rintro ⟨r, e, h, b, rfl, p⟩
    exact ⟨_, _, by rw [h], p⟩
theorem wE_sl {f : FE} {lo hi : FO} : wE (mSl f lo hi) env P ↔ wE f env fun r e1 => wO lo e1 fun l e2 => wO hi e2 fun h e3 => wR (slD r.toD l h) fun z => P z e3 := by
  unfold wE wO mSl
  cases f env with
  | none => simp only [wX_none]
  | some p =>
    obtain ⟨r, e⟩ := p
    simp only [wX_some]
    cases lo e with
    | none => simp only [wX_none]
    | some q =>
      obtain ⟨l, e2⟩ := q
      simp only [wX_some]
      cases hi e2 with
      | none => simp only [wX_none]
      | some q =>
        obtain ⟨h, e3⟩ := q
        simp only [wX_some]
        cases slD r.toD l h with
        | none => simp only [wX_none, wR_none]
        | some z => simp only [wX_some, wR_some]
theorem wE_isa {g : D → Bool} {f : FE} : wE (mIsa g f) env P ↔ wE f env fun r e => P (.d (.bool (g r.toD))) e := by
  unfold wE mIsa
  cases f env with
  | none => simp only [wX_none, wX_some, wR_none, wR_some]
  | some p =>
    obtain ⟨r, e⟩ := p
    simp only [wX_none, wX_some, wR_none, wR_some]
/-! own lists -/
theorem wE_ownLen {i : Nat} : wE (mOwnLen i) env P ↔ ∃ xs, ownAt env i = some xs ∧ P (.d (.int xs.length)) env := by
  unfold wE mOwnLen
  cases ownAt env i with
  | none => simp [wX_none]
  | some p => simp [wX_some]
theorem wE_ownIx {i : Nat} {f : FE} : wE (mOwnIx i f) env P ↔ (∃ zs, ownAt env i = some zs) ∧ wE f env fun r e => ∃ j xs d, r = .d (.int j) ∧ ownAt e i = some xs ∧ atI xs j = some d ∧ P (.d d) e := by
  unfold wE mOwnIx
  constructor
  · rintro ⟨r, e, h, p⟩
    split at h
    · rename_i h0 h1
      split at h
      · rename_i h2
        split at h
        · rename_i h3
          cases h
          exact ⟨⟨_, by assumption⟩, _, _, by assumption, _, _, _, rfl, h2, h3, p⟩
        · cases h
      · cases h
    · cases h
  · rintro ⟨⟨zs, h0⟩, r, e, h1, j, xs, d, rfl, h2, h3, p⟩
    exact ⟨_, _, by rw [h0, h1]; simp only [h2, h3], p⟩
theorem wE_app {i : Nat} {f : FE} : wE (mApp i f) env P ↔ (∃ zs, ownAt env i = some zs) ∧ wE f env fun r e => ∃ xs, ownAt e i = some xs ∧ xs.length < sizeLine ∧ P (.d .none) (putOwn e i (xs ++ [r.toD])) := by
  unfold wE mApp
  constructor
  · rintro ⟨r, e, h, p⟩
    split at h
    · split at h
      · split at h
        · cases h
          exact ⟨⟨_, by assumption⟩, _, _, by assumption, _, by assumption, by assumption, p⟩
        · cases h
      · cases h
    · cases h
  · rintro ⟨⟨zs, h0⟩, r, e, h1, xs, h2, h3, p⟩
    exact ⟨_, _, by rw [h0, h1]; simp only [h2, if_pos h3], p⟩
theorem wE_rev {i : Nat} : wE (mRev i) env P ↔ ∃ xs, ownAt env i = some xs ∧ P (.d .none) (putOwn env i xs.reverse) := by
  unfold wE mRev
  cases ownAt env i with
  | none => simp [wX_none]
  | some p => simp [wX_some]
theorem wE_popAt {i : Nat} {f : FE} : wE (mPopAt i f) env P ↔ (∃ zs, ownAt env i = some zs) ∧ wE f env fun r e => ∃ j xs k d, r = .d (.int j) ∧ ownAt e i = some xs ∧ (-(2 ^ 63) ≤ j ∧ j < 2 ^ 63) ∧ seqIndex? j xs.length = some k ∧ xs[k]? = some d ∧ P (.d d) (putOwn e i (xs.eraseIdx k)) := by
  unfold wE mPopAt
  constructor
  · rintro ⟨r, e, h, p⟩
    split at h
    · split at h
      · split at h
        · split at h
          · split at h
            · cases h
              exact ⟨⟨_, by assumption⟩, _, _, by assumption, _, _, _, _, rfl, by assumption, by assumption, by assumption, by assumption, p⟩
            · cases h
          · cases h
        · cases h
      · cases h
    · cases h
  · rintro ⟨⟨zs, h0⟩, r, e, h1, j, xs, k, d, rfl, h2, h3, h4, h5, p⟩
    exact ⟨_, _, by rw [h0, h1]; simp only [h2, if_pos h3, h4, h5], p⟩
theorem wE_pop {i : Nat} : wE (mPop i) env P ↔ ∃ xs d, ownAt env i = some xs ∧ xs[xs.length - 1]? = some d ∧ P (.d d) (putOwn env i xs.dropLast) := by
  unfold wE mPop
  constructor
  · rintro ⟨r, e, h, p⟩
    split at h
    · split at h
      · cases h; exact ⟨_, _, by assumption, by assumption, p⟩
      · cases h
    · cases h
  · rintro ⟨xs, d, h1, h2, p⟩
    exact ⟨_, _, by rw [h1]; simp only [h2], p⟩
theorem wS_putIx {i : Nat} {f g : FE} : wS (mPutIx i f g) env PS ↔ wE f env fun r e1 => (∃ zs, ownAt e1 i = some zs) ∧ wE g e1 fun q e2 => ∃ j xs k, q = .d (.int j) ∧ ownAt e2 i = some xs ∧ ixN xs.length j = some k ∧ PS .nx (putOwn e2 i (xs.set k r.toD)) := by
  unfold wS wE mPutIx
  constructor
  · rintro ⟨r, e, h, p⟩
    split at h
    · cases h
    · split at h
      · split at h
        · split at h
          · cases h
            exact ⟨_, _, by assumption, ⟨_, by assumption⟩, _, _, by assumption, _, _, _, rfl, by assumption, by assumption, p⟩
          · cases h
        · cases h
      · cases h
  · rintro ⟨r, e, h0, ⟨zs, h1⟩, q, e2, h2, j, xs, k, rfl, h3, h4, p⟩
    exact ⟨_, _, by rw [h0]; simp only [h1, h2, h3, h4], p⟩
theorem wE_box {i : Nat} {z : ZB} {fs : FA} : wE (mBox i z fs) env P ↔ (∃ zs, ownAt env i = some zs) ∧ wA fs env fun ds e => ∃ xs, ownAt e i = some xs ∧ wB (z xs ds) fun r ys => P r (putOwn e i ys) := by
  unfold wE wA mBox wB
  constructor
  · rintro ⟨r, e, h, p⟩
    split at h
    · split at h
      · split at h
        · cases h
          exact ⟨⟨_, by assumption⟩, _, _, by assumption, _, by assumption, _, _, by assumption, p⟩
        · cases h
      · cases h
    · cases h
  · rintro ⟨⟨zs, h0⟩, ds, e, h1, xs, h2, r, ys, h3, p⟩
    exact ⟨_, _, by rw [h0, h1]; simp only [h2, h3], p⟩
theorem wE_boxNew {f : FE} {z : ZB} {fs : FA} : wE (mBoxNew f z fs) env P ↔ wE f env fun r e1 => ∃ xs, r = .l xs ∧ wA fs e1 fun ds e2 => wB (z xs ds) fun r ys => P (.d r.toD) e2 := by
  unfold wE wA mBoxNew wB
  constructor
  · rintro ⟨r, e, h, p⟩
    split at h
    · split at h
      · split at h
        · cases h
          exact ⟨_, _, by assumption, _, rfl, _, _, by assumption, _, _, by assumption, p⟩
        · cases h
      · cases h
    · cases h
  · rintro ⟨r, e, h0, xs, rfl, ds, e2, h1, q, ys, h2, p⟩
    exact ⟨_, _, by rw [h0]; simp only [h1, h2], p⟩
/-! statements -/
def seqK (g : FS) (PS : Fl → MEnv → Prop) : Fl → MEnv → Prop
  | .nx, e => wS g e PS
  | .bk, e => PS .bk e
  | .ct, e => PS .ct e
  | .rt r, e => PS (.rt r) e
theorem wS_seq {f g : FS} : wS (mSeq f g) env PS ↔ wS f env (seqK g PS) := by
  unfold wS mSeq
  cases f env with
  | none => simp only [wX_none]
  | some p =>
    obtain ⟨fl, e⟩ := p
    cases fl <;> simp only [seqK, wX_some, wS]
theorem wS_nx : wS mNx env PS ↔ PS .nx env := ⟨fun ⟨_, _, e, h⟩ => by cases e; exact h, fun h => ⟨_, _, rfl, h⟩⟩
theorem wS_ct : wS mCt env PS ↔ PS .ct env := ⟨fun ⟨_, _, e, h⟩ => by cases e; exact h, fun h => ⟨_, _, rfl, h⟩⟩
theorem wS_bk : wS mBk env PS ↔ PS .bk env := ⟨fun ⟨_, _, e, h⟩ => by cases e; exact h, fun h => ⟨_, _, rfl, h⟩⟩
theorem wS_set {i : Nat} {f : FE} : wS (mSet i f) env PS ↔ wE f env fun r e => PS .nx (e.set i (.dt r.toD)) := by
  unfold wS wE mSet
  cases f env with
  | none => simp only [wX_none, wX_some, wR_none, wR_some]
  | some p =>
    obtain ⟨r, e⟩ := p
    simp only [wX_none, wX_some, wR_none, wR_some]
theorem wS_own {i : Nat} {f : FE} : wS (mOwn i f) env PS ↔ wE f env fun r e => ∃ xs, r = .l xs ∧ PS .nx (e.set i (.ow xs)) := by
  unfold wS wE mOwn
  constructor
  · rintro ⟨r, e, h, p⟩
    split at h
    · cases h; exact ⟨_, _, by assumption, _, rfl, p⟩
    · cases h
  · rintro ⟨r, e, h, xs, rfl, p⟩
    exact ⟨_, _, by rw [h], p⟩
theorem wS_ret {f : FE} : wS (mRet f) env PS ↔ wE f env fun r e => PS (.rt r) e := by
  unfold wS wE mRet
  cases f env with
  | none => simp only [wX_none, wX_some, wR_none, wR_some]
  | some p =>
    obtain ⟨r, e⟩ := p
    simp only [wX_none, wX_some, wR_none, wR_some]
theorem wS_drop {f : FE} : wS (mDrop f) env PS ↔ wE f env fun r e => PS .nx e := by
  unfold wS wE mDrop
  cases f env with
  | none => simp only [wX_none, wX_some, wR_none, wR_some]
  | some p =>
    obtain ⟨r, e⟩ := p
    simp only [wX_none, wX_some, wR_none, wR_some]
theorem wS_if {t : FT} {f g : FS} : wS (mIfS t f g) env PS ↔ wT t env fun b e => (b = true → wS f e PS) ∧ (b = false → wS g e PS) := by
  unfold wS wT mIfS
  cases t env with
  | none => simp only [wX_none]
  | some p =>
    obtain ⟨b, e⟩ := p
    cases b <;> simp [wX_some]
theorem wS_retO {i : Nat} : wS (mRetO i) env PS ↔ ∃ xs, env[i]? = some (.ow xs) ∧ PS (.rt (.l xs)) (env.set i .un) := by
  unfold wS mRetO
  constructor
  · rintro ⟨r, e, h, p⟩
    split at h
    · cases h; exact ⟨_, by assumption, p⟩
    · cases h
  · rintro ⟨xs, h, p⟩
    exact ⟨_, _, by rw [h], p⟩
theorem wS_frz {g : FS} {i : Nat} : wS (mFrz i g) env PS ↔ wS g (frzE env i) PS := Iff.rfl
theorem wS_asg {u : UG} {f : FE} : wS (mAsg u f) env PS ↔ wE f env fun r e => wU u r.toD e fun e2 => PS .nx e2 := by
  unfold wS wE wU mAsg
  cases f env with
  | none => simp only [wX_none]
  | some p =>
    obtain ⟨r, e⟩ := p
    simp only [wX_some]
    cases u r.toD e with
    | none => simp [wX_none]
    | some z => simp [wX_some]
theorem wU_name {i : Nat} {d : D} : wU (uName i) d env PU ↔ PU (env.set i (.dt d)) := ⟨fun ⟨_, e, h⟩ => by cases e; exact h, fun h => ⟨_, rfl, h⟩⟩
theorem wUs_nil : wUs uNil [] env PU ↔ PU env := ⟨fun ⟨_, e, h⟩ => by cases e; exact h, fun h => ⟨_, rfl, h⟩⟩
theorem wUs_cons {u : UG} {us : UGs} {d : D} {ds : List D} : wUs (uCons u us) (d :: ds) env PU ↔ wU u d env fun e => wUs us ds e PU := by
  unfold wUs wU uCons
  simp only
  cases u d env with
  | none => simp
  | some e => simp
theorem wU_tup {n : Nat} {us : UGs} {ds : List D} (h : ds.length = n) : wU (uTup n us) (.tuple ds) env PU ↔ wUs us ds env PU := by
  unfold wU wUs uTup
  simp only [if_pos h]
theorem wU_lst {n : Nat} {us : UGs} {ds : List D} (h : ds.length = n) : wU (uTup n us) (.list ds) env PU ↔ wUs us ds env PU := by
  unfold wU wUs uTup
  simp only [if_pos h]
theorem wU_lst2 {us : UGs} {a b : D} : wU (uTup 2 us) (.list [a, b]) env PU ↔ wUs us [a, b] env PU := wU_lst rfl
theorem wU_lst3 {us : UGs} {a b c : D} : wU (uTup 3 us) (.list [a, b, c]) env PU ↔ wUs us [a, b, c] env PU := wU_lst rfl
theorem wU_tup2 {us : UGs} {a b : D} : wU (uTup 2 us) (.tuple [a, b]) env PU ↔ wUs us [a, b] env PU := wU_tup rfl
theorem wU_tup3 {us : UGs} {a b c : D} : wU (uTup 3 us) (.tuple [a, b, c]) env PU ↔ wUs us [a, b, c] env PU := wU_tup rfl
def wPar (ps : List Par) (env : MEnv) (k : List Sl → MEnv → Prop) : Prop := ∃ ss e, evalPar ps env = some (ss, e) ∧ k ss e
theorem wPar_nil {k : List Sl → MEnv → Prop} : wPar [] env k ↔ k [] env := ⟨fun ⟨_, _, e, h⟩ => by cases e; exact h, fun h => ⟨_, _, rfl, h⟩⟩
theorem wPar_cons {i : Nat} {o : Bool} {f : FE} {ps : List Par} {k : List Sl → MEnv → Prop} : wPar ((i, o, f) :: ps) env k ↔ wE f env fun r e1 => ∃ s, slotOf o r = some s ∧ wPar ps e1 fun ss e2 => k (s :: ss) e2 := by
  unfold wPar wE
  rw [evalPar]
  simp only
  cases f env with
  | none => simp [wX_none]
  | some p =>
    obtain ⟨r, e⟩ := p
    simp only [wX_some]
    cases slotOf o r with
    | none => simp
    | some s =>
      cases evalPar ps e with
      | none => simp
      | some q =>
        obtain ⟨ss, e2⟩ := q
        simp
        constructor
        · rintro ⟨_, _, ⟨rfl, rfl⟩, h⟩
          exact ⟨_, _, ⟨rfl, rfl⟩, h⟩
        · rintro ⟨_, _, ⟨rfl, rfl⟩, h⟩
          exact ⟨_, _, ⟨rfl, rfl⟩, h⟩
theorem wS_par {ps : List Par} : wS (mPar ps) env PS ↔ wPar ps env fun ss e => PS .nx (setAll ps ss e) := by
  unfold wS wPar mPar
  cases evalPar ps env with
  | none => simp [wX_none]
  | some p =>
    obtain ⟨ss, e⟩ := p
    simp only [wX_some]
    constructor
    · exact fun h => ⟨_, _, rfl, h⟩
    · rintro ⟨_, _, h, p⟩
      cases h
      exact p
theorem wS_aug {i : Nat} {z : D → D → Option Rv} {f : FE} : wS (mAug i z f) env PS ↔ ∃ d, env[i]? = some (.dt d) ∧ wE f env fun r e => wR (z d r.toD) fun s => PS .nx (e.set i (.dt s.toD)) := by
  unfold wS wE wR mAug
  constructor
  · rintro ⟨r, e, h, p⟩
    split at h
    · split at h
      · cases h; exact ⟨_, by assumption, _, _, by assumption, _, by assumption, p⟩
      · cases h
    · cases h
  · rintro ⟨d, h0, r, e, h1, s, h2, p⟩
    exact ⟨_, _, by rw [h0, h1]; simp only [h2], p⟩
/-- if t: return d -/
def mGuard (t : FT) (d : D) (g : FS) : FS := mSeq (mIfS t (mRet (mC d)) mNx) g
theorem w_guard {t : FT} {d : D} {g : FS} (h : wT t env fun b e => b = false ∧ e = env) (k : wS g env PS) : wS (mGuard t d g) env PS := by
  unfold mGuard
  rw [wS_seq, wS_if]
  obtain ⟨b, e, h1, h2, h3⟩ := h
  subst h2 h3
  refine ⟨false, e, h1, fun z => (by cases z), fun _ => ?_⟩
  rw [wS_nx]
  exact k
/-! sources of loops -/
theorem wA_zip2 {fs : FA} : wA (mZip2 fs) env PA ↔ wA fs env fun ds e => ∃ a b xs ys, ds = [a, b] ∧ srcD a = some xs ∧ srcD b = some ys ∧ PA (zipD2 xs ys) e := by
  unfold wA mZip2
  constructor
  · rintro ⟨r, e, h, p⟩
    split at h
    · split at h
      · cases h; exact ⟨_, _, by assumption, _, _, _, _, rfl, by assumption, by assumption, p⟩
      · cases h
    · cases h
  · rintro ⟨ds, e, h0, a, b, xs, ys, rfl, h1, h2, p⟩
    exact ⟨_, _, by rw [h0]; simp only [h1, h2], p⟩
theorem wA_zip3 {fs : FA} : wA (mZip3 fs) env PA ↔ wA fs env fun ds e => ∃ a b c xs ys zs, ds = [a, b, c] ∧ srcD a = some xs ∧ srcD b = some ys ∧ srcD c = some zs ∧ PA (zipD3 xs ys zs) e := by
  unfold wA mZip3
  constructor
  · rintro ⟨r, e, h, p⟩
    split at h
    · split at h
      · cases h; exact ⟨_, _, by assumption, _, _, _, _, _, _, rfl, by assumption, by assumption, by assumption, p⟩
      · cases h
    · cases h
  · rintro ⟨ds, e, h0, a, b, c, xs, ys, zs, rfl, h1, h2, h3, p⟩
    exact ⟨_, _, by rw [h0]; simp only [h1, h2, h3], p⟩
theorem wA_seqIt {f : FE} : wA (mSeqIt f) env PA ↔ wE f env fun r e => ∃ xs, srcD r.toD = some xs ∧ PA xs e := by
  unfold wA wE mSeqIt
  cases f env with
  | none => simp only [wX_none]
  | some p =>
    obtain ⟨r, e⟩ := p
    simp only [wX_some]
    cases srcD r.toD with
    | none => simp [wX_none]
    | some z => simp [wX_some]
theorem wA_range1 {fs : FA} : wA (mRange1 fs) env PA ↔ wA fs env fun ds e => ∃ j, ds = [.int j] ∧ (-(2 ^ 62) ≤ j ∧ j < 2 ^ 62) ∧ PA (rangeD 0 j.toNat) e := by
  unfold wA mRange1
  constructor
  · rintro ⟨r, e, h, p⟩
    split at h
    · split at h
      · cases h; exact ⟨_, _, by assumption, _, rfl, by assumption, p⟩
      · cases h
    · cases h
  · rintro ⟨ds, e, h0, j, rfl, h1, p⟩
    exact ⟨_, _, by rw [h0]; simp only [if_pos h1], p⟩
theorem wA_range2 {fs : FA} : wA (mRange2 fs) env PA ↔ wA fs env fun ds e => ∃ i j, ds = [.int i, .int j] ∧ (-(2 ^ 62) ≤ i ∧ i < 2 ^ 62 ∧ -(2 ^ 62) ≤ j ∧ j < 2 ^ 62) ∧ PA (rangeD i (j - i).toNat) e := by
  unfold wA mRange2
  constructor
  · rintro ⟨r, e, h, p⟩
    split at h
    · split at h
      · cases h; exact ⟨_, _, by assumption, _, _, rfl, by assumption, p⟩
      · cases h
    · cases h
  · rintro ⟨ds, e, h0, i, j, rfl, h1, p⟩
    exact ⟨_, _, by rw [h0]; simp only [if_pos h1], p⟩
theorem wA_enum {fs : FA} : wA (mEnum fs) env PA ↔ wA fs env fun ds e => ∃ d xs, ds = [d] ∧ srcD d = some xs ∧ PA (enumD 0 xs) e := by
  unfold wA mEnum
  constructor
  · rintro ⟨r, e, h, p⟩
    split at h
    · split at h
      · cases h; exact ⟨_, _, by assumption, _, _, rfl, by assumption, p⟩
      · cases h
    · cases h
  · rintro ⟨ds, e, h0, d, xs, rfl, h1, p⟩
    exact ⟨_, _, by rw [h0]; simp only [h1], p⟩
/-! loops -/
def lpK (N : MEnv → Prop) (PS : Fl → MEnv → Prop) : Fl → MEnv → Prop
  | .nx, e => N e
  | .ct, e => N e
  | .bk, e => PS .nx e
  | .rt r, e => PS (.rt r) e
theorem loop_inv {u : UG} {body : FS} {α : Type} (k : α → D) (Inv : Nat → MEnv → Prop) {zs : List α} (step : ∀ i z e, zs[i]? = some z → Inv i e → wU u (k z) e fun e1 => wS body e1 (lpK (Inv (i + 1)) PS)) (fin : ∀ e, Inv zs.length e → PS .nx e) :
    ∀ (n : Nat) (i : Nat) (e : MEnv), i + n = zs.length → Inv i e → ∃ r e', loopF u body ((zs.drop i).map k) e = some (r, e') ∧ PS r e'
  | 0, i, e, h, inv => by
    rw [List.drop_eq_nil_of_le (by omega)]
    exact ⟨_, _, rfl, fin e (by have : i = zs.length := by omega
                                rw [← this]; exact inv)⟩
  | n + 1, i, e, h, inv => by
    have hi : i < zs.length := by omega
    rw [List.drop_eq_getElem_cons hi, List.map_cons, loopF]
    obtain ⟨e1, h1, fl, e2, h2, p⟩ := step i zs[i] e (List.getElem?_eq_getElem hi) inv
    simp only [h1, h2]
    cases fl with
    | nx => exact loop_inv k Inv step fin n (i + 1) e2 (by omega) p
    | ct => exact loop_inv k Inv step fin n (i + 1) e2 (by omega) p
    | bk => exact ⟨_, _, rfl, p⟩
    | rt r => exact ⟨_, _, rfl, p⟩
theorem wS_for {src : FA} {u : UG} {body : FS} : wS (mFor src u body) env PS ↔ wA src env fun ds e => ∃ r e', loopF u body ds e = some (r, e') ∧ PS r e' := by
  unfold wS wA mFor
  cases src env with
  | none => simp only [wX_none]
  | some p =>
    obtain ⟨r, e⟩ := p
    simp only [wX_some]
    rfl
theorem lp_inv {u : UG} {body : FS} {α : Type} {zs : List α} (k : α → D) (Inv : Nat → MEnv → Prop) {e : MEnv} (h0 : Inv 0 e) (step : ∀ i z e, zs[i]? = some z → Inv i e → wU u (k z) e fun e1 => wS body e1 (lpK (Inv (i + 1)) PS)) (fin : ∀ e, Inv zs.length e → PS .nx e) :
    ∃ r e', loopF u body (zs.map k) e = some (r, e') ∧ PS r e' := by
  have := loop_inv k Inv step fin zs.length 0 e (by omega) h0
  rwa [List.drop_zero] at this
/-! comprehensions -/
theorem wipe_len (env : MEnv) (vs : List Nat) : (wipeE env vs).length = env.length := wipeE_len env vs
theorem wipe_out {env : MEnv} : ∀ {vs : List Nat} {i : Nat}, i ∉ vs → (wipeE env vs)[i]? = env[i]?
  | [], _, _ => rfl
  | v :: vs, i, h => by
    rw [wipeE, get_set_ne (fun e => h (by simp [e])), wipe_out (fun z => h (by simp [z]))]
theorem back_wipe {env : MEnv} {vs : List Nat} : backE env (wipeE env vs) vs = env := by
  unfold backE
  apply List.ext_getElem?
  intro i
  rw [List.getElem?_map, wipe_len]
  by_cases hi : i < env.length
  · rw [List.getElem?_range hi]
    simp only [Option.map_some]
    split
    · rw [List.getD_eq_getElem?_getD, List.getElem?_eq_getElem hi]; rfl
    · rename_i h
      rw [List.getD_eq_getElem?_getD, wipe_out h, List.getElem?_eq_getElem hi]; rfl
  · rw [List.getElem?_eq_none (by simpa using hi), List.getElem?_eq_none (by omega)]; rfl
theorem loopC_map {vs : List Nat} {u : UG} {t : FT} {f : FE} {α : Type} {k : α → D} {p : α → Bool} {g : α → D} {e : MEnv} : ∀ {zs : List α},
    (∀ z ∈ zs, wU u (k z) e fun e1 => wT t e1 fun b e2 => b = p z ∧ wipeE e2 vs = e ∧ (b = true → wE f e2 fun r e3 => r.toD = g z ∧ wipeE e3 vs = e)) → loopC vs u t f (zs.map k) e = some ((zs.filter p).map g, e)
  | [], _ => rfl
  | z :: zs, h => by
    have ih := loopC_map (zs := zs) fun y hy => h y (List.mem_cons_of_mem _ hy)
    obtain ⟨e1, h1, b, e2, h2, hb, hw, hf⟩ := h z (List.mem_cons_self ..)
    rw [List.map_cons, loopC]
    simp only [h1, h2]
    cases b with
    | false =>
      simp only
      rw [hw, ih, List.filter_cons_of_neg (by rw [← hb]; decide)]
    | true =>
      obtain ⟨r, e3, h3, hg, hw3⟩ := hf rfl
      simp only [h3]
      rw [hw3, ih]
      simp only
      rw [List.filter_cons_of_pos (by rw [← hb]), List.map_cons, hg]
theorem wE_lc {src : FA} {vs : List Nat} {u : UG} {t : FT} {f : FE} {α : Type} {zs : List α} (k : α → D) (p : α → Bool) (g : α → D) (h : wA src env fun ds e => ds = zs.map k ∧ plainAt e vs = true ∧ zs.length ≤ sizeLine ∧
    (∀ z ∈ zs, wU u (k z) (wipeE e vs) fun e1 => wT t e1 fun b e2 => b = p z ∧ wipeE e2 vs = wipeE e vs ∧ (b = true → wE f e2 fun r e3 => r.toD = g z ∧ wipeE e3 vs = wipeE e vs)) ∧ P (.l ((zs.filter p).map g)) e) : wE (mLc src vs u t f) env P := by
  obtain ⟨ds, e, h0, rfl, h1, h2, h3, h4⟩ := h
  refine ⟨.l ((zs.filter p).map g), e, ?_, h4⟩
  unfold mLc
  rw [h0]
  simp only
  rw [if_pos ⟨h1, by simpa using h2⟩, loopC_map h3]
  simp only [back_wipe]
theorem loopC_inv {vs : List Nat} {u : UG} {f : FE} {α : Type} {k : α → D} {Inv : Nat → List D → MEnv → Prop} {zs : List α} (step : ∀ i z acc e, zs[i]? = some z → Inv i acc e → wU u (k z) e fun e2 => wE f e2 fun r e3 => Inv (i + 1) (acc ++ [r.toD]) (wipeE e3 vs)) :
    ∀ (n i : Nat) (acc : List D) (e : MEnv), i + n = zs.length → Inv i acc e → ∃ xs e', loopC vs u tYes' f ((zs.drop i).map k) e = some (xs, e') ∧ Inv zs.length (acc ++ xs) e'
  | 0, i, acc, e, h, inv => by
    rw [List.drop_eq_nil_of_le (by omega)]
    refine ⟨[], e, rfl, ?_⟩
    rw [List.append_nil, show zs.length = i by omega]
    exact inv
  | n + 1, i, acc, e, h, inv => by
    have hi : i < zs.length := by omega
    rw [List.drop_eq_getElem_cons hi, List.map_cons, loopC]
    obtain ⟨e1, h1, r, e2, h2, p⟩ := step i zs[i] acc e (List.getElem?_eq_getElem hi) inv
    obtain ⟨xs, e', h3, h4⟩ := loopC_inv step n (i + 1) _ _ (by omega) p
    refine ⟨r.toD :: xs, e', ?_, ?_⟩
    · simp only [h1, tYes', h2, h3]
    · rw [List.append_assoc] at h4
      exact h4
theorem wE_lcInv {src : FA} {vs : List Nat} {u : UG} {f : FE} {α : Type} {zs : List α} (k : α → D) (Inv : Nat → List D → MEnv → Prop) (h : wA src env fun ds e => ds = zs.map k ∧ plainAt e vs = true ∧ zs.length ≤ sizeLine ∧ Inv 0 [] (wipeE e vs) ∧
    (∀ i z acc e1, zs[i]? = some z → Inv i acc e1 → wU u (k z) e1 fun e2 => wE f e2 fun r e3 => Inv (i + 1) (acc ++ [r.toD]) (wipeE e3 vs)) ∧ (∀ acc e', Inv zs.length acc e' → P (.l acc) (backE e e' vs))) : wE (mLc src vs u tYes' f) env P := by
  obtain ⟨ds, e, h0, rfl, h1, h2, h3, h4, h5⟩ := h
  obtain ⟨xs, e', h6, h7⟩ := loopC_inv h4 zs.length 0 [] _ (by omega) h3
  rw [List.nil_append] at h7
  rw [List.drop_zero] at h6
  refine ⟨.l xs, backE e e' vs, ?_, h5 xs e' h7⟩
  unfold mLc
  rw [h0]
  simp only
  rw [if_pos ⟨h1, by simpa using h2⟩, h6]
theorem filter_all {α : Type} (zs : List α) : zs.filter (fun _ => true) = zs := List.filter_eq_self.mpr fun _ _ => rfl
theorem wE_lc1 {src : FA} {vs : List Nat} {u : UG} {f : FE} {α : Type} {zs : List α} (k : α → D) (g : α → D) (h : wA src env fun ds e => ds = zs.map k ∧ plainAt e vs = true ∧ zs.length ≤ sizeLine ∧
    (∀ z ∈ zs, wU u (k z) (wipeE e vs) fun e1 => wipeE e1 vs = wipeE e vs ∧ wE f e1 fun r e3 => r.toD = g z ∧ wipeE e3 vs = wipeE e vs) ∧ P (.l (zs.map g)) e) : wE (mLc src vs u tYes' f) env P := by
  refine wE_lc (zs := zs) k (fun _ => true) g ?_
  obtain ⟨ds, e, h0, h5, h1, h2, h3, h4⟩ := h
  refine ⟨ds, e, h0, h5, h1, h2, fun z hz => ?_, by rw [filter_all]; exact h4⟩
  obtain ⟨e1, q1, q2, q3⟩ := h3 z hz
  exact ⟨e1, q1, _, _, rfl, rfl, q2, fun _ => q3⟩
end
/-! defs -/
def rtK (P : Rv → Prop) : Fl → MEnv → Prop
  | .rt r, _ => P r
  | .nx, _ => P (.d .none)
  | _, _ => False
theorem wR_run {np n : Nat} {g : FS} {ds : List D} {P : Rv → Prop} (hl : ds.length = np) (h : wS g (startE n ds) (rtK P)) : wR (runP np n g ds) P := by
  obtain ⟨fl, e, h1, h2⟩ := h
  unfold wR runP
  rw [if_pos hl, h1]
  cases fl with
  | rt r => exact ⟨_, rfl, h2⟩
  | nx => exact ⟨_, rfl, h2⟩
  | bk => exact h2.elim
  | ct => exact h2.elim
def rbK (P : Rv → List D → Prop) : Fl → MEnv → Prop
  | .rt r, e => ∃ ys, boAt e = some ys ∧ P r ys
  | .nx, e => ∃ ys, boAt e = some ys ∧ P (.d .none) ys
  | _, _ => False
theorem wB_run {np n : Nat} {g : FS} {xs ds : List D} {P : Rv → List D → Prop} (hl : ds.length + 1 = np) (h : wS g (startB n xs ds) (rbK P)) : wB (runB np n g xs ds) P := by
  obtain ⟨fl, e, h1, h2⟩ := h
  unfold wB runB
  rw [if_pos hl, h1]
  cases fl with
  | rt r => obtain ⟨ys, h3, h4⟩ := h2; simp only [h3]; exact ⟨_, _, rfl, h4⟩
  | nx => obtain ⟨ys, h3, h4⟩ := h2; simp only [h3]; exact ⟨_, _, rfl, h4⟩
  | bk => exact h2.elim
  | ct => exact h2.elim
theorem wR_mono {o : Option Rv} {P Q : Rv → Prop} (h : wR o P) (i : ∀ r, P r → Q r) : wR o Q := let ⟨r, e, p⟩ := h; ⟨r, e, i r p⟩
theorem wB_mono {o : Option (Rv × List D)} {P Q : Rv → List D → Prop} (h : wB o P) (i : ∀ r ys, P r ys → Q r ys) : wB o Q := let ⟨r, ys, e, p⟩ := h; ⟨r, ys, e, i r ys p⟩
theorem wR_eq {o : Option Rv} {r : Rv} (h : wR o fun x => x = r) : o = some r := let ⟨_, e, p⟩ := h; p ▸ e
end Mir

/-! Mir 14: operations on data, by what they give. -/
namespace Mir
open PySem L2
theorem toD_d {x : D} : (Rv.d x).toD = x := rfl
theorem toD_l {x : List D} : (Rv.l x).toD = .list x := rfl
theorem wR_ite {c : Prop} [Decidable c] {o : Option Rv} {P : Rv → Prop} : wR (if c then o else none) P ↔ c ∧ wR o P := by
  by_cases h : c
  · rw [if_pos h]; exact ⟨fun z => ⟨h, z⟩, fun z => z.2⟩
  · rw [if_neg h, wR_none]; exact ⟨False.elim, fun z => h z.1⟩
theorem f1_one {g : D → Option Rv} {d : D} : f1 g [d] = g d := rfl
theorem f2_two {g : D → D → Option Rv} {d e : D} : f2 g [d, e] = g d e := rfl
theorem add_i {a b : Int} : addD (.int a) (.int b) = some (.d (.int (a + b))) := rfl
theorem add_l {a b : List D} : addD (.list a) (.list b) = if a.length + b.length ≤ sizeLine then some (.l (a ++ b)) else none := rfl
theorem add_t {a b : List D} : addD (.tuple a) (.tuple b) = if a.length + b.length ≤ sizeLine then some (.d (.tuple (a ++ b))) else none := rfl
theorem iadd_i {a b : Int} : iaddD (.int a) (.int b) = some (.d (.int (a + b))) := rfl
theorem sub_i {a b : Int} : subD (.int a) (.int b) = some (.d (.int (a - b))) := rfl
theorem mul_i {a b : Int} : mulD (.int a) (.int b) = if mulOk a b = true then some (.d (.int (a * b))) else none := rfl
theorem mul_l {a : List D} {k : Int} : mulD (.list a) (.int k) = if -(2 ^ 63) ≤ k ∧ k < 2 ^ 63 ∧ a.length * k.toNat ≤ sizeLine then some (.l (List.replicate k.toNat a).flatten) else none := rfl
theorem mod_i {a b : Int} : modD (.int a) (.int b) = if 0 < b then some (.d (.int (a % b))) else none := rfl
theorem fdiv_i {a b : Int} : fdivD (.int a) (.int b) = if 0 < b ∧ b.natAbs.log2 < 9000 then some (.d (.int (a / b))) else none := rfl
theorem pow_i {a b : Int} : powD (.int a) (.int b) = if 0 ≤ b ∧ b ≤ 1000000 ∧ a.natAbs < 2 ^ 64 then some (.d (.int (a ^ b.toNat))) else none := rfl
theorem neg_i {a : Int} : negD (.int a) = some (.d (.int (-a))) := rfl
theorem len_l {xs : List D} : lenD (.list xs) = some (.d (.int xs.length)) := rfl
theorem len_t {xs : List D} : lenD (.tuple xs) = some (.d (.int xs.length)) := rfl
theorem abs_i {a : Int} : absD (.int a) = some (.d (.int (if a < 0 then -a else a))) := rfl
theorem max2_i {a b : Int} : max2D (.int a) (.int b) = some (.d (.int (if b > a then b else a))) := rfl
theorem min2_i {a b : Int} : min2D (.int a) (.int b) = some (.d (.int (if b < a then b else a))) := rfl
theorem int_i {a : Int} : intD (.int a) = some (.d (.int a)) := rfl
theorem int_b {b : Bool} : intD (.bool b) = some (.d (.int (if b then 1 else 0))) := rfl
theorem list_l {xs : List D} : listD (.list xs) = some (.l xs) := rfl
theorem list_t {xs : List D} : listD (.tuple xs) = some (.l xs) := rfl
theorem tuple_l {xs : List D} : tupleD (.list xs) = some (.d (.tuple xs)) := rfl
theorem tuple_t {xs : List D} : tupleD (.tuple xs) = some (.d (.tuple xs)) := rfl
theorem lt_i {a b : Int} : ltD (.int a) (.int b) = some (.d (.bool (decide (a < b)))) := rfl
theorem le_i {a b : Int} : leD (.int a) (.int b) = some (.d (.bool (decide (a ≤ b)))) := rfl
theorem gt_i {a b : Int} : gtD (.int a) (.int b) = some (.d (.bool (decide (b < a)))) := rfl
theorem ge_i {a b : Int} : geD (.int a) (.int b) = some (.d (.bool (decide (b ≤ a)))) := rfl
theorem sl_l {xs : List D} {l h : Option Int} : slD (.list xs) l h = some (.l (cutL xs l h)) := rfl
theorem sl_t {xs : List D} {l h : Option Int} : slD (.tuple xs) l h = some (.d (.tuple (cutL xs l h))) := rfl
theorem src_l {xs : List D} : srcD (.list xs) = some xs := rfl
theorem src_t {xs : List D} : srcD (.tuple xs) = some xs := rfl
theorem revL_l {xs : List D} : revLD (.list xs) = some (.l xs.reverse) := rfl
theorem revT_l {xs : List D} : revTD (.list xs) = some (.d (.tuple xs.reverse)) := rfl
theorem slot_f {r : Rv} : slotOf false r = some (.dt r.toD) := rfl
theorem slot_l {xs : List D} : slotOf true (.l xs) = some (.ow xs) := rfl
theorem ix_l {xs : List D} {j : Int} {P : Rv → Prop} : wR (ixD (.list xs) (.int j)) P ↔ ∃ d, atI xs j = some d ∧ P (.d d) := by
  show wR (match atI xs j with | some d => some (.d d) | none => none) P ↔ _
  cases atI xs j with
  | none => simp [wR_none]
  | some d => simp [wR_some]
theorem ix_t {xs : List D} {j : Int} {P : Rv → Prop} : wR (ixD (.tuple xs) (.int j)) P ↔ ∃ d, atI xs j = some d ∧ P (.d d) := by
  show wR (match atI xs j with | some d => some (.d d) | none => none) P ↔ _
  cases atI xs j with
  | none => simp [wR_none]
  | some d => simp [wR_some]
theorem atI_nat {α : Type} {xs : List α} {j : Int} (h0 : 0 ≤ j) (h1 : j < xs.length) : ∃ x, atI xs j = some x ∧ xs[j.toNat]? = some x := by
  have hl : j.toNat < xs.length := by omega
  refine ⟨xs[j.toNat], ?_, List.getElem?_eq_getElem hl⟩
  unfold atI ixN
  rw [if_pos h0, if_pos h1]
  exact List.getElem?_eq_getElem hl
theorem atI_mem {α : Type} {xs : List α} {j : Int} (h0 : 0 ≤ j) (h1 : j < xs.length) : ∃ x, atI xs j = some x ∧ x ∈ xs := by
  obtain ⟨x, e1, e2⟩ := atI_nat h0 h1
  exact ⟨x, e1, List.mem_of_getElem? e2⟩
theorem atI_last {α : Type} {xs : List α} {x : α} : atI (xs ++ [x]) (-1) = some x := by
  unfold atI ixN
  rw [if_neg (by omega), if_pos (by simp; omega)]
  simp only [Option.bind_some, List.length_append, List.length_singleton]
  rw [show (-1 + ((xs.length + 1 : Nat) : Int)).toNat = xs.length by omega]
  simp
theorem atI_map {α β : Type} {f : α → β} {xs : List α} {j : Int} : atI (xs.map f) j = (atI xs j).map f := by
  unfold atI
  rw [List.length_map]
  cases ixN xs.length j with
  | none => rfl
  | some k => simp
theorem eqv_i {a b : Int} : PyData.eqv (.int a) (.int b) = decide (a = b) := by
  by_cases h : a = b
  · rw [decide_eq_true h]; simp [PyData.eqv, h]
  · rw [decide_eq_false h]; simp [PyData.eqv, h]
theorem eq_i {a b : Int} : eqD (.int a) (.int b) = some (.d (.bool (decide (a = b)))) := by
  unfold eqD; rw [if_pos (by simp [PyData.depth]), eqv_i]
theorem ne_i {a b : Int} : neD (.int a) (.int b) = some (.d (.bool (!decide (a = b)))) := by
  unfold neD; rw [if_pos (by simp [PyData.depth]), eqv_i]
theorem eqv_b {a b : Bool} : PyData.eqv (.bool a) (.bool b) = (a == b) := by cases a <;> cases b <;> simp [PyData.eqv]
theorem eq_b {a b : Bool} : eqD (.bool a) (.bool b) = some (.d (.bool (a == b))) := by
  unfold eqD; rw [if_pos (by simp [PyData.depth]), eqv_b]
theorem ne_b {a b : Bool} : neD (.bool a) (.bool b) = some (.d (.bool (!(a == b)))) := by
  unfold neD; rw [if_pos (by simp [PyData.depth]), eqv_b]
theorem eqv_s {a b : Str} : PyData.eqv (.str a) (.str b) = decide (a = b) := by
  by_cases h : a = b
  · rw [decide_eq_true h]; simp [PyData.eqv, h]
  · rw [decide_eq_false h]; simp [PyData.eqv, h]
theorem eq_s {a b : Str} : eqD (.str a) (.str b) = some (.d (.bool (decide (a = b)))) := by
  unfold eqD; rw [if_pos (by simp [PyData.depth]), eqv_s]
theorem ne_s {a b : Str} : neD (.str a) (.str b) = some (.d (.bool (!decide (a = b)))) := by
  unfold neD; rw [if_pos (by simp [PyData.depth]), eqv_s]
theorem eqvAll_I : ∀ a b : List Int, PyData.eqvAll (a.map .int) (b.map .int) = decide (a = b)
  | [], [] => rfl
  | [], _ :: _ => by simp [PyData.eqvAll]
  | _ :: _, [] => by simp [PyData.eqvAll]
  | x :: a, y :: b => by
    rw [List.map_cons, List.map_cons, PyData.eqvAll, eqv_i, eqvAll_I a b]
    by_cases h : x = y <;> simp [h]
theorem depth_tI (a : List Int) : (PyData.tuple (a.map .int)).depth ≤ 100 := by
  have := depth_ints a
  simp only [PyData.depth]
  omega
theorem depth_lI (a : List Int) : (PyData.list (a.map .int)).depth ≤ 100 := by
  have := depth_ints a
  simp only [PyData.depth]
  omega
theorem eq_tI {a b : List Int} : eqD (.tuple (a.map .int)) (.tuple (b.map .int)) = some (.d (.bool (decide (a = b)))) := by
  unfold eqD; rw [if_pos (depth_tI a), PyData.eqv, eqvAll_I]
theorem ne_tI {a b : List Int} : neD (.tuple (a.map .int)) (.tuple (b.map .int)) = some (.d (.bool (!decide (a = b)))) := by
  unfold neD; rw [if_pos (depth_tI a), PyData.eqv, eqvAll_I]
theorem eq_lI {a b : List Int} : eqD (.list (a.map .int)) (.list (b.map .int)) = some (.d (.bool (decide (a = b)))) := by
  unfold eqD; rw [if_pos (depth_lI a), PyData.eqv, eqvAll_I]
theorem ne_lI {a b : List Int} : neD (.list (a.map .int)) (.list (b.map .int)) = some (.d (.bool (!decide (a = b)))) := by
  unfold neD; rw [if_pos (depth_lI a), PyData.eqv, eqvAll_I]
theorem all_T {α : Type} {zs : List α} : (zs.map fun _ => true).all id = true := by simp
theorem all_b {bs : List Bool} : allD (.list (bs.map .bool)) = some (.d (.bool (bs.all id))) := by
  unfold allD; simp only [boolsOf_map]
theorem any_b {bs : List Bool} : anyD (.list (bs.map .bool)) = some (.d (.bool (bs.any id))) := by
  unfold anyD; simp only [boolsOf_map]
theorem sum_l {ns : List Int} : sumD (.list (ns.map .int)) = some (.d (.int ns.sum)) := by
  unfold sumD; simp only [intsOf_map]
theorem maxI_spec : ∀ (r : List Int) (a : Int), maxI a r ∈ a :: r ∧ ∀ x ∈ a :: r, x ≤ maxI a r
  | [], a => by simp [maxI]
  | b :: r, a => by
    unfold maxI
    obtain ⟨h1, h2⟩ := maxI_spec r (if a < b then b else a)
    by_cases h : a < b
    · rw [if_pos h] at h1 h2 ⊢
      refine ⟨List.mem_cons_of_mem _ h1, fun x hx => ?_⟩
      rcases List.mem_cons.mp hx with rfl | hx
      · have := h2 b (by simp); omega
      · exact h2 x hx
    · rw [if_neg h] at h1 h2 ⊢
      refine ⟨?_, fun x hx => ?_⟩
      · rcases List.mem_cons.mp h1 with h1 | h1
        · rw [h1]; simp
        · exact List.mem_cons_of_mem _ (List.mem_cons_of_mem _ h1)
      · rcases List.mem_cons.mp hx with rfl | hx
        · exact h2 x (by simp)
        · rcases List.mem_cons.mp hx with rfl | hx
          · have := h2 a (by simp); omega
          · exact h2 x (List.mem_cons_of_mem _ hx)
theorem minI_spec : ∀ (r : List Int) (a : Int), minI a r ∈ a :: r ∧ ∀ x ∈ a :: r, minI a r ≤ x
  | [], a => by simp [minI]
  | b :: r, a => by
    unfold minI
    obtain ⟨h1, h2⟩ := minI_spec r (if b < a then b else a)
    by_cases h : b < a
    · rw [if_pos h] at h1 h2 ⊢
      refine ⟨List.mem_cons_of_mem _ h1, fun x hx => ?_⟩
      rcases List.mem_cons.mp hx with rfl | hx
      · have := h2 b (by simp); omega
      · exact h2 x hx
    · rw [if_neg h] at h1 h2 ⊢
      refine ⟨?_, fun x hx => ?_⟩
      · rcases List.mem_cons.mp h1 with h1 | h1
        · rw [h1]; simp
        · exact List.mem_cons_of_mem _ (List.mem_cons_of_mem _ h1)
      · rcases List.mem_cons.mp hx with rfl | hx
        · exact h2 x (by simp)
        · rcases List.mem_cons.mp hx with rfl | hx
          · have := h2 a (by simp); omega
          · exact h2 x (List.mem_cons_of_mem _ hx)
theorem wR_max {ns : List Int} {P : Rv → Prop} (hn : ns ≠ []) (h : ∀ m, m ∈ ns → (∀ x ∈ ns, x ≤ m) → P (.d (.int m))) : wR (maxD1 (.list (ns.map .int))) P := by
  cases ns with
  | nil => exact absurd rfl hn
  | cons a r =>
    obtain ⟨h1, h2⟩ := maxI_spec r a
    exact ⟨_, by unfold maxD1 seqInts; simp only [intsOf_map], h _ h1 h2⟩
theorem wR_min {ns : List Int} {P : Rv → Prop} (hn : ns ≠ []) (h : ∀ m, m ∈ ns → (∀ x ∈ ns, m ≤ x) → P (.d (.int m))) : wR (minD1 (.list (ns.map .int))) P := by
  cases ns with
  | nil => exact absurd rfl hn
  | cons a r =>
    obtain ⟨h1, h2⟩ := minI_spec r a
    exact ⟨_, by unfold minD1 seqInts; simp only [intsOf_map], h _ h1 h2⟩
theorem wR_maxT {ns : List Int} {P : Rv → Prop} (hn : ns ≠ []) (h : ∀ m, m ∈ ns → (∀ x ∈ ns, x ≤ m) → P (.d (.int m))) : wR (maxD1 (.tuple (ns.map .int))) P := by
  cases ns with
  | nil => exact absurd rfl hn
  | cons a r =>
    obtain ⟨h1, h2⟩ := maxI_spec r a
    exact ⟨_, by unfold maxD1 seqInts; simp only [intsOf_map], h _ h1 h2⟩
theorem wR_minT {ns : List Int} {P : Rv → Prop} (hn : ns ≠ []) (h : ∀ m, m ∈ ns → (∀ x ∈ ns, m ≤ x) → P (.d (.int m))) : wR (minD1 (.tuple (ns.map .int))) P := by
  cases ns with
  | nil => exact absurd rfl hn
  | cons a r =>
    obtain ⟨h1, h2⟩ := minI_spec r a
    exact ⟨_, by unfold minD1 seqInts; simp only [intsOf_map], h _ h1 h2⟩
theorem wR_maxDef {ns : List Int} {d : D} {P : Rv → Prop} (h0 : ns = [] → P (.d d)) (h : ∀ m, m ∈ ns → (∀ x ∈ ns, x ≤ m) → P (.d (.int m))) : wR (maxDef (.list (ns.map .int)) d) P := by
  cases ns with
  | nil => exact ⟨_, rfl, h0 rfl⟩
  | cons a r =>
    obtain ⟨h1, h2⟩ := maxI_spec r a
    exact ⟨_, by unfold maxDef seqInts; simp only [intsOf_map], h _ h1 h2⟩
theorem wR_minDef {ns : List Int} {d : D} {P : Rv → Prop} (h0 : ns = [] → P (.d d)) (h : ∀ m, m ∈ ns → (∀ x ∈ ns, m ≤ x) → P (.d (.int m))) : wR (minDef (.list (ns.map .int)) d) P := by
  cases ns with
  | nil => exact ⟨_, rfl, h0 rfl⟩
  | cons a r =>
    obtain ⟨h1, h2⟩ := minI_spec r a
    exact ⟨_, by unfold minDef seqInts; simp only [intsOf_map], h _ h1 h2⟩
theorem cut_from1 {α : Type} (xs : List α) : cutL xs (some 1) none = xs.drop 1 := by
  unfold cutL
  cases xs with
  | nil => simp
  | cons x r =>
    have h1 : HT.sIx (x :: r).length 0 (some 1) = 1 := by unfold HT.sIx; simp; try omega
    have h2 : HT.sIx (x :: r).length (x :: r).length none = (x :: r).length := by unfold HT.sIx; simp
    rw [h1, h2]
    simp
theorem cut_to1 {α : Type} (xs : List α) : cutL xs none (some 1) = xs.take 1 := by
  unfold cutL
  cases xs with
  | nil => simp
  | cons x r =>
    have h1 : HT.sIx (x :: r).length (x :: r).length (some 1) = 1 := by unfold HT.sIx; simp; try omega
    have h2 : HT.sIx (x :: r).length 0 none = 0 := by unfold HT.sIx; simp
    rw [h1, h2]
    simp
theorem cut_map {α β : Type} (f : α → β) (xs : List α) (l h : Option Int) : cutL (xs.map f) l h = (cutL xs l h).map f := by
  unfold cutL
  rw [List.length_map, List.map_take, List.map_drop]
theorem zip2_map {α β : Type} (f : α → D) (g : β → D) : ∀ (xs : List α) (ys : List β), zipD2 (xs.map f) (ys.map g) = (xs.zip ys).map fun p => PyData.tuple [f p.1, g p.2]
  | [], _ => by simp [zipD2]
  | _ :: _, [] => by simp [zipD2]
  | x :: xs, y :: ys => by
    rw [List.map_cons, List.map_cons, zipD2, zip2_map f g xs ys]
    rfl
theorem zip3_map {α β γ : Type} (f : α → D) (g : β → D) (k : γ → D) : ∀ (xs : List α) (ys : List β) (zs : List γ), zipD3 (xs.map f) (ys.map g) (zs.map k) = (xs.zip (ys.zip zs)).map fun p => PyData.tuple [f p.1, g p.2.1, k p.2.2]
  | [], _, _ => by simp [zipD3]
  | _ :: _, [], _ => by simp [zipD3]
  | _ :: _, _ :: _, [] => by simp [zipD3]
  | x :: xs, y :: ys, z :: zs => by
    rw [List.map_cons, List.map_cons, List.map_cons, zipD3, zip3_map f g k xs ys zs]
    rfl
theorem mulOk_l {a b : Int} (h : -(2 ^ 64) < a ∧ a < 2 ^ 64) : mulOk a b = true := by
  unfold mulOk
  rw [decide_eq_true (by omega : a.natAbs < 2 ^ 64)]
  rfl
theorem mulOk_r {a b : Int} (h : -(2 ^ 64) < b ∧ b < 2 ^ 64) : mulOk a b = true := by
  unfold mulOk
  rw [decide_eq_true (by omega : b.natAbs < 2 ^ 64)]
  simp
theorem log_small {b : Int} (h0 : 0 < b) (h : b < 2 ^ 64) : b.natAbs.log2 < 9000 := by
  have : b.natAbs.log2 < 64 := (Nat.log2_lt (by omega)).mpr (by omega)
  omega
theorem wE_lcI {src : FA} {vs : List Nat} {u : UG} {f : FE} {env : MEnv} {P : Rv → MEnv → Prop} {α : Type} {zs : List α} (k : α → D) (g : α → Int) (h : wA src env fun ds e => ds = zs.map k ∧ plainAt e vs = true ∧ zs.length ≤ sizeLine ∧
    (∀ z ∈ zs, wU u (k z) (wipeE e vs) fun e1 => wipeE e1 vs = wipeE e vs ∧ wE f e1 fun r e3 => r.toD = .int (g z) ∧ wipeE e3 vs = wipeE e vs) ∧ P (.l ((zs.map g).map .int)) e) : wE (mLc src vs u tYes' f) env P :=
  wE_lc1 (zs := zs) k (fun z => .int (g z)) (by rw [List.map_map] at h; exact h)
theorem wE_lcB {src : FA} {vs : List Nat} {u : UG} {f : FE} {env : MEnv} {P : Rv → MEnv → Prop} {α : Type} {zs : List α} (k : α → D) (g : α → Bool) (h : wA src env fun ds e => ds = zs.map k ∧ plainAt e vs = true ∧ zs.length ≤ sizeLine ∧
    (∀ z ∈ zs, wU u (k z) (wipeE e vs) fun e1 => wipeE e1 vs = wipeE e vs ∧ wE f e1 fun r e3 => r.toD = .bool (g z) ∧ wipeE e3 vs = wipeE e vs) ∧ P (.l ((zs.map g).map .bool)) e) : wE (mLc src vs u tYes' f) env P :=
  wE_lc1 (zs := zs) k (fun z => .bool (g z)) (by rw [List.map_map] at h; exact h)
def fdOk (b : Int) : Prop := b.natAbs.log2 < 9000
theorem fdiv_w {a b : Int} : fdivD (.int a) (.int b) = open Classical in if 0 < b ∧ fdOk b then some (.d (.int (a / b))) else none := by
  rw [fdiv_i]
  by_cases h : 0 < b ∧ b.natAbs.log2 < 9000
  · rw [if_pos h]; exact (if_pos h).symm
  · rw [if_neg h]; exact (if_neg h).symm
theorem fdOk_of {b : Int} (h0 : 0 < b) (h : b < 2 ^ 64) : fdOk b := log_small h0 h
theorem fdOk_2 : fdOk 2 ↔ True := ⟨fun _ => trivial, fun _ => log_small (by decide) (by decide)⟩
theorem fdOk_64 : fdOk 64 ↔ True := ⟨fun _ => trivial, fun _ => log_small (by decide) (by decide)⟩
theorem fdOk_7 : fdOk 10000000 ↔ True := ⟨fun _ => trivial, fun _ => log_small (by decide) (by decide)⟩
theorem fdOk_m : fdOk 1000003 ↔ True := ⟨fun _ => trivial, fun _ => log_small (by decide) (by decide)⟩
theorem na10 : Int.natAbs 10 = 10 := rfl
theorem na2 : Int.natAbs 2 = 2 := rfl
theorem at3_0 {α : Type} {x y z : α} : atI [x, y, z] 0 = some x := rfl
theorem at3_1 {α : Type} {x y z : α} : atI [x, y, z] 1 = some y := rfl
theorem at3_2 {α : Type} {x y z : α} : atI [x, y, z] 2 = some z := rfl
theorem at2_0 {α : Type} {x y : α} : atI [x, y] 0 = some x := rfl
theorem at2_1 {α : Type} {x y : α} : atI [x, y] 1 = some y := rfl
theorem ix3_0 : ixN 3 0 = some 0 := rfl
theorem ix3_1 : ixN 3 1 = some 1 := rfl
theorem ix3_2 : ixN 3 2 = some 2 := rfl
theorem sz_0 : (0 ≤ sizeLine) = True := eq_true (by decide)
theorem sz_1 : (1 ≤ sizeLine) = True := eq_true (by decide)
theorem sz_2 : (2 ≤ sizeLine) = True := eq_true (by decide)
theorem sz_3 : (3 ≤ sizeLine) = True := eq_true (by decide)
theorem sz_4 : (4 ≤ sizeLine) = True := eq_true (by decide)
theorem sz_5 : (5 ≤ sizeLine) = True := eq_true (by decide)
theorem sz_6 : (6 ≤ sizeLine) = True := eq_true (by decide)
theorem sz_7 : (7 ≤ sizeLine) = True := eq_true (by decide)
theorem sz_8 : (8 ≤ sizeLine) = True := eq_true (by decide)
end Mir

/-! Mir 15: isinstance(x, (T, U)). -/
namespace Mir
open PySem PySem.Spec PyProof.Rows L2
theorem w_guardE {t : FT} {d : D} {g : FS} {env : MEnv} {PS : Fl → MEnv → Prop} (h : wT t env fun b e => b = false ∧ wS g e PS) : wS (mGuard t d g) env PS := by
  unfold mGuard
  rw [wS_seq, wS_if]
  obtain ⟨b, e, h1, h2, h3⟩ := h
  subst h2
  refine ⟨false, e, h1, fun z => (by cases z), fun _ => ?_⟩
  rw [wS_nx]
  exact h3
def tyN : D → String
  | .none => "NoneType"
  | .bool _ => "bool"
  | .int _ => "int"
  | .str _ => "str"
  | .list _ => "list"
  | .tuple _ => "tuple"
  | .dict _ => "dict"
theorem kit_rd {K : Fr} {s : Shared} {u : Value} {d : D} {as : List Addr} (r : Reads s.heap u d as) : ∃ P : Heap → Prop, PySem.W.KitX K u (.type (tyN d)) P ∧ P s.heap ∧ u ≠ .builtin "__main__.__loader__#opaque" := by
  cases r with
  | none => exact ⟨_, PySem.W.kitx_none, True.intro, fun z => nomatch z⟩
  | bool b => exact ⟨_, PySem.W.kitx_bool, True.intro, fun z => nomatch z⟩
  | int i t => exact ⟨_, PySem.W.kitx_int, True.intro, fun z => nomatch z⟩
  | str x t => exact ⟨_, PySem.W.kitx_str, True.intro, fun z => nomatch z⟩
  | list h1 h2 h3 h4 => exact ⟨_, PySem.W.kitx_list, ⟨_, h1, h2⟩, fun z => nomatch z⟩
  | tuple h1 h2 h3 h4 => exact ⟨_, PySem.W.kitx_tuple, ⟨_, h1, h2⟩, fun z => nomatch z⟩
  | dict h1 h2 h3 h4 h5 => exact ⟨_, PySem.W.kitx_dict, ⟨_, h1, h2⟩, fun z => nomatch z⟩
def rIsa2 (K : Fr) (T U : String) (g : D → Bool) : List V → Hp → VK → Prop := fun xs H Q => ∃ (x : V) (tp : Addr) (m : Addr → Prop) (d : D), xs = [x, .ref tp] ∧ H tp = some (.tup [.ty T, .ty U]) ∧ Dp K (msk m H) x d ∧ Q (.bl (g d)) H
section
variable {X : Cx}
theorem cr_isa2 {T U : String} {g : D → Bool} (h : ∀ d : D, PySem.W.kitAny X.K (.type (tyN d)) [.type T, .type U] = some (g d)) : CallR X (.builtin "isinstance") (rIsa2 X.K T U g) := by
  intro pins s σ H xs us Q I r h'
  obtain ⟨x, tp, m, d, rfl, hT, hd, q⟩ := h'
  obtain ⟨u, w, rfl, r1, r2⟩ := vals2 r
  obtain ⟨as, rd⟩ := hd.rd I r1
  cases (show w = Value.ref tp from r2)
  obtain ⟨P, Z, p, hx⟩ := kit_rd (K := X.K) rd
  obtain ⟨_, its, rv, o, h1, h2, n, h3⟩ := (show ObjOk X.prog X.w H s.heap tp (.tup [.ty T, .ty U]) from I.hok tp _ hT)
  obtain ⟨a, b, rfl, ra, rb⟩ := vals2 rv
  cases (show a = Value.type T from ra)
  cases (show b = Value.type U from rb)
  obtain ⟨oc, od, dt, sl⟩ := o
  simp only at h2 h3
  subst h2 h3
  exact PySem.W.kia_tup Z I.kIn p h1 (h d) hx fun tk => ⟨.bl _, H, I.tok tk, rfl, q⟩
def isLT (d : D) : Bool := d.isList || d.isTuple
def isBS (d : D) : Bool := d.isBool || d.isStr
def isIB (d : D) : Bool := d.isInt
theorem kit2 {K : Fr} {a T U : String} {b c r : Bool} (h1 : kitB a T = some b) (h2 : kitB a U = some c) (h : (b || c) = r) : PySem.W.kitAny K (.type a) [.type T, .type U] = some r := by
  subst h
  refine kitAny_cons (kit_ty h1) (fun hb => ?_) (fun hb => by rw [hb]; rfl)
  subst hb
  exact kitAny_cons (kit_ty h2) (fun hc => by rw [hc]; exact kitAny_nil) (fun hc => by rw [hc]; rfl)
theorem kit_LT {K : Fr} (d : D) : PySem.W.kitAny K (.type (tyN d)) [.type "list", .type "tuple"] = some (isLT d) := by
  cases d with
  | none => exact kit2 (a := "NoneType") (b := false) (c := false) (by decide +kernel) (by decide +kernel) rfl
  | bool _ => exact kit2 (a := "bool") (b := false) (c := false) (by decide +kernel) (by decide +kernel) rfl
  | int _ => exact kit2 (a := "int") (b := false) (c := false) (by decide +kernel) (by decide +kernel) rfl
  | str _ => exact kit2 (a := "str") (b := false) (c := false) (by decide +kernel) (by decide +kernel) rfl
  | list _ => exact kit2 (a := "list") (b := true) (c := false) (by decide +kernel) (by decide +kernel) rfl
  | tuple _ => exact kit2 (a := "tuple") (b := false) (c := true) (by decide +kernel) (by decide +kernel) rfl
  | dict _ => exact kit2 (a := "dict") (b := false) (c := false) (by decide +kernel) (by decide +kernel) rfl
theorem kit_BS {K : Fr} (d : D) : PySem.W.kitAny K (.type (tyN d)) [.type "bool", .type "str"] = some (isBS d) := by
  cases d with
  | none => exact kit2 (a := "NoneType") (b := false) (c := false) (by decide +kernel) (by decide +kernel) rfl
  | bool _ => exact kit2 (a := "bool") (b := true) (c := false) (by decide +kernel) (by decide +kernel) rfl
  | int _ => exact kit2 (a := "int") (b := false) (c := false) (by decide +kernel) (by decide +kernel) rfl
  | str _ => exact kit2 (a := "str") (b := false) (c := true) (by decide +kernel) (by decide +kernel) rfl
  | list _ => exact kit2 (a := "list") (b := false) (c := false) (by decide +kernel) (by decide +kernel) rfl
  | tuple _ => exact kit2 (a := "tuple") (b := false) (c := false) (by decide +kernel) (by decide +kernel) rfl
  | dict _ => exact kit2 (a := "dict") (b := false) (c := false) (by decide +kernel) (by decide +kernel) rfl
theorem se_isa2 {T U : String} {g : D → Bool} {e t1 t2 : Expr} {f : FE} {k : Nat} {p p2 pos : Pos} (hc : CallR X (.builtin "isinstance") (rIsa2 X.K T U g)) (hg : Gl X "isinstance") (hm : X.mg "isinstance" = none) (hf : SE X e f) (h1 : PE X t1 (tC (.ty T))) (h2 : PE X t2 (tC (.ty U)))
    (ht : starEach [t1, t2] X.env = (false, eval t1 X.env) :: starEach [t2] X.env := by rfl) (ht2 : starEach [t2] X.env = (false, eval t2 X.env) :: starEach [] X.env := by rfl)
    (he : starEach [e, .Tuple [t1, t2] k p2] X.env = (false, eval e X.env) :: starEach [.Tuple [t1, t2] k p2] X.env := by rfl) (he2 : starEach [.Tuple [t1, t2] k p2] X.env = (false, eval (.Tuple [t1, t2] k p2) X.env) :: starEach [] X.env := by rfl) (hpl : (backTo pos (starEach [.Tuple [t1, t2] k p2] X.env)).any (·.1) = false := by rfl) :
    SE X (.Call (.Name "isinstance" p) [e, .Tuple [t1, t2] k p2] [] pos) (mIsa g f) :=
  PE.imp (pe_callB hc hg hm (by decide +kernel) (pa_cons hf (pa_cons (pe_tup (pa_cons h1 (pa_cons h2 pa_nil ht2) ht)) pa_nil he2) he) (by decide) (by decide) he hpl) fun σ H Q q => by
    obtain ⟨C, env, O, rr, env', R, e, q⟩ := q
    unfold mIsa at e
    split at e
    · rename_i r1 e1 h1
      cases e
      refine te_run R h1 fun v H1 O1 _ R1 d1 => ?_
      refine ⟨(by show 2 ≤ sizeLine; decide), fun tp n => ⟨v, tp, C.m O1, _, rfl, upd_same, dp_mono (msk_mono (same_new n)) d1, ?_⟩⟩
      exact q _ _ O1 ⟨R1.grow (same_new n), .bl _⟩
    · cases e
/-- xs[::-1] of a list -/
theorem se_revSl {e : Expr} {f : FE} {k : Nat} {p1 p2 p3 pos : Pos} (he : SE X e f) : SE X (.Subscript e (.Slice none none (some (.UnaryOp .USub (.Constant (.int 1) k p1) p2)) p3) pos) (m1 revLD f) :=
  PE.imp (pe_revL he) (te_un (r := fun x H1 Q => ∃ a xs, x = .ref a ∧ SqL X.K H1 a xs ∧ ∀ p, H1 p = none → Q (.ref p) (upd H1 p (.lst xs.reverse))) fun x H Q h => by
    obtain ⟨m, d, r, al, hd, hz, q⟩ := h
    unfold revLD at hz
    split at hz
    · cases hz
      cases hd with
      | lst h a => exact ⟨_, _, rfl, sql_mono msk_sub h, fun p n => q _ _ (same_new n) (rv_new n (dps_rev a))⟩
    · cases hz)
end
end Mir

/-! Mir 16: tuple(reversed(x)), x a list or a tuple. -/
namespace Mir
open PySem PySem.Spec PyProof.Rows L2 RT
section
variable {prog : Program} {w : World} {A : Around} {E : Value → Shared → Prop} {s : Shared}
theorem walks_rt (hh : A.handled = none) (I t : Addr) (hne : t ≠ I) (items : Array Value) (hn : items.size ≤ sizeLine) :
    Walks prog w A I [I, t] [I] items.size (fun i v => items[items.size - 1 - i]? = some v) (fun i h => i ≤ items.size ∧ IsRt h I t ((items.size : Int) - 1 - (i : Int)) ∧ IsTup h t items) where
  sub := fun b hb => by simp at hb; simp [hb]
  frame := fun _ h h' x hk => ⟨x.1, x.2.1.at fun o e => hk I (by simp) o e, by
    obtain ⟨o, ho, r⟩ := x.2.2
    exact ⟨o, hk t (by simp) o ho, r⟩⟩
  item := fun i s Q E hi x hQ => by
    have e : (items.size : Int) - 1 - (i : Int) = ((items.size - 1 - i : Nat) : Int) := by omega
    have ht := x.2.1
    rw [e] at ht
    have hx : items[items.size - 1 - i]? = some (items[items.size - 1 - i]'(by omega)) := Array.getElem?_eq_getElem (by omega)
    refine next_rt_item ht x.2.2 hx hn fun h' hit' hs' => ?_
    rw [show ((items.size - 1 - i : Nat) : Int) - 1 = (items.size : Int) - 1 - ((i + 1 : Nat) : Int) by omega] at hit'
    refine hQ _ h' _ hx ⟨hi, hit', ?_⟩ fun b o hb eo => hs'.extBut b o (fun z => hb (by simp [z])) eo
    obtain ⟨o, ho, r⟩ := x.2.2
    exact ⟨o, (hs'.2 t hne).trans ho, r⟩
  done := fun s Q E x hQ => by
    have ht := x.2.1
    rw [show (items.size : Int) - 1 - (items.size : Int) = -1 by omega] at ht
    exact next_rt_end hh ht fun h' he' => hQ h' s.toks fun b o hb eo => he' b o (fun z => hb (by simp [z])) eo
  self := fun _ _ _ _ x hQ => iter_rt x.2.1 hQ
theorem nolen_rt : typeLookup (.type "reversed") "__len__" = pure none := by rw [typeLookup_type, builtinLookup_eq_fast]; kernel_rfl
theorem hint_rt : typeLookup (.type "reversed") "__length_hint__" = pure (some (.builtin "reversed.__length_hint__")) := by rw [typeLookup_type, builtinLookup_eq_fast]; kernel_rfl
theorem slot_rt_hint : Slot "reversed" "__length_hint__" "reversed.__length_hint__" :=
  .of (owner := "reversed") (n := "__length_hint__") (by rw [typeLookup_type, builtinLookup_eq_fast]; kernel_rfl) (by decide +kernel) (by decide +kernel) (by decide +kernel) (by first | exact .inl (by decide +kernel) | exact .inr (by decide +kernel)) (by rw [isSubtype_type]; kernel_rfl)
theorem entry_rt_hint : entryFor table "reversed.__length_hint__" = some Builtin.«reversed.__length_hint__» := entryFor_of_tree (by kernel_rfl)
theorem args_rt_hint (a : Value) : argsOk "reversed.__length_hint__" ⟨[a], []⟩ := by
  unfold argsOk; rw [signature?_of (id := "reversed.__length_hint__") (n := ['_', '_', 't', 'n', 'i', 'h', '_', 'h', 't', 'g', 'n', 'e', 'l', '_', '_']) (o := ['d', 'e', 's', 'r', 'e', 'v', 'e', 'r']) (by kernel_rfl) owner_rt]; kernel_rfl
theorem bk_rt_hint : builtinKind "reversed.__length_hint__" = some .method := by decide +kernel
theorem bind_rt_hint (self : Value) : bindSpecial (.builtin "reversed.__length_hint__") self = pure (.builtin "reversed.__length_hint__", [self]) := by
  have h1 : withoutEnding? "reversed.__length_hint__" "#opaque" = none := by decide +kernel
  have h2 : withoutEnding? "reversed.__length_hint__" "#data" = none := by decide +kernel
  simp only [bindSpecial, typeOf, builtinType, h1, h2, bk_rt_hint]; rfl
theorem hint_of {it t : Addr} {items : Array Value} {Q : Value → Shared → Prop} (hit : IsRt s.heap it t ((items.size : Int) - 1)) (ht : IsTup s.heap t items) (hn : items.size ≤ sizeLine) (h : ∀ a b, Q (.int (items.size : Int) a) { s with toks := b }) : wpAny (model prog w) A (call (.builtin "reversed.__length_hint__") [.ref it]) Q E s := by
  obtain ⟨o, ho, hc, hd⟩ := id hit
  have hl := line63
  refine wpAny_call_entry slot_rt_hint hit.typeIs entry_rt_hint ?_ (args_rt_hint _)
  unfold Builtin.«reversed.__length_hint__»
  refine wpAny_bind (wpAny_of_eq (a := Value.ref it) rfl ?_)
  refine wpAny_bind (wpAny_field ho hd (x := .ref t) rfl ?_)
  rw [if_neg (by rw [show (Value.ref t == Value.none) = false from rfl]; decide)]
  refine wpAny_bind (len_tuple ht (by omega) ?_)
  refine wpAny_bind (wpAny_of_eq (a := some ((items.size : Nat) : Int)) rfl ?_)
  refine wpAny_bind (wpAny_field (s := { s with toks := s.toks + 1 + 1 }) ho hd (x := rawInt ((items.size : Int) - 1)) rfl ?_)
  show wpAny _ _ (if ((items.size : Nat) : Int) < (items.size : Int) - 1 + 1 then _ else _) _ _ _
  rw [if_neg (by omega)]
  unfold retInt
  refine wpAny_bind (wpAny_mkInt (wpAny_pure ⟨_, rfl, ?_⟩))
  rw [show (items.size : Int) - 1 + 1 = (items.size : Int) by omega]
  exact h _ _
theorem gather_rt {it t : Addr} {items : Array Value} {Q : List Value → Shared → Prop} (hh : A.handled = none) (hit : IsRt s.heap it t ((items.size : Int) - 1)) (ht : IsTup s.heap t items) (hne : t ≠ it) (hn : items.size ≤ sizeLine)
    (hQ : ∀ (h' : Heap) (tk : Nat) (acc : Array Value), (∀ b o, b ≠ it → s.heap.get? b = some o → h'.get? b = some o) → ItemsOf (fun i v => items[items.size - 1 - i]? = some v) acc items.size → Q acc.toList { s with heap := h', toks := tk }) : wpAny (model prog w) A (collect (.ref it)) Q E s := by
  have W := (walks_rt (prog := prog) (w := w) (A := A.in1) hh it t hne items hn).toS
  obtain ⟨oi, hoi, _⟩ := id hit
  obtain ⟨ot, hot, htr⟩ := id ht
  have n1 : s.heap.objs.size ≠ it := Nat.ne_of_gt (Heap.lt_size hoi)
  have n2 : s.heap.objs.size ≠ t := Nat.ne_of_gt (Heap.lt_size hot)
  have n3 : s.heap.objs.size ∉ [it, t] := by simp only [List.mem_cons, List.not_mem_nil, or_false, not_or]; exact ⟨n1, n2⟩
  unfold collect
  refine wpAny_bind (wpAny_runValue (codeAny_builtin F.entry_proto_collect ?_)); rw [Around.under_plainId F.plain_proto_collect _]
  show wpAny _ A.in1 (newList [] >>= fun l1 => again (.builtin "list.__iadd__" ⟨[l1, .ref it], []⟩)) _ _ s
  refine wpAny_bind (wpAny_newObj_type ?_); refine wpAny_pure ⟨plainId_quiet F.plain_list_iadd _, codeAny_builtin F.entry_list_iadd ?_⟩
  rw [Around.under_plainId F.plain_list_iadd _]
  have hS : (s.heap.push { cls := .type "list", data := .seq ([] : List Value).toArray }).get? s.heap.objs.size = some { cls := .type "list", data := .seq ([] : List Value).toArray } := Heap.get?_push_size _ rfl
  have hi1 : IsRt (s.heap.push { cls := .type "list", data := .seq ([] : List Value).toArray }) it t ((items.size : Int) - 1) := hit.at fun o e => Heap.get?_push_of_some _ e
  have ht1 : IsTup (s.heap.push { cls := .type "list", data := .seq ([] : List Value).toArray }) t items := ⟨ot, Heap.get?_push_of_some _ hot, htr⟩
  have hT : ({ s with heap := s.heap.push { cls := .type "list", data := .seq ([] : List Value).toArray } } : Shared).TypeIs (.ref it) "reversed" := IsRt.typeIs (s := { s with heap := s.heap.push { cls := .type "list", data := .seq ([] : List Value).toArray } }) hi1
  have h1 : Builtin.List.listSameRef (.ref s.heap.objs.size) (.ref it) = false := by simp [Builtin.List.listSameRef, n1]
  show wpAny _ A.in1 (Builtin.List.listExtendWith (.ref s.heap.objs.size) (.ref it) (.ref s.heap.objs.size)) _ _ _
  unfold Builtin.List.listExtendWith
  refine wpAny_bind (wpAny_typeOf hT ?_); rw [if_neg (by rw [h1]; decide)]
  refine wpAny_bind (iter_rt (s := { s with heap := s.heap.push { cls := .type "list", data := .seq ([] : List Value).toArray } }) hi1 ?_); refine wpAny_bind (wpAny_holding ?_)
  unfold Builtin.List.listLengthHint
  refine wpAny_bind (wpAny_specialOf hT nolen_rt ?_)
  show wpAny _ A.in1 (specialOf (Value.ref it) (Str.ofString "__length_hint__") >>= _) _ _ _
  refine wpAny_bind (wpAny_specialOf hT hint_rt ?_)
  generalize hid : ("reversed.__length_hint__" : String) = id0
  wp_delta
  rw [show splitId id0 = some ("reversed", "__length_hint__") from by subst hid; decide +kernel]; subst hid
  refine wpAny_bind (wpAny_isInstance (b := true) hT (by rw [isSubtype_type]; kernel_rfl) ?_)
  rw [if_neg (by decide)]
  show wpAny _ _ (if _ then _ else _) _ _ _
  rw [if_neg (by decide +kernel)]
  refine wpAny_bind (wpAny_rule ?_)
  refine wpAny_bind (wpAny_of_eq (bind_rt_hint _) ?_)
  refine wpAny_bind (wpAny_attempt (hint_of (s := { s with heap := s.heap.push { cls := .type "list", data := .seq ([] : List Value).toArray } }) hi1 ht1 hn fun ta tb => ?_))
  dsimp only
  generalize hN : ((items.size : Nat) : Int) = N
  refine wpAny_bind (wpAny_of_eq (a := some N) rfl ?_)
  dsimp only
  rw [if_neg (by rw [← hN, fitsIndex_both (by omega) (by have := line63; omega)]; decide)]
  have hN0 : 0 ≤ N := by omega
  rw [if_neg (by omega), if_neg (by rw [show N.toNat = items.size by omega, notLongL hn]; decide)]
  refine wpAny_pure ?_
  have e0 : ((items.size : Nat) : Int) - 1 - ((0 : Nat) : Int) = (items.size : Int) - 1 := by omega
  have last : ∀ (s' : Shared) (acc' : Array Value) (h2 : Heap), (∀ b o, b ≠ s.heap.objs.size → (s.heap.push { cls := .type "list", data := .seq ([] : List Value).toArray }).get? b = some o → h2.get? b = some o) →
      Moved (s.heap.objs.size :: [it]) (fun a b => b = a) { s with heap := h2, toks := tb } s' → ItemsOf (fun i v => items[items.size - 1 - i]? = some v) acc' items.size → Q acc'.toList s' := fun s' acc' h2 ho hm hacc => by
    rw [Moved.eq_with hm]
    refine hQ s'.heap s'.toks acc' (fun b o hb e => hm.heap b o (fun hmem => ?_) (ho b o (Nat.ne_of_lt (Heap.lt_size e)) (Heap.get?_push_of_some _ e))) hacc
    rcases List.mem_cons.mp hmem with z | z
    · exact absurd (Heap.lt_size e) (by rw [z]; exact Nat.lt_irrefl _)
    · exact hb (List.mem_singleton.mp z)
  by_cases hz : N = 0
  · rw [if_neg (by rw [hz]; decide +kernel)]
    refine wpAny_pure ⟨plainId_quiet F.plain_extend_loop _, codeAny_extend_loopS W hn _ n3 _ items.size 0 _ _ _ rfl (Nat.zero_le _) ⟨Nat.zero_le _, by rw [e0]; exact hi1, ht1⟩ hS (ItemsOf.nil _) fun s' acc' c' hm hS' hacc => ?_⟩
    show wpAny _ A (load s.heap.objs.size >>= _) _ _ s'
    exact wpAny_bind (wpAny_load hS' (wpAny_pure (last s' acc' _ (fun b o _ e => e) hm hacc)))
  · rw [if_pos (by rw [show (N != 0) = true from bne_iff_ne.mpr hz]; rfl)]
    refine wpAny_bind (wpAny_rule ?_); refine wpAny_bind ?_
    show wpAny _ A.in1 (updateSeq s.heap.objs.size (·.push .none) >>= fun _ => updateSeq s.heap.objs.size (·.pop)) _ _ _
    refine wpAny_bind (wpAny_updateSeq hS rfl ?_)
    have hS2 := Heap.get?_update_self (Obj.mapSeq (·.push Value.none)) hS rfl
    refine wpAny_updateSeq hS2 rfl ?_
    have hS3 := Heap.get?_update_self (Obj.mapSeq (·.pop)) hS2 rfl
    have oth : ∀ b o, b ≠ s.heap.objs.size → (s.heap.push { cls := .type "list", data := .seq ([] : List Value).toArray }).get? b = some o → (((s.heap.push { cls := .type "list", data := .seq ([] : List Value).toArray }).update s.heap.objs.size (Obj.mapSeq (·.push Value.none))).update s.heap.objs.size (Obj.mapSeq (·.pop))).get? b = some o :=
      fun b o hb e => (Heap.get?_update_other _ _ (Ne.symm hb)).trans ((Heap.get?_update_other _ _ (Ne.symm hb)).trans e)
    refine wpAny_pure ⟨plainId_quiet F.plain_extend_loop _, codeAny_extend_loopS W hn _ n3 _ items.size 0 _ _ _ rfl (Nat.zero_le _) ⟨Nat.zero_le _, by rw [e0]; exact hi1.at fun o e => oth it o (Ne.symm n1) e, ⟨ot, oth t ot (Ne.symm n2) (Heap.get?_push_of_some _ hot), htr⟩⟩ hS3 (ItemsOf.nil _) fun s' acc' c' hm hS' hacc => ?_⟩
    show wpAny _ A (load s.heap.objs.size >>= _) _ _ s'
    exact wpAny_bind (wpAny_load hS' (wpAny_pure (last s' acc' _ oth hm hacc)))
theorem made_tuple_rt {it t : Addr} {items : Array Value} {Q₁ : Value → Shared → Prop} (hh : A.handled = none) (hit : IsRt s.heap it t ((items.size : Int) - 1)) (ht : IsTup s.heap t items) (hne : t ≠ it) (hn : items.size ≤ sizeLine)
    (h : ∀ (h' : Heap) (tk : Nat) (acc : Array Value), (∀ b o, b ≠ it → s.heap.get? b = some o → h'.get? b = some o) → ItemsOf (fun i v => items[items.size - 1 - i]? = some v) acc items.size → Q₁ (.ref h'.objs.size) { s with heap := h'.push { cls := .type "tuple", data := .seq acc }, toks := tk }) :
    codeAny (model prog w) A (.call (.builtin "tuple.__new__") ⟨[.type "tuple", .ref it], []⟩) (wants Q₁ E) s := by
  refine codeAny_of_tree ?_
  show wpAny _ A.in1 (do checkBuiltinCall "tuple.__new__" ⟨[.type "tuple", .ref it], []⟩; again (.builtin "tuple.__new__" ⟨[.type "tuple", .ref it], []⟩)) _ _ s
  refine wpAny_bind (wpAny_of_eq (F.newCall_tuple_1 _) (wpAny_pure ⟨plainId_quiet F.plain_tuple_new _, codeAny_builtin F.entry_tuple_new ?_⟩)); rw [Around.under_plainId F.plain_tuple_new _]
  have k1 := sub_tuple_self
  have k2 := init_tuple_lookup
  have k3 := madeHere_tuple
  have hTI : s.TypeIs (.ref it) "reversed" := hit.typeIs
  have hh1 : A.in1.handled = none := hh
  wp_walk using wpAny_typeOf hTI, gather_rt (A := A.in1) hh1 hit ht hne hn
  intro h' tk acc hk hacc
  show wpAny _ _ (Builtin.Tuple.tupleExact acc.toList.toArray >>= fun v => ret v) _ _ _
  unfold Builtin.Tuple.tupleExact
  refine wpAny_bind (wpAny_newObj_type (wpAny_pure ?_) (by show acc.toList.toArray.size ≤ sizeLine; simp only [Array.toArray_toList]; rw [hacc.1]; exact hn))
  rw [show acc.toList.toArray = acc by simp]
  exact h h' tk acc hk hacc
theorem call_tuple_rt {it t : Addr} {items : Array Value} {Q : Value → Shared → Prop} (hh : A.handled = none) (hit : IsRt s.heap it t ((items.size : Int) - 1)) (ht : IsTup s.heap t items) (hne : t ≠ it) (hn : items.size ≤ sizeLine)
    (hQ : ∀ (h' : Heap) (tk : Nat) (acc : Array Value), (∀ b o, b ≠ it → s.heap.get? b = some o → h'.get? b = some o) → ItemsOf (fun i v => items[items.size - 1 - i]? = some v) acc items.size → Q (.ref h'.objs.size) { s with heap := h'.push { cls := .type "tuple", data := .seq acc }, toks := tk }) :
    wpAny (model prog w) A (call (.type "tuple") [.ref it]) Q E s := by
  refine callType_codes (Q₁ := fun obj s₁ => s₁.TypeIs obj "tuple" ∧ Q obj s₁) F.called_tuple (F.typeCall_tuple_1 _) F.entry_object_init (made_tuple_rt (A := A.in1) hh hit ht hne hn fun h' tk acc hk hacc => ⟨⟨_, Heap.get?_push_size _ rfl, rfl⟩, hQ h' tk acc hk hacc⟩) fun obj s₁ h₁ => ?_
  exact ⟨h₁.1, F.args_object_init_2 obj _, object_init_meets F.called_tuple.init.lookup F.called_tuple.made (by decide) prog w A.in1 _ s₁ ⟨h₁.1, rfl, h₁.2⟩⟩
end
section
variable {X : Cx}
def tTupRevA (K : Fr) (te : TE) : TE := fun σ H Q => te σ H fun v H1 => ∃ (a : Addr) (xs : List V), v = .ref a ∧ (SqL K H1 a xs ∨ SqT K H1 a xs) ∧ ∀ q, H1 q = none → Q (.ref q) (upd H1 q (.tup xs.reverse))
theorem pe_tupRevA {e : Expr} {te : TE} {p p2 pos pos2 : Pos} (hc : X.calm = true) (hg : Gl X "tuple") (hm : X.mg "tuple" = none) (hg2 : Gl X "reversed") (hm2 : X.mg "reversed" = none) (he : PE X e te) (hs : starEach [e] X.env = (false, eval e X.env) :: starEach [] X.env := by rfl)
    (hs2 : starEach [.Call (.Name "reversed" p2) [e] [] pos2] X.env = (false, eval (.Call (.Name "reversed" p2) [e] [] pos2) X.env) :: starEach [] X.env := by rfl) : PE X (.Call (.Name "tuple" p) [.Call (.Name "reversed" p2) [e] [] pos2] [] pos) (tTupRevA X.K te) := by
  refine ⟨fun pins s σ H Q I h => Call_ (ld_blt I hg hm boot_tuple (callWith_type1 (args_cons (Call_ (ld_blt I hg2 hm2 boot_reversed (callWith_type1 (args_cons (thn (he.run pins s σ H _ I h) fun u s1 ⟨v, H1, I1, r1, q1⟩ => args_nil ?_) hs) hs rfl))) hs2) hs2 rfl))⟩
  obtain ⟨a, xs, ev, hq, q⟩ := q1
  subst ev
  obtain rfl : u = Value.ref a := r1
  obtain ⟨f0, f1, f2, f3, f4, f5⟩ := I1.fpOk (H' := H1) (b := s1.heap.objs.size) (Nat.le_refl _) (I1.hok.fresh (Nat.le_refl _))
  rcases hq with hq | hq
  · obtain ⟨its, rv, p', hz⟩ := I1.list hq
    refine call_reversed_list p'.isList (args_nil ?_)
    have I2 : L2.Inv X pins σ H1 { s1 with heap := s1.heap.push (revObj a ((its.toArray.size : Int) - 1)) } := I1.kept (t' := s1.toks) fun b o e => Heap.get?_push_of_some _ e
    obtain ⟨ol, hol, _⟩ := id p'.isList
    have hn : its.toArray.size ≤ sizeLine := by rw [List.size_toArray, ← rv.length]; exact hz
    refine call_tuple_rev (s := { s1 with heap := s1.heap.push (revObj a ((its.toArray.size : Int) - 1)) }) (I1.ok.hd hc) ⟨_, Heap.get?_push_size _ rfl, rfl, rfl⟩ (p'.isList.push _) (Nat.ne_of_lt (Heap.lt_size hol)) hn fun h' tk acc hk hi => ?_
    have I3 : L2.Inv X pins σ H1 { s1 with heap := h', toks := tk } := I2.turned (t' := tk) (fun b o hb e => hk b o hb e) f0 f1 f3 f4 f5
    exact ⟨.ref h'.objs.size, upd H1 h'.objs.size (.tup xs.reverse), I3.laid (t' := tk) (fun c o e => Heap.get?_push_of_some _ e) (Nat.le_refl _) (show ObjOk X.prog X.w _ _ _ (.tup xs.reverse) from ⟨by rw [List.length_reverse]; exact hz, acc.toList, vals_rev rv hi, by rw [Array.toArray_toList]; exact IsTup.new _ _⟩), rfl, q _ (I3.hok.fresh (Nat.le_refl _))⟩
  · obtain ⟨its, rv, p', hz⟩ := I1.tuple hq
    have hn : its.toArray.size ≤ sizeLine := by rw [List.size_toArray, ← rv.length]; exact hz
    have hl := line63
    refine call_reversed_tup p' (fun A E Q k => len_tuple p' (by omega) k) (args_nil ?_)
    have I2 : L2.Inv X pins σ H1 { s1 with heap := s1.heap.push (rtObj a ((its.toArray.size : Int) - 1)), toks := s1.toks + 1 + 1 } := I1.kept (t' := s1.toks + 1 + 1) fun b o e => Heap.get?_push_of_some _ e
    obtain ⟨ot, hot, htr⟩ := id p'
    refine call_tuple_rt (s := { s1 with heap := s1.heap.push (rtObj a ((its.toArray.size : Int) - 1)), toks := s1.toks + 1 + 1 }) (I1.ok.hd hc) ⟨_, Heap.get?_push_size _ rfl, rfl, rfl⟩ ⟨ot, Heap.get?_push_of_some _ hot, htr⟩ (Nat.ne_of_lt (Heap.lt_size hot)) hn fun h' tk acc hk hi => ?_
    have I3 : L2.Inv X pins σ H1 { s1 with heap := h', toks := tk } := I2.turned (t' := tk) (fun b o hb e => hk b o hb e) f0 f1 f3 f4 f5
    exact ⟨.ref h'.objs.size, upd H1 h'.objs.size (.tup xs.reverse), I3.laid (t' := tk) (fun c o e => Heap.get?_push_of_some _ e) (Nat.le_refl _) (show ObjOk X.prog X.w _ _ _ (.tup xs.reverse) from ⟨by rw [List.length_reverse]; exact hz, acc.toList, vals_rev rv hi, by rw [Array.toArray_toList]; exact IsTup.new _ _⟩), rfl, q _ (I3.hok.fresh (Nat.le_refl _))⟩
def revAD : D → Option Rv
  | .list xs => some (.d (.tuple xs.reverse))
  | .tuple xs => some (.d (.tuple xs.reverse))
  | _ => none
theorem revA_l {xs : List D} : revAD (.list xs) = some (.d (.tuple xs.reverse)) := rfl
theorem revA_t {xs : List D} : revAD (.tuple xs) = some (.d (.tuple xs.reverse)) := rfl
theorem se_tupRevA {e : Expr} {f : FE} {p p2 pos pos2 : Pos} (hc : X.calm = true) (hg : Gl X "tuple") (hm : X.mg "tuple" = none) (hg2 : Gl X "reversed") (hm2 : X.mg "reversed" = none) (he : SE X e f) (hs : starEach [e] X.env = (false, eval e X.env) :: starEach [] X.env := by rfl)
    (hs2 : starEach [.Call (.Name "reversed" p2) [e] [] pos2] X.env = (false, eval (.Call (.Name "reversed" p2) [e] [] pos2) X.env) :: starEach [] X.env := by rfl) : SE X (.Call (.Name "tuple" p) [.Call (.Name "reversed" p2) [e] [] pos2] [] pos) (m1 revAD f) :=
  PE.imp (pe_tupRevA hc hg hm hg2 hm2 he hs hs2) (te_un (r := fun v H1 Q => ∃ (a : Addr) (xs : List V), v = .ref a ∧ (SqL X.K H1 a xs ∨ SqT X.K H1 a xs) ∧ ∀ q, H1 q = none → Q (.ref q) (upd H1 q (.tup xs.reverse))) fun x H Q h => by
    obtain ⟨m, d, r, al, hd, hz, q⟩ := h
    unfold revAD at hz
    split at hz
    · cases hz
      cases hd with
      | lst h a => exact ⟨_, _, rfl, .inl (sql_mono msk_sub h), fun p n => q _ _ (same_new n) (dp_newT al n (dps_rev a))⟩
    · cases hz
      cases hd with
      | tup h a => exact ⟨_, _, rfl, .inr (sqt_mono msk_sub h), fun p n => q _ _ (same_new n) (dp_newT al n (dps_rev a))⟩
    · cases hz)
end
end Mir

/-! Mir 17: is, is not of truths. -/
namespace Mir
open PySem PySem.Spec PyProof.Rows L2
section
variable {X : Cx}
def isBD : D → D → Option Rv
  | .bool a, .bool b => some (.d (.bool (decide (a = b))))
  | _, _ => none
def isntBD : D → D → Option Rv
  | .bool a, .bool b => some (.d (.bool (!decide (a = b))))
  | _, _ => none
theorem op_isBD : OpR X (compareOp .Is) (rD2 X.K isBD) := by
  intro pins s σ H x y v u Q I rx ry h
  obtain ⟨m, d, e, r, al, hd, he, hz, q⟩ := h
  unfold isBD at hz
  split at hz
  · cases hz; cases hd; cases he
    exact op_isBl pins s σ H _ _ v u Q I rx ry ⟨_, _, rfl, rfl, q _ H (Same.refl _) (.bl _)⟩
  · cases hz
theorem op_isntBD : OpR X (compareOp .IsNot) (rD2 X.K isntBD) := by
  intro pins s σ H x y v u Q I rx ry h
  obtain ⟨m, d, e, r, al, hd, he, hz, q⟩ := h
  unfold isntBD at hz
  split at hz
  · cases hz; cases hd; cases he
    exact op_notBl pins s σ H _ _ v u Q I rx ry ⟨_, _, rfl, rfl, q _ H (Same.refl _) (.bl _)⟩
  · cases hz
theorem isB_b {a b : Bool} : isBD (.bool a) (.bool b) = some (.d (.bool (decide (a = b)))) := rfl
theorem isntB_b {a b : Bool} : isntBD (.bool a) (.bool b) = some (.d (.bool (!decide (a = b)))) := rfl
end
end Mir

/-! Mir 18: zip(.., strict=True), zip(.., strict=False). -/
namespace Mir
open PySem PySem.Spec PyProof.Rows L2
open Sem (wp)

section
variable {prog : Program} {w : World} {A : Around} {E : Value → Shared → Prop} {s : Shared}
/-- a draw or an end -/
theorem noe_item {it : Addr} {fp : List Addr} {n i : Nat} {P : Nat → Value → Prop} {St : Nat → Heap → Prop} {Q : Option Value → Shared → Prop} (D : Draws prog w A it fp n P St) (hi : i < n) (st : St i s.heap)
    (k : ∀ x g tk, P i x → St (i + 1) g → Heap.SameBut it s.heap g → Q (some x) { s with heap := g, toks := tk }) : wpAny (model prog w) A (Builtin.SmallTypes.nextOrEnd (.ref it)) Q E s := by
  unfold Builtin.SmallTypes.nextOrEnd
  exact wpAny_bind (wpAny_attempt (D.item i s _ _ hi st fun x g tk p q r => wpAny_pure (k x g tk p q r)))
theorem noe_end {it : Addr} {fp : List Addr} {n : Nat} {P : Nat → Value → Prop} {St : Nat → Heap → Prop} {Q : Option Value → Shared → Prop} (D : Draws prog w A it fp n P St) (st : St n s.heap)
    (k : ∀ g, Heap.ExtBut it s.heap g → Q none { s with heap := g }) : wpAny (model prog w) A (Builtin.SmallTypes.nextOrEnd (.ref it)) Q E s := by
  unfold Builtin.SmallTypes.nextOrEnd
  refine wpAny_bind (wpAny_attempt (D.done s _ _ st fun g e q ⟨o, ho, hc⟩ => ?_))
  exact wpAny_bind (wpAny_isInstance (T := "StopIteration") (b := true) ⟨o, ho, hc⟩ isSubtype_stop (wpAny_pure (k g q)))
theorem stop_raise {α : Type} {Q : α → Shared → Prop} (hh : A.handled = none)
    (k : ∀ g e, (∀ c o, s.heap.get? c = some o → g.get? c = some o) → (∃ o, g.get? e = some o ∧ o.cls = .type "StopIteration") → E (.ref e) { s with heap := g }) : wpAny (model prog w) A (Builtin.SmallTypes.stopIteration (α := α)) Q E s := by
  unfold Builtin.SmallTypes.stopIteration
  refine wpAny_bind ?_
  simp only [newExc, newTuple]
  refine wpAny_bind (wpAny_newObj_type ?_ (by size_fits))
  refine wpAny_bind (m := firstArgMember _ _) (wpAny_of_eq (a := Value.none) (by first | rfl | (simp only [firstArgMember]; rfl)) ?_)
  refine wpAny_newObj_type ?_ (by size_fits)
  simp only [raiseNew]
  refine wpAny_bind (wpAny_handled ?_)
  rw [hh]
  exact wpAny_bind (wpAny_pure (wpAny_throw (k _ _ (fun c o q => Heap.get?_push_of_some _ (Heap.get?_push_of_some _ q)) ⟨_, Heap.get?_push_size _ rfl, rfl⟩)))

/-- a zip that is strict -/
abbrev IsZs (h : Heap) (z TI TO : Addr) (f0 : Value) : Prop :=
  h.get? z = some { cls := .type "zip", dict := none, data := .fields #[f0, .bool false, .bool true, .ref TI, .ref TO], slots := #[] }

variable {z TI TO i1 i2 : Addr} {fp1 fp2 : List Addr} {n1 n2 i : Nat} {P1 P2 : Nat → Value → Prop} {St1 St2 : Nat → Heap → Prop} {a1 a2 : Value}
theorem zs_item {Q : Value → Shared → Prop} (S : ZipSep2 z TI TO i1 i2 fp1 fp2) (D1 : Draws prog w A i1 fp1 n1 P1 St1) (D2 : Draws prog w A i2 fp2 n2 P2 St2)
    (hz : IsZs s.heap z TI TO .none) (hI : IsTupOf2 s.heap TI (.ref i1) (.ref i2)) (hO : IsTupOf2 s.heap TO a1 a2) (st1 : St1 i s.heap) (st2 : St2 i s.heap) (l1 : i < n1) (l2 : i < n2)
    (K : ∀ x1 x2 g tk, P1 i x1 → P2 i x2 → IsZs g z TI TO (rawInt s.heap.objs.size) → IsTupOf2 g TO x1 x2 → St1 (i + 1) g → St2 (i + 1) g → IsTupOf2 g s.heap.objs.size x1 x2 →
      (∀ c o, c ≠ z → c ≠ TO → c ≠ i1 → c ≠ i2 → s.heap.get? c = some o → g.get? c = some o) → Q (.ref s.heap.objs.size) { s with heap := g, toks := tk }) :
    wpAny (model prog w) A (Builtin.«zip.__next__» ⟨[.ref z], []⟩) (fun fin s' => ∃ v, fin = .done (.ret v) ∧ Q v s') E s := by
  obtain ⟨h0, gg, dd, t0, oo⟩ := s
  show wpAny _ _ (field (.ref z) 2 >>= _) _ _ _
  refine wpAny_bind (wpAny_field hz rfl (x := .bool true) rfl ?_)
  show wpAny _ _ (field (.ref z) 3 >>= _) _ _ _
  refine wpAny_bind (wpAny_field hz rfl (x := .ref TI) rfl (wpAny_bind (wpAny_seqItems hI rfl ?_)))
  show wpAny _ _ (Builtin.SmallTypes.ownedTupleIsFree (.ref z) >>= _) _ _ _
  unfold Builtin.SmallTypes.ownedTupleIsFree
  refine wpAny_bind (wpAny_bind (wpAny_field hz rfl (x := .none) rfl (wpAny_pure ?_)))
  simp only [if_true]
  refine wpAny_bind (wpAny_rule (wpAny_bind (wpAny_field hz rfl (x := .ref TO) rfl (wpAny_bind (wpAny_setField_rec hz (by simp) fun h1 hz1 s1 => ?_)))))
  replace hz1 : IsZs h1 z TI TO .ellipsis := hz1
  replace s1 : Heap.SameBut z h0 h1 := s1
  refine wpAny_bind ?_
  simp only [List.zipIdx_cons, List.zipIdx_nil, List.forIn_cons, List.forIn_nil]
  refine wpAny_bind (wpAny_bind (wpAny_onRaise ?_))
  show wpAny _ _ (Builtin.SmallTypes.nextOrEnd (.ref i1)) _ _ ⟨h1, gg, dd, t0, oo⟩
  refine noe_item D1 l1 (D1.over st1 s1 S.zf1) fun x1 h2 t1 p1 q1 s2 => ?_
  replace s2 : Heap.SameBut i1 h1 h2 := s2
  have hO2 : IsTupOf2 h2 TO a1 a2 := s2.extBut _ _ S.Ti1 (s1.extBut _ _ S.TOz hO)
  refine wpAny_bind (wpAny_seqItems (s := ⟨h2, gg, dd, t1, oo⟩) hO2 rfl (wpAny_bind (updateSeq_IsTupOf2 (s := ⟨h2, gg, dd, t1, oo⟩) hO2 fun h3 hO3 s3 => wpAny_bind (wpAny_letGo (wpAny_pure ?_)))))
  replace hO3 : IsTupOf2 h3 TO x1 a2 := hO3
  replace s3 : Heap.SameBut TO h2 h3 := s3
  refine wpAny_bind (wpAny_bind (wpAny_onRaise ?_))
  show wpAny _ _ (Builtin.SmallTypes.nextOrEnd (.ref i2)) _ _ ⟨h3, gg, dd, t1, oo⟩
  refine noe_item D2 l2 (D2.over (D2.over (D2.over st2 s1 S.zf2) s2 S.sep1_2) s3 S.Tf2) fun x2 h4 t2 p2 q2 s4 => ?_
  replace s4 : Heap.SameBut i2 h3 h4 := s4
  have hO4 : IsTupOf2 h4 TO x1 a2 := s4.extBut _ _ S.Ti2 hO3
  refine wpAny_bind (wpAny_seqItems (s := ⟨h4, gg, dd, t2, oo⟩) hO4 rfl (wpAny_bind (updateSeq_IsTupOf2 (s := ⟨h4, gg, dd, t2, oo⟩) hO4 fun h5 hO5 s5 => wpAny_bind (wpAny_letGo (wpAny_pure (wpAny_pure ?_))))))
  replace hO5 : IsTupOf2 h5 TO x1 x2 := hO5
  replace s5 : Heap.SameBut TO h4 h5 := s5
  refine wpAny_bind (wpAny_seqItems (s := ⟨h5, gg, dd, t2, oo⟩) hO5 rfl (wpAny_bind (wpAny_newTuple ?_)))
  have sz : h5.objs.size = h0.objs.size := by rw [s5.1, s4.1, s3.1, s2.1, s1.1]
  have hz5 : IsZs h5 z TI TO .ellipsis := s5.extBut _ _ S.TOz.symm (s4.extBut _ _ S.zi2 (s3.extBut _ _ S.TOz.symm (s2.extBut _ _ S.zi1 hz1)))
  have kp : ∀ c o, c ≠ z → c ≠ TO → c ≠ i1 → c ≠ i2 → h0.get? c = some o → h5.get? c = some o := fun c o cz cT c1 c2 q =>
    s5.extBut _ _ cT (s4.extBut _ _ c2 (s3.extBut _ _ cT (s2.extBut _ _ c1 (s1.extBut _ _ cz q))))
  have j1 : St1 (i + 1) h5 := D1.over (D1.over (D1.over q1 s3 S.Tf1) s4 S.sep2_1) s5 S.Tf1
  have j2 : St2 (i + 1) h5 := D2.over q2 s5 S.Tf2
  have zlt : z < h5.objs.size := Heap.lt_size hz5
  show wpAny _ _ (Builtin.SmallTypes.ownedTupleHandOut (.ref z) (.ref h5.objs.size) >>= _) _ _ ⟨h5.push { cls := .type "tuple", data := .seq #[x1, x2] }, gg, dd, t2, oo⟩
  unfold Builtin.SmallTypes.ownedTupleHandOut
  have hz6 : IsZs (h5.push { cls := .type "tuple", data := .seq #[x1, x2] }) z TI TO .ellipsis := Heap.get?_push_of_some _ hz5
  refine wpAny_bind (wpAny_bind (wpAny_setField_rec hz6 (by simp) fun h7 hz7 s7 => ?_))
  replace hz7 : IsZs h7 z TI TO (rawInt h5.objs.size) := hz7
  refine wpAny_setField_rec hz7 (by simp) fun h8 hz8 s8 => ?_
  replace hz8 : IsZs h8 z TI TO (rawInt h5.objs.size) := hz8
  replace s7 : Heap.SameBut z (h5.push { cls := .type "tuple", data := .seq #[x1, x2] }) h7 := s7
  replace s8 : Heap.SameBut z h7 h8 := s8
  have up : ∀ c o, c ≠ z → h5.get? c = some o → h8.get? c = some o := fun c o cz q => s8.extBut _ _ cz (s7.extBut _ _ cz (Heap.get?_push_of_some _ q))
  have hT : IsTupOf2 h8 h5.objs.size x1 x2 := s8.extBut _ _ (Nat.ne_of_gt zlt) (s7.extBut _ _ (Nat.ne_of_gt zlt) (Heap.get?_push_size _ rfl))
  rw [sz] at hz8 hT
  refine wpAny_pure ⟨_, rfl, ?_⟩
  show Q (.ref h5.objs.size) ⟨h8, gg, dd, t2, oo⟩
  rw [sz]
  exact K x1 x2 h8 t2 p1 p2 hz8 (up _ _ S.TOz hO5) (D1.frame _ _ _ j1 fun b hb o q => up b o (fun y => S.zf1 (y ▸ hb)) q) (D2.frame _ _ _ j2 fun b hb o q => up b o (fun y => S.zf2 (y ▸ hb)) q) hT fun c o cz cT c1 c2 q => up c o cz (kp c o cz cT c1 c2 q)

theorem zs_end {Q : Fin → Shared → Prop} (hh : A.handled = none) (S : ZipSep2 z TI TO i1 i2 fp1 fp2) (D1 : Draws prog w A i1 fp1 n1 P1 St1) (D2 : Draws prog w A i2 fp2 n1 P2 St2)
    (hz : IsZs s.heap z TI TO .none) (hI : IsTupOf2 s.heap TI (.ref i1) (.ref i2)) (hO : IsTupOf2 s.heap TO a1 a2) (st1 : St1 n1 s.heap) (st2 : St2 n1 s.heap)
    (K : ∀ g tk e, (∀ c o, c ≠ z → c ≠ TO → c ≠ i1 → c ≠ i2 → s.heap.get? c = some o → g.get? c = some o) → (∃ o, g.get? e = some o ∧ o.cls = .type "StopIteration") → E (.ref e) { s with heap := g, toks := tk }) :
    wpAny (model prog w) A (Builtin.«zip.__next__» ⟨[.ref z], []⟩) Q E s := by
  obtain ⟨h0, gg, dd, t0, oo⟩ := s
  show wpAny _ _ (field (.ref z) 2 >>= _) _ _ _
  refine wpAny_bind (wpAny_field hz rfl (x := .bool true) rfl ?_)
  show wpAny _ _ (field (.ref z) 3 >>= _) _ _ _
  refine wpAny_bind (wpAny_field hz rfl (x := .ref TI) rfl (wpAny_bind (wpAny_seqItems hI rfl ?_)))
  show wpAny _ _ (Builtin.SmallTypes.ownedTupleIsFree (.ref z) >>= _) _ _ _
  unfold Builtin.SmallTypes.ownedTupleIsFree
  refine wpAny_bind (wpAny_bind (wpAny_field hz rfl (x := .none) rfl (wpAny_pure ?_)))
  simp only [if_true]
  refine wpAny_bind (wpAny_rule (wpAny_bind (wpAny_field hz rfl (x := .ref TO) rfl (wpAny_bind (wpAny_setField_rec hz (by simp) fun h1 hz1 s1 => ?_)))))
  replace hz1 : IsZs h1 z TI TO .ellipsis := hz1
  replace s1 : Heap.SameBut z h0 h1 := s1
  refine wpAny_bind ?_
  simp only [List.zipIdx_cons, List.zipIdx_nil, List.forIn_cons, List.forIn_nil]
  refine wpAny_bind (wpAny_bind (wpAny_onRaise ?_))
  show wpAny _ _ (Builtin.SmallTypes.nextOrEnd (.ref i1)) _ _ ⟨h1, gg, dd, t0, oo⟩
  refine noe_end D1 (D1.over st1 s1 S.zf1) fun h2 s2 => ?_
  replace s2 : Heap.ExtBut i1 h1 h2 := s2
  have hz2 : IsZs h2 z TI TO .ellipsis := s2 _ _ S.zi1 hz1
  refine wpAny_bind (wpAny_setField_rec (s := ⟨h2, gg, dd, t0, oo⟩) hz2 (by simp) fun h3 _ s3 => ?_)
  replace s3 : Heap.SameBut z h2 h3 := s3
  refine wpAny_bind ?_
  wp_delta
  rw [if_neg (by decide)]
  simp only [List.drop_succ_cons, List.drop_zero, List.zipIdx_cons, List.zipIdx_nil, List.forIn_cons, List.forIn_nil]
  refine wpAny_bind (wpAny_bind (wpAny_bind (noe_end (s := ⟨h3, gg, dd, t0, oo⟩) D2 (D2.over (D2.frame _ _ _ (D2.over st2 s1 S.zf2) fun b hb o q => s2 b o (fun y => S.sep1_2 (y ▸ hb)) q) s3 S.zf2) fun h4 s4 => ?_)))
  replace s4 : Heap.ExtBut i2 h3 h4 := s4
  simp only [Option.isSome_none, Bool.false_eq_true, if_false]
  refine wpAny_pure (wpAny_pure (wpAny_bind (wpAny_rule (stop_raise hh fun g e k1 k2 => ?_))))
  exact K g t0 e (fun c o cz cT c1 c2 q => k1 c o (s4 c o c2 (s3.extBut c o cz (s2 c o c1 (s1.extBut c o cz q))))) k2

theorem zs_type (hz : IsZs s.heap z TI TO a1) : s.TypeIs (.ref z) "zip" := ⟨_, hz, rfl⟩
theorem zs_iter {Q : Value → Shared → Prop} (hz : IsZs s.heap z TI TO a1) (h : Q (.ref z) s) : wpAny (model prog w) A (pyIter (.ref z)) Q E s := by
  refine wpAny_pyIter_slot (zs_type hz) F.slot_zip_iter (wpAny_call_entry F.slot_zip_iter (zs_type hz) F.entry_zip_iter ?_ (F.args_zip_iter_1 _))
  show wpAny (model prog w) _ (ret (.ref z)) _ _ s
  exact wpAny_pure ⟨_, rfl, "zip", _, zs_type hz, F.slot_zip_next.lookup, h⟩
theorem zs_let {elts : List Expr} {k : Nat} {pos : Pos} {T : Addr} {Q : Unit → Shared → Prop} (hz : IsZs s.heap z TI TO (rawInt T))
    (h : ∀ g, IsZs g z TI TO .none → Heap.SameBut z s.heap g → Q () { s with heap := g }) : wpAny (model prog w) A (letOwnedTupleGo (.Tuple elts k pos) (.ref z) (.ref T)) Q E s := by
  unfold letOwnedTupleGo
  refine wpAny_bind (wpAny_load hz ?_)
  show wpAny (model prog w) A (@ite _ ((_ && (#[rawInt T, .bool false, .bool true, .ref TI, .ref TO] : Array Value)[0]? == some (rawInt T)) = true) _ _ _) Q E s
  rw [if_pos (by simp)]
  refine wpAny_bind (wpAny_rule ?_)
  exact wpAny_setField_rec hz (by simp) fun g hz' hs' => h g hz' hs'
theorem walks_zs (hh : A.in1.handled = none) (S : ZipSep2 z TI TO i1 i2 fp1 fp2) (D1 : Draws prog w A.in1 i1 fp1 n1 P1 St1) (D2 : Draws prog w A.in1 i2 fp2 n1 P2 St2) :
    WalksT prog w A z (z :: TI :: TO :: (fp1 ++ fp2)) [z, TO, i1, i2] n1
      (fun i vs => ∃ x y, P1 i x ∧ P2 i y ∧ vs = #[x, y])
      (fun i h => IsZs h z TI TO .none ∧ IsTupOf2 h TI (.ref i1) (.ref i2) ∧ (∃ a b, IsTupOf2 h TO a b) ∧ St1 i h ∧ St2 i h)
      (fun i T h => IsZs h z TI TO (rawInt T) ∧ IsTupOf2 h TI (.ref i1) (.ref i2) ∧ (∃ a b, IsTupOf2 h TO a b) ∧ St1 (i + 1) h ∧ St2 (i + 1) h ∧ T ≠ z ∧ T ≠ TO ∧ T ≠ i1 ∧ T ≠ i2) where
  sub := fun c hc => by
    have hc : c = z ∨ c = TO ∨ c = i1 ∨ c = i2 := by simpa using hc
    have m1 := S.mem1
    have m2 := S.mem2
    rcases hc with rfl | rfl | rfl | rfl <;> simp [m1, m2]
  frame := fun i h h' ⟨a, b, ⟨p, q, c⟩, d, e⟩ hk => ⟨hk z (by simp) _ a, hk TI (by simp) _ b, ⟨p, q, hk TO (by simp) _ c⟩,
    D1.frame _ _ _ d fun y hy o r => hk y (by simp [hy]) o r, D2.frame _ _ _ e fun y hy o r => hk y (by simp [hy]) o r⟩
  item := fun i s Q E hi ⟨hz, hI, ⟨a, b, hO⟩, st1, st2⟩ K => by
    unfold pyNext
    refine wpAny_bind (wpAny_attempt (wpAny_callSpecial?_slot (name := Str.ofString "__next__") (zs_type hz) F.slot_zip_next (wpAny_call_entry F.slot_zip_next (zs_type hz) F.entry_zip_next
      (zs_item S D1 D2 hz hI hO st1 st2 hi hi fun x1 x2 g tk p1 p2 e1 e2 e3 e4 e5 hk => wpAny_pure ?_) (F.args_zip_next_1 _))))
    have lt : ∀ {c o}, s.heap.get? c = some o → s.heap.objs.size ≠ c := fun q => Nat.ne_of_gt (Heap.lt_size q)
    have l1 : s.heap.objs.size ≠ i1 := let ⟨_, q⟩ := D1.live _ _ st1; lt q
    have l2 : s.heap.objs.size ≠ i2 := let ⟨_, q⟩ := D2.live _ _ st2; lt q
    exact K s.heap.objs.size #[x1, x2] g tk ⟨x1, x2, p1, p2, rfl⟩ (Nat.le_refl _) ⟨_, e5, rfl, _, rfl⟩ ⟨e1, hk _ _ S.TIz S.TITO S.TIi1 S.TIi2 hI, ⟨_, _, e2⟩, e3, e4, lt hz, lt hO, l1, l2⟩
      fun c o hc q => hk c o (fun x => hc (by simp [x])) (fun x => hc (by simp [x])) (fun x => hc (by simp [x])) (fun x => hc (by simp [x])) q
  go := fun elts k pos i T s Q E ⟨hz, hI, ⟨a, b, hO⟩, st1, st2, _⟩ K =>
    zs_let hz fun g hz' hs => K g ⟨hz', hs.extBut _ _ S.TIz hI, ⟨a, b, hs.extBut _ _ S.TOz hO⟩, D1.over st1 hs S.zf1, D2.over st2 hs S.zf2⟩ fun c o hc q => hs.extBut _ _ (fun x => hc (by simp [x])) q
  apart := fun i T h ⟨_, _, _, _, _, tz, tT, t1, t2⟩ hT => by
    have hT : T = z ∨ T = TO ∨ T = i1 ∨ T = i2 := by simpa using hT
    rcases hT with q | q | q | q
    · exact tz q
    · exact tT q
    · exact t1 q
    · exact t2 q
  done := fun s Q E ⟨hz, hI, ⟨a, b, hO⟩, st1, st2⟩ K => by
    unfold pyNext
    refine wpAny_bind (wpAny_attempt (wpAny_callSpecial?_slot (name := Str.ofString "__next__") (zs_type hz) F.slot_zip_next (wpAny_call_entry F.slot_zip_next (zs_type hz) F.entry_zip_next
      (zs_end hh S D1 D2 hz hI hO st1 st2 fun g tk e hk ⟨o, ho, hc⟩ => ?_) (F.args_zip_next_1 _))))
    refine wpAny_bind (wpAny_isInstance (T := "StopIteration") (b := true) ⟨o, ho, hc⟩ isSubtype_stop (wpAny_pure ?_))
    exact K g tk fun c o hc q => hk c o (fun x => hc (by simp [x])) (fun x => hc (by simp [x])) (fun x => hc (by simp [x])) (fun x => hc (by simp [x])) q
  self := fun i s Q E st K => zs_iter st.1 K
theorem goes_zs {elts : List Expr} {k : Nat} {pos : Pos} (hh : A.in1.handled = none) (S : ZipSep2 z TI TO i1 i2 fp1 fp2) (D1 : Draws prog w A.in1 i1 fp1 n1 P1 St1) (D2 : Draws prog w A.in1 i2 fp2 n1 P2 St2) :
    GoesN prog w A (.Tuple elts k pos) z (z :: TI :: TO :: (fp1 ++ fp2)) [z, TO, i1, i2] n1 (fun i h0 v h => ∃ T x y, v = .ref T ∧ h0.objs.size ≤ T ∧ P1 i x ∧ P2 i y ∧ h.IsTuple T #[x, y])
      (fun i h => IsZs h z TI TO .none ∧ IsTupOf2 h TI (.ref i1) (.ref i2) ∧ (∃ a b, IsTupOf2 h TO a b) ∧ St1 i h ∧ St2 i h) :=
  (GoesN.ofWalksT (walks_zs hh S D1 D2)).mono fun i h0 v h _ ⟨T, vs, ev, hn, ⟨x, y, hx, hy, evs⟩, hT⟩ => ⟨T, x, y, ev, hn, hx, hy, evs ▸ hT⟩

/-! a type called with keywords -/
theorem objInitK {T newId : String} {self : Value} {rest : List Value} {kw : List (Str × Value)} (hl : typeLookup (.type T) "__init__" = pure (some (.builtin "object.__init__")))
    (hm : Bind.madeBy (.type T) = pure (some newId)) (hne : (some newId != some "object.__new__") = true) :
    Meets (Builtin.«object.__init__» ⟨self :: rest, kw⟩) (fun _ R s => s.TypeIs self T ∧ R (.ok (.ret .none)) s) := by
  refine Meets.of_wp fun prog w A R s ⟨hT, hq⟩ => ?_
  cases rest with
  | nil =>
    cases kw with
    | nil => exact wpAny_pure ⟨_, rfl, hq⟩
    | cons p q =>
      repeat (any_goals (first | assumption | wp_step))
      exact ⟨_, rfl, hq⟩
  | cons b rest =>
    repeat (any_goals (first | assumption | wp_step))
    exact ⟨_, rfl, hq⟩
theorem callT_kw {T newId : String} {Bn : Builtin} {args : List Value} {kw : List (Str × Value)} {S : PySem.Spec} {Q : Value → Shared → Prop} (ft : TypeCalled T newId "object.__init__")
    (hne : (some newId != some "object.__new__") = true) (hct : checkTypeCall T ⟨args, kw⟩ = pure ()) (hcn : checkBuiltinCall newId ⟨.type T :: args, kw⟩ = pure ())
    (hok : ∀ obj, argsOk "object.__init__" ⟨obj :: args, kw⟩) (eN : entryFor table newId = some Bn) (g : Meets (Bn ⟨.type T :: args, kw⟩) S)
    (h : S A.in1 (wants (fun obj s1 => s1.TypeIs obj T ∧ Q obj s1) E) s) : wpAny (model prog w) A (call (.type T) args kw) Q E s := by
  obtain ⟨c0, tl0, hm0⟩ := ft.mro
  have hd0 := ft.made
  have hb0 := ft.sub
  refine wpAny_call (codeAny_of_tree ?_)
  show wpAny _ _ (callAny (.type T) _) _ _ s
  refine wpAny_pure ⟨Code.quiet_builtin _ (by decide +kernel), codeAny_builtin F.entry_type_call ?_⟩
  rw [Around.under_plain (weight_type_call_type T args kw) (units_type_call_type T args kw)]
  have k1 := ft.notType
  have k2 := ft.canCreate
  repeat (any_goals (first | assumption | wp_step))
  refine codeAny_mono (codeAny_call_builtin ft.plain eN (wpAny_of_eq hcn (g prog w A.in1 _ s h))) fun r s1 hr => ?_
  cases r with
  | error e => exact hr
  | ok fl =>
    cases fl with
    | ret obj =>
      obtain ⟨hT, hq⟩ := hr
      have hl0 := ft.init.lookup
      have hi0 := ft.init.bind obj
      repeat (any_goals (first | assumption | wp_step))
      refine codeAny_mono (codeAny_call_builtin ft.init.plain F.entry_object_init (ft.init.check _ _ _ _ _ _ _ _ hT (hok obj) (objInitK ft.init.lookup ft.made hne prog w A.in1 (wants (fun r s2 => r = .none ∧ Q obj s2) E) s1 ⟨hT, rfl, hq⟩))) fun r2 s2 hr2 => ?_
      cases r2 with
      | error e => exact hr2
      | ok fl2 =>
        cases fl2 with
        | ret r =>
          obtain ⟨rfl, hq2⟩ := hr2
          repeat (any_goals (first | assumption | wp_step))
        | _ => exact hr2.elim
    | _ => exact hr.elim

abbrev kwS (b : Bool) : List (Str × Value) := [(("strict" : Str), .bool b)]
abbrev zsNew (h : Heap) (o1 o2 : Obj) : Heap := (gzO2 h o1 o2).push { cls := .type "zip", data := .fields #[.none, .bool false, .bool true, .ref ((h.push o1).push o2).objs.size, .ref (gzT2 h o1 o2).objs.size] }
theorem meets_zs {v1 v2 : Value} {o1 o2 : Obj} {H1 H2 : Heap → Prop} (B1 : Begins v1 o1 H1) (B2 : Begins v2 o2 H2) :
    Meets (Builtin.«zip.__new__» ⟨[.type "zip", v1, v2], kwS true⟩) (fun _ R s => (H1 s.heap ∧ H2 s.heap) ∧ R (.ok (.ret (.ref (gzO2 s.heap o1 o2).objs.size))) { s with heap := zsNew s.heap o1 o2 }) :=
  .of_wp fun prog w A R s hs => by
    obtain ⟨h0, gg, dd, t0, oo⟩ := s; obtain ⟨⟨m1, m2⟩, hr⟩ := hs
    have hsub := sub_zip
    have b1 : ∀ {A' : Around} {E : Value → Shared → Prop} {Q : Value → Shared → Prop}, Q (.ref h0.objs.size) ⟨h0.push o1, gg, dd, t0, oo⟩ → wpAny (model prog w) A' (pyIter v1) Q E ⟨h0, gg, dd, t0, oo⟩ := fun q => B1.iter prog w _ _ ⟨h0, gg, dd, t0, oo⟩ _ m1 q
    have b2 : ∀ {A' : Around} {E : Value → Shared → Prop} {Q : Value → Shared → Prop}, Q (.ref (h0.push o1).objs.size) ⟨(h0.push o1).push o2, gg, dd, t0, oo⟩ → wpAny (model prog w) A' (pyIter v2) Q E ⟨h0.push o1, gg, dd, t0, oo⟩ :=
      fun q => B2.iter prog w _ _ ⟨h0.push o1, gg, dd, t0, oo⟩ _ (B2.keeps _ _ m2 fun b o' x => Heap.get?_push_of_some _ x) q
    wp_walk using b1, b2
    exact ⟨_, rfl, hr⟩
theorem F_typeCall_zs (a b : Value) : checkTypeCall "zip" ⟨[a, b], kwS true⟩ = pure () := by kernel_rfl
theorem F_newCall_zs (a b : Value) : checkBuiltinCall "zip.__new__" ⟨[.type "zip", a, b], kwS true⟩ = pure () := by kernel_rfl
theorem F_args_zs (x a b : Value) : argsOk "object.__init__" ⟨[x, a, b], kwS true⟩ := by unfold argsOk; kernel_rfl
theorem zs_begins {v1 v2 : Value} {o1 o2 : Obj} {H1 H2 : Heap → Prop} {Q : Value → Shared → Prop} (B1 : Begins v1 o1 H1) (B2 : Begins v2 o2 H2) (h1 : H1 s.heap) (h2 : H2 s.heap)
    (h : ∀ g, IsZs g (s.heap.objs.size + 4) (s.heap.objs.size + 2) (s.heap.objs.size + 3) .none → IsTupOf2 g (s.heap.objs.size + 2) (.ref s.heap.objs.size) (.ref (s.heap.objs.size + 1)) →
      IsTupOf2 g (s.heap.objs.size + 3) .none .none → g.get? s.heap.objs.size = some o1 → g.get? (s.heap.objs.size + 1) = some o2 →
      (∀ c o, s.heap.get? c = some o → g.get? c = some o) → Q (.ref (s.heap.objs.size + 4)) { s with heap := g }) :
    wpAny (model prog w) A (call (.type "zip") [v1, v2] (kwS true)) Q E s := by
  refine callT_kw F.called_zip (by decide) (F_typeCall_zs _ _) (F_newCall_zs _ _) (fun x => F_args_zs x _ _) F.entry_zip_new (meets_zs B1 B2) ⟨⟨h1, h2⟩, ?_⟩
  obtain ⟨hp, gg, dd, t0, oo⟩ := s
  have e1 : (hp.push o1).objs.size = hp.objs.size + 1 := Heap.size_push ..
  have e2 : ((hp.push o1).push o2).objs.size = hp.objs.size + 2 := by rw [Heap.size_push, e1]
  have e3 : (gzT2 hp o1 o2).objs.size = hp.objs.size + 3 := by rw [Heap.size_push, e2]
  have e4 : (gzO2 hp o1 o2).objs.size = hp.objs.size + 4 := by rw [Heap.size_push, e3]
  have up : ∀ {g : Heap} {o : Obj} {c x}, g.get? c = some x → (g.push o).get? c = some x := fun q => Heap.get?_push_of_some _ q
  have f1 : (zsNew hp o1 o2).get? (gzO2 hp o1 o2).objs.size = some { cls := .type "zip", data := .fields #[.none, .bool false, .bool true, .ref ((hp.push o1).push o2).objs.size, .ref (gzT2 hp o1 o2).objs.size] } := Heap.get?_push_size _ rfl
  have f2 : (zsNew hp o1 o2).get? (gzT2 hp o1 o2).objs.size = some { cls := .type "tuple", data := .seq #[.none, .none] } := up (Heap.get?_push_size _ rfl)
  have f3 : (zsNew hp o1 o2).get? ((hp.push o1).push o2).objs.size = some { cls := .type "tuple", data := .seq #[.ref hp.objs.size, .ref (hp.push o1).objs.size] } := up (up (Heap.get?_push_size _ rfl))
  have f4 : (zsNew hp o1 o2).get? hp.objs.size = some o1 := up (up (up (up (Heap.get?_push_size _ B1.free))))
  have f5 : (zsNew hp o1 o2).get? (hp.push o1).objs.size = some o2 := up (up (up (Heap.get?_push_size _ B2.free)))
  rw [e4, e3, e2] at f1
  rw [e3] at f2
  rw [e2, e1] at f3
  rw [e1] at f5
  show _ ∧ _
  rw [e4]
  exact ⟨⟨_, f1, rfl⟩, h _ f1 f3 f2 f4 f5 fun c o q => up (up (up (up (up q))))⟩
/-! strict=False, three -/
theorem meets_zf {v1 v2 v3 : Value} {o1 o2 o3 : Obj} {H1 H2 H3 : Heap → Prop} (B1 : Begins v1 o1 H1) (B2 : Begins v2 o2 H2) (B3 : Begins v3 o3 H3) :
    Meets (Builtin.«zip.__new__» ⟨[.type "zip", v1, v2, v3], kwS false⟩) (fun _ R s => (H1 s.heap ∧ H2 s.heap ∧ H3 s.heap) ∧ R (.ok (.ret (.ref (gzO3 s.heap o1 o2 o3).objs.size))) { s with heap := gzZ3 s.heap o1 o2 o3 }) :=
  .of_wp fun prog w A R s hs => by
    obtain ⟨h0, gg, dd, t0, oo⟩ := s; obtain ⟨⟨m1, m2, m3⟩, hr⟩ := hs
    have hsub := sub_zip
    have b1 : ∀ {A' : Around} {E : Value → Shared → Prop} {Q : Value → Shared → Prop}, Q (.ref h0.objs.size) ⟨h0.push o1, gg, dd, t0, oo⟩ → wpAny (model prog w) A' (pyIter v1) Q E ⟨h0, gg, dd, t0, oo⟩ := fun q => B1.iter prog w _ _ ⟨h0, gg, dd, t0, oo⟩ _ m1 q
    have b2 : ∀ {A' : Around} {E : Value → Shared → Prop} {Q : Value → Shared → Prop}, Q (.ref (h0.push o1).objs.size) ⟨(h0.push o1).push o2, gg, dd, t0, oo⟩ → wpAny (model prog w) A' (pyIter v2) Q E ⟨h0.push o1, gg, dd, t0, oo⟩ :=
      fun q => B2.iter prog w _ _ ⟨h0.push o1, gg, dd, t0, oo⟩ _ (B2.keeps _ _ m2 fun b o' x => Heap.get?_push_of_some _ x) q
    have b3 : ∀ {A' : Around} {E : Value → Shared → Prop} {Q : Value → Shared → Prop}, Q (.ref ((h0.push o1).push o2).objs.size) ⟨((h0.push o1).push o2).push o3, gg, dd, t0, oo⟩ → wpAny (model prog w) A' (pyIter v3) Q E ⟨(h0.push o1).push o2, gg, dd, t0, oo⟩ :=
      fun q => B3.iter prog w _ _ ⟨(h0.push o1).push o2, gg, dd, t0, oo⟩ _ (B3.keeps _ _ m3 fun b o' x => Heap.get?_push_of_some _ (Heap.get?_push_of_some _ x)) q
    wp_walk using b1, b2, b3
    exact ⟨_, rfl, hr⟩
theorem F_typeCall_zf (a b c : Value) : checkTypeCall "zip" ⟨[a, b, c], kwS false⟩ = pure () := by kernel_rfl
theorem F_newCall_zf (a b c : Value) : checkBuiltinCall "zip.__new__" ⟨[.type "zip", a, b, c], kwS false⟩ = pure () := by kernel_rfl
theorem F_args_zf (x a b c : Value) : argsOk "object.__init__" ⟨[x, a, b, c], kwS false⟩ := by unfold argsOk; kernel_rfl
theorem zf_begins {v1 v2 v3 : Value} {o1 o2 o3 : Obj} {H1 H2 H3 : Heap → Prop} {Q : Value → Shared → Prop} (B1 : Begins v1 o1 H1) (B2 : Begins v2 o2 H2) (B3 : Begins v3 o3 H3) (h1 : H1 s.heap) (h2 : H2 s.heap) (h3 : H3 s.heap)
    (h : ∀ g, IsZip g (s.heap.objs.size + 5) (s.heap.objs.size + 3) (s.heap.objs.size + 4) .none → IsTupOf3 g (s.heap.objs.size + 3) (.ref s.heap.objs.size) (.ref (s.heap.objs.size + 1)) (.ref (s.heap.objs.size + 2)) →
      IsTupOf3 g (s.heap.objs.size + 4) .none .none .none → g.get? s.heap.objs.size = some o1 → g.get? (s.heap.objs.size + 1) = some o2 → g.get? (s.heap.objs.size + 2) = some o3 →
      (∀ c o, s.heap.get? c = some o → g.get? c = some o) → Q (.ref (s.heap.objs.size + 5)) { s with heap := g }) :
    wpAny (model prog w) A (call (.type "zip") [v1, v2, v3] (kwS false)) Q E s := by
  refine callT_kw F.called_zip (by decide) (F_typeCall_zf _ _ _) (F_newCall_zf _ _ _) (fun x => F_args_zf x _ _ _) F.entry_zip_new (meets_zf B1 B2 B3) ⟨⟨h1, h2, h3⟩, ?_⟩
  obtain ⟨hp, gg, dd, t0, oo⟩ := s
  have e1 : (hp.push o1).objs.size = hp.objs.size + 1 := Heap.size_push ..
  have e2 : ((hp.push o1).push o2).objs.size = hp.objs.size + 2 := by rw [Heap.size_push, e1]
  have e3 : (((hp.push o1).push o2).push o3).objs.size = hp.objs.size + 3 := by rw [Heap.size_push, e2]
  have e4 : (gzT3 hp o1 o2 o3).objs.size = hp.objs.size + 4 := by rw [Heap.size_push, e3]
  have e5 : (gzO3 hp o1 o2 o3).objs.size = hp.objs.size + 5 := by rw [Heap.size_push, e4]
  have up : ∀ {g : Heap} {o : Obj} {c x}, g.get? c = some x → (g.push o).get? c = some x := fun q => Heap.get?_push_of_some _ q
  have f1 : (gzZ3 hp o1 o2 o3).get? (gzO3 hp o1 o2 o3).objs.size = some { cls := .type "zip", data := .fields #[.none, .bool false, .bool false, .ref (((hp.push o1).push o2).push o3).objs.size, .ref (gzT3 hp o1 o2 o3).objs.size] } := Heap.get?_push_size _ rfl
  have f2 : (gzZ3 hp o1 o2 o3).get? (gzT3 hp o1 o2 o3).objs.size = some { cls := .type "tuple", data := .seq #[.none, .none, .none] } := up (Heap.get?_push_size _ rfl)
  have f3 : (gzZ3 hp o1 o2 o3).get? (((hp.push o1).push o2).push o3).objs.size = some { cls := .type "tuple", data := .seq #[.ref hp.objs.size, .ref (hp.push o1).objs.size, .ref ((hp.push o1).push o2).objs.size] } := up (up (Heap.get?_push_size _ rfl))
  have f4 : (gzZ3 hp o1 o2 o3).get? hp.objs.size = some o1 := up (up (up (up (up (Heap.get?_push_size _ B1.free)))))
  have f5 : (gzZ3 hp o1 o2 o3).get? (hp.push o1).objs.size = some o2 := up (up (up (up (Heap.get?_push_size _ B2.free))))
  have f6 : (gzZ3 hp o1 o2 o3).get? ((hp.push o1).push o2).objs.size = some o3 := up (up (up (Heap.get?_push_size _ B3.free)))
  rw [e5, e4, e3] at f1
  rw [e4] at f2
  rw [e3, e2, e1] at f3
  rw [e1] at f5
  rw [e2] at f6
  show _ ∧ _
  rw [e5]
  exact ⟨⟨_, f1, rfl⟩, h _ f1 f3 f2 f4 f5 f6 fun c o q => up (up (up (up (up (up q)))))⟩
end
section
variable {M : Model} {A : Around} {E : Value → Shared → Prop} {s : Shared} {env : Env}
theorem callWithT_kw {pos : Pos} {T : String} {e : Expr} {rest : List Expr} {kws : List Keyword} {Q : Value → Shared → Prop}
    (h : wpAny M A (spliced (backTo pos (starEach (e :: rest) env))) (fun vs s1 => wpAny M A (evalAll ((backToKw pos (keywordEach kws env)).map (·.2)))
      (fun ks s2 => wpAny M A (call (.type T) vs (((backToKw pos (keywordEach kws env)).filterMap (·.1)).zip ks)) Q E s2) E s1) E s)
    (he : backTo pos (starEach (e :: rest) env) = (false, eval e env) :: backTo pos (starEach rest env) := by rfl)
    (hpl : (backTo pos (starEach (e :: rest) env)).any (·.1) = false := by rfl)
    (hall : (backToKw pos (keywordEach kws env)).all (·.1.isSome) = true := by rfl)
    (hno : (backToKw pos (keywordEach kws env)).any (·.1.isNone) = false := by rfl) :
    wpAny M A (callWith pos (.type T) [] (backTo pos (starEach (e :: rest) env)) (backToKw pos (keywordEach kws env))) Q E s := by
  unfold callWith
  have h' : wpAny M A (evalArgs (.type T) true (backTo pos (starEach (e :: rest) env)) (backToKw pos (keywordEach kws env))) (fun a s1 => wpAny M A (call (.type T) ([] ++ a.pos) a.kw) Q E s1) E s := by
    rw [he] at h ⊢
    exact evalArgs_kwB hall h
  refine wpAny_bind (wpAny_holding (wpAny_mono h' (fun a s1 k1 => wpAny_bind (wpAny_standAt ?_)) fun _ _ x => x))
  simp only [hpl, hno, Bool.or_false]
  exact wpAny_bind (wpAny_pure (wpAny_bind (wpAny_mono k1 (fun r s2 hr => wpAny_bind (wpAny_holding (wpAny_point (wpAny_pure hr)))) fun _ _ x => x)))
end
end Mir

/-! Mir 19: walks over zip(.., strict=..). -/
namespace Mir
open PySem PySem.Spec PyProof.Rows L2
/-- the items of 2 sources of one length, in new tuples -/
def ItZs (K : Fr) (a b : Src) : It :=
  ⟨fun i H => ∃ (xs ys : List V) (x y : V), a.its K H xs ∧ b.its K H ys ∧ xs.length = ys.length ∧ xs[i]? = some x ∧ ys[i]? = some y,
    fun i H v H' => ∃ (T : Addr) (x y : V), v = .ref T ∧ H T = none ∧ H' = upd H T (.tup [x, y]) ∧ (∀ xs, a.its K H xs → xs[i]? = some x) ∧ (∀ ys, b.its K H ys → ys[i]? = some y),
    fun i H => ∃ xs ys : List V, a.its K H xs ∧ b.its K H ys ∧ i = xs.length ∧ i = ys.length⟩
theorem turn_zs {P : Program} {w : World} {K : Fr} {elts : List Expr} {kk : Nat} {tpos : Pos} {a b : Src} {N : Nat} (ha : a.lt N) (hb : b.lt N) :
    Turn P w K (.Tuple elts kk tpos) (ItZs K a b) [N + 4, N + 2, N + 3, N, N + 1] (N + 4 : Nat)
      (fun i h => IsZs h (N + 4 : Nat) (N + 2 : Nat) (N + 3 : Nat) .none ∧ IsTupOf2 h (N + 2 : Nat) (.ref (N : Nat)) (.ref (N + 1 : Nat)) ∧ (∃ p0 p1, IsTupOf2 h (N + 3 : Nat) p0 p1) ∧ a.iSt (N : Nat) i h ∧ b.iSt (N + 1 : Nat) i h) where
  mem := by simp
  obj := fun i h st c hm => by
    obtain ⟨hz, hTI, ⟨p0, p1, hTO⟩, h1, h2⟩ := st
    have e' : c = (N + 4 : Nat) ∨ c = (N + 2 : Nat) ∨ c = (N + 3 : Nat) ∨ c = (N : Nat) ∨ c = (N + 1 : Nat) := by simpa using hm
    rcases e' with q | q | q | q | q
    · rw [q]; exact ⟨_, hz, fun v q => nomatch q⟩
    · rw [q]; exact ⟨_, hTI, fun v q => nomatch q⟩
    · rw [q]; exact ⟨_, hTO, fun v q => nomatch q⟩
    · rw [q]; exact Src.obj h1
    · rw [q]; exact Src.obj h2
  keep := fun i h h' st k => by
    obtain ⟨hz, hTI, ⟨p0, p1, hTO⟩, h1, h2⟩ := st
    exact ⟨k _ (by simp) _ hz, k _ (by simp) _ hTI, ⟨p0, p1, k _ (by simp) _ hTO⟩, Src.keep h1 fun o q => k _ (by simp) o q, Src.keep h2 fun o q => k _ (by simp) o q⟩
  item := by
    intro X hP hw hK hc i pins s σ H E I hf st hg
    subst hP hw hK
    obtain ⟨hz, hTI, hTO, h1, h2⟩ := st
    obtain ⟨xs, ys, x, y, hqx, hqy, hxy, hx, hy⟩ := hg
    obtain ⟨fp1, P1, S1, l1, D1, t1, u1, v1⟩ := Src.draws I hc hqx ha (Nat.le_add_right N 0) h1
    obtain ⟨fp2, P2, S2, l2, D2, t2, u2, v2⟩ := Src.draws I hc hqy hb (Nat.le_add_right N 1) h2
    rw [← hxy] at D2
    have G := goes_zs (elts := elts) (k := kk) (pos := tpos) (I.ok.hd hc) (zip_sep2 l1 l2) D1 D2
    refine G.goes i s _ E (List.getElem?_eq_some_iff.mp hx).1 ⟨hz, hTI, hTO, t1, t2⟩ fun v h' tk hY st' hk htk => ?_
    obtain ⟨T, w1, w2, rfl, hT, y1, y2, ⟨o, ho, hcl, nn, hdt⟩⟩ := hY
    obtain ⟨x1, e1, r1⟩ := v1 i w1 y1
    obtain ⟨x2, e2, r2⟩ := v2 i w2 y2
    obtain ⟨gz, gTI, gTO, g1, g2⟩ := st'
    have keep : ∀ c o, c ∉ [N + 4, N + 2, N + 3, N, N + 1] → s.heap.get? c = some o → h'.get? c = some o := fun c o hb q => hk c o (fun z => hb (by simp only [List.mem_cons, List.not_mem_nil, or_false] at z ⊢; rcases z with z | z | z | z <;> simp [z])) q
    have I1 : L2.Inv X pins σ (upd H T (.tup [x1, x2])) { s with heap := h', toks := tk } := I.turnedNew (ch := [N + 4, N + 2, N + 3, N, N + 1]) keep hf hT ⟨by show 2 ≤ sizeLine; decide, [w1, w2], .cons r1 (.cons r2 (.nil)), ⟨o, ho, hcl, nn, hdt⟩⟩
    refine ⟨.ref T, _, I1, rfl, ⟨T, x1, x2, rfl, I.hok.fresh hT, rfl, fun l hl => by rw [Src.inj I hl hqx]; exact e1, fun l hl => by rw [Src.inj I hl hqy]; exact e2⟩, ⟨gz, gTI, gTO, u1 _ _ g1, u2 _ _ g2⟩, fun c hcm => ?_⟩
    rw [upd_ne fun e => ?_]
    · exact (hf c hcm).1
    · subst e
      have hlt2 : c < s.heap.objs.size := by
        have e' : c = (N + 4 : Nat) ∨ c = (N + 2 : Nat) ∨ c = (N + 3 : Nat) ∨ c = (N : Nat) ∨ c = (N + 1 : Nat) := by simpa using hcm
        rcases e' with q | q | q | q | q
        · rw [q]; exact Heap.lt_size hz
        · rw [q]; exact Heap.lt_size hTI
        · obtain ⟨p0, p1, hTO⟩ := hTO; rw [q]; exact Heap.lt_size hTO
        · obtain ⟨o, e, _⟩ := Src.obj h1; rw [q]; exact Heap.lt_size e
        · obtain ⟨o, e, _⟩ := Src.obj h2; rw [q]; exact Heap.lt_size e
      exact absurd (Nat.lt_of_lt_of_le hlt2 hT) (Nat.lt_irrefl _)
  done := by
    intro X hP hw hK hc i pins s σ H E I hf st hg
    subst hP hw hK
    obtain ⟨hz, hTI, hTO, h1, h2⟩ := st
    obtain ⟨xs, ys, hqx, hqy, hi, hj⟩ := hg
    obtain ⟨fp1, P1, S1, l1, D1, t1, u1, v1⟩ := Src.draws I hc hqx ha (Nat.le_add_right N 0) h1
    obtain ⟨fp2, P2, S2, l2, D2, t2, u2, v2⟩ := Src.draws I hc hqy hb (Nat.le_add_right N 1) h2
    rw [← hj] at D2
    rw [← hi] at D1
    have G := goes_zs (elts := elts) (k := kk) (pos := tpos) (I.ok.hd hc) (zip_sep2 l1 l2) D1 D2
    refine G.stops s _ E ⟨hz, hTI, hTO, t1, t2⟩ fun h' tk hk htk => ?_
    exact I.turnedL (ch := [N + 4, N + 2, N + 3, N, N + 1]) (fun c o hb q => hk c o (fun z => hb (by simp only [List.mem_cons, List.not_mem_nil, or_false] at z ⊢; rcases z with z | z | z | z <;> simp [z])) q) hf
  self := fun A i s Q E st h => zs_iter st.1 h
def tBl (b : Bool) : TE := tC (.bl b)
def iZs (K : Fr) (ta : TA) : TI := fun σ H R => ta σ H fun vs H1 => ∃ (a b : Src) (x y : V) (xs ys : List V), vs = [x, y] ∧ a.ofV x ∧ b.ofV y ∧ a.its K H1 xs ∧ b.its K H1 ys ∧ xs.length = ys.length ∧ R (ItZs K a b) H1
theorem pk_strict {X : Cx} {b : Bool} {j : Nat} {p kp : Pos} : PK X [⟨some "strict", .Constant (.bool b) j p, kp⟩] (tCons (tC (.bl b)) tNil) := pk_cons pe_bl pk_nil
theorem bl_val {b : Bool} {ws : List Value} (r : Vals [V.bl b] ws) : ws = [.bool b] := by
  cases r with
  | cons h t => cases t; cases h; rfl
theorem pi_zs {X : Cx} {e1 e2 : Expr} {ta : TA} {p pos tpos cp kp : Pos} {j : Nat} {elts : List Expr} {kk : Nat} (hg : Gl X "zip") (hm : X.mg "zip" = none) (ha : PA X [e1, e2] ta)
    (he : backTo pos (starEach [e1, e2] X.env) = (false, eval e1 X.env) :: backTo pos (starEach [e2] X.env) := by rfl) (hpl : (backTo pos (starEach [e1, e2] X.env)).any (·.1) = false := by rfl) :
    PI X (.Tuple elts kk tpos) (.Call (.Name "zip" p) [e1, e2] [⟨some "strict", .Constant (.bool true) j cp, kp⟩] pos) (iZs X.K ta) := by
  refine ⟨fun pins s σ H R I h => wpAny_Call_Name_kw (ld_blt I hg hm boot_zip (callWithT_kw (thn (ha.run pos pins s σ H _ I h) fun us s1 ⟨vs, H1, I1, r1, q1⟩ => thn ((pk_strict (X := X) (b := true) (j := j) (p := cp) (kp := kp)).run pos pins s1 σ H1 (fun ws H2 => ws = [.bl true] ∧ H2 = H1) I1 ⟨rfl, rfl⟩) fun ks s2 ⟨zs, H2, I2, r2, q2⟩ => ?_) he hpl))⟩
  obtain ⟨rfl, rfl⟩ := q2
  obtain ⟨a, b, x, y, xs, ys, rfl, ox, oy, qx, qy, hxy, q⟩ := q1
  obtain ⟨u1, u2, rfl, r1, r2'⟩ := vals2 r1
  have hk := bl_val r2
  subst hk
  obtain ⟨p1, G1, B1, k1, i1, l1⟩ := Src.begins I2 ox r1 qx
  obtain ⟨p2, G2, B2, k2, i2, l2⟩ := Src.begins I2 oy r2' qy
  refine zs_begins B1 B2 k1 k2 fun h' hz hTI hTO h1 h2 hk => zs_iter hz ?_
  refine ⟨_, _, _, _, _, rfl, I2.kept (t' := s2.toks) hk, turn_zs l1 l2, ⟨hz, hTI, ⟨_, _, hTO⟩, i1 _ _ h1, i2 _ _ h2⟩, fun c hcm => ?_, q⟩
  have e' : c = s2.heap.objs.size + 4 ∨ c = s2.heap.objs.size + 2 ∨ c = s2.heap.objs.size + 3 ∨ c = s2.heap.objs.size ∨ c = s2.heap.objs.size + 1 := by simpa using hcm
  have hle : s2.heap.objs.size ≤ c := by
    rcases e' with z | z | z | z | z <;> (rw [z]; first | exact Nat.le_add_right _ _ | exact Nat.le_refl _)
  exact I2.fpOk hle (I2.hok.fresh hle)
theorem pi_zf {X : Cx} {e1 e2 e3 : Expr} {ta : TA} {p pos tpos cp kp : Pos} {j : Nat} {elts : List Expr} {kk : Nat} (hg : Gl X "zip") (hm : X.mg "zip" = none) (ha : PA X [e1, e2, e3] ta)
    (he : backTo pos (starEach [e1, e2, e3] X.env) = (false, eval e1 X.env) :: backTo pos (starEach [e2, e3] X.env) := by rfl) (hpl : (backTo pos (starEach [e1, e2, e3] X.env)).any (·.1) = false := by rfl) :
    PI X (.Tuple elts kk tpos) (.Call (.Name "zip" p) [e1, e2, e3] [⟨some "strict", .Constant (.bool false) j cp, kp⟩] pos) (iZ3 X.K ta) := by
  refine ⟨fun pins s σ H R I h => wpAny_Call_Name_kw (ld_blt I hg hm boot_zip (callWithT_kw (thn (ha.run pos pins s σ H _ I h) fun us s1 ⟨vs, H1, I1, r1, q1⟩ => thn ((pk_strict (X := X) (b := false) (j := j) (p := cp) (kp := kp)).run pos pins s1 σ H1 (fun ws H2 => ws = [.bl false] ∧ H2 = H1) I1 ⟨rfl, rfl⟩) fun ks s2 ⟨zs, H2, I2, r2, q2⟩ => ?_) he hpl))⟩
  obtain ⟨rfl, rfl⟩ := q2
  obtain ⟨a, b, c, x, y, t, xs, ys, ts, rfl, ox, oy, ot, qx, qy, qt, q⟩ := q1
  obtain ⟨u1, u2, u3, rfl, r1, r2', r3'⟩ := trip r1
  have hk := bl_val r2
  subst hk
  obtain ⟨p1, G1, B1, k1, i1, l1⟩ := Src.begins I2 ox r1 qx
  obtain ⟨p2, G2, B2, k2, i2, l2⟩ := Src.begins I2 oy r2' qy
  obtain ⟨p3, G3, B3, k3, i3, l3⟩ := Src.begins I2 ot r3' qt
  refine zf_begins B1 B2 B3 k1 k2 k3 fun h' hz hTI hTO h1 h2 h3 hk => wpAny_pyIter_zip hz ?_
  refine ⟨_, _, _, _, _, rfl, I2.kept (t' := s2.toks) hk, turn_z3 l1 l2 l3, ⟨hz, hTI, ⟨_, _, _, hTO⟩, i1 _ _ h1, i2 _ _ h2, i3 _ _ h3⟩, fun c hcm => ?_, q⟩
  have e' : c = s2.heap.objs.size + 5 ∨ c = s2.heap.objs.size + 3 ∨ c = s2.heap.objs.size + 4 ∨ c = s2.heap.objs.size ∨ c = s2.heap.objs.size + 1 ∨ c = s2.heap.objs.size + 2 := by simpa using hcm
  have hle : s2.heap.objs.size ≤ c := by
    rcases e' with z | z | z | z | z | z <;> (rw [z]; first | exact Nat.le_add_right _ _ | exact Nat.le_refl _)
  exact I2.fpOk hle (I2.hok.fresh hle)
def mZipS (fs : FA) : FA := fun env => match fs env with
  | some ([d1, d2], e1) => (match srcD d1, srcD d2 with | some xs, some ys => if xs.length = ys.length then some (zipD2 xs ys, e1) else none | _, _ => none)
  | _ => none
theorem walk_zs {K : Fr} {Hv : Hp} {a b : Src} {xs ys : List V} {dxs dys : List D} (h1 : a.its K Hv xs) (a1 : DpAll K Hv xs dxs) (h2 : b.its K Hv ys) (a2 : DpAll K Hv ys dys) (hl : dxs.length = dys.length) : WalkOk K Hv (ItZs K a b) (zipD2 dxs dys) := fun m H2 e al => by
  have g1 : a.its K H2 xs := Src.mono (e.trans msk_sub) h1
  have g2 : b.its K H2 ys := Src.mono (e.trans msk_sub) h2
  have n1 := dps_len a1
  have n2 := dps_len a2
  refine ⟨⟨xs, ys, g1, g2, ?_, ?_⟩, fun i d hd => ?_⟩
  · rw [zipD2_len]; omega
  · rw [zipD2_len]; omega
  · obtain ⟨d1, d2, f1, f2, rfl⟩ := zipD2_get _ _ i d hd
    obtain ⟨v1, w1, z1⟩ := dps_get a1 f1
    obtain ⟨v2, w2, z2⟩ := dps_get a2 f2
    refine ⟨⟨xs, ys, _, _, g1, g2, by omega, w1, w2⟩, fun x H3 y => ?_⟩
    obtain ⟨T, x1, x2, rfl, hT, rfl, y1, y2⟩ := y
    have c1 := y1 _ g1; rw [w1] at c1; cases c1
    have c2 := y2 _ g2; rw [w2] at c2; cases c2
    exact ⟨same_new hT, dp_newT al hT (.cons (dp_mono e z1) (.cons (dp_mono e z2) (.nil)))⟩
theorem si_zipS {X : Cx} {e1 e2 : Expr} {fs : FA} {p pos tpos cp kp : Pos} {j : Nat} {elts : List Expr} {kk : Nat} (hg : Gl X "zip") (hm : X.mg "zip" = none) (ha : SA X [e1, e2] fs)
    (he : backTo pos (starEach [e1, e2] X.env) = (false, eval e1 X.env) :: backTo pos (starEach [e2] X.env) := by rfl) (hpl : (backTo pos (starEach [e1, e2] X.env)).any (·.1) = false := by rfl) :
    SI X (.Tuple elts kk tpos) (.Call (.Name "zip" p) [e1, e2] [⟨some "strict", .Constant (.bool true) j cp, kp⟩] pos) (mZipS fs) := PI.imp (pi_zs hg hm ha he hpl) fun σ H R q => by
  obtain ⟨C, env, O, ds, env', R0, e, q⟩ := q
  unfold mZipS at e
  split at e
  · rename_i d1 d2 e1 h1
    split at e
    · rename_i x1 x2 xs ys s1 s2
      split at e
      · rename_i hxy
        cases e
        refine ⟨C, env, O, _, _, R0, h1, fun vs H1 O1 R1 a => ?_⟩
        cases a with
        | cons z1 t1 =>
          cases t1 with
          | cons z2 t2 =>
            cases t2
            obtain ⟨a, l1, o1, i1, b1⟩ := src_of z1 s1
            obtain ⟨b, l2, o2, i2, b2⟩ := src_of z2 s2
            exact ⟨a, b, _, _, l1, l2, rfl, o1, o2, Src.mono msk_sub i1, Src.mono msk_sub i2, by rw [dps_len b1, dps_len b2]; exact hxy, q _ H1 O1 R1 (walk_zs i1 b1 i2 b2 hxy)⟩
      · cases e
    · cases e
  · cases e
theorem si_zipF {X : Cx} {e1 e2 e3 : Expr} {fs : FA} {p pos tpos cp kp : Pos} {j : Nat} {elts : List Expr} {kk : Nat} (hg : Gl X "zip") (hm : X.mg "zip" = none) (ha : SA X [e1, e2, e3] fs)
    (he : backTo pos (starEach [e1, e2, e3] X.env) = (false, eval e1 X.env) :: backTo pos (starEach [e2, e3] X.env) := by rfl) (hpl : (backTo pos (starEach [e1, e2, e3] X.env)).any (·.1) = false := by rfl) :
    SI X (.Tuple elts kk tpos) (.Call (.Name "zip" p) [e1, e2, e3] [⟨some "strict", .Constant (.bool false) j cp, kp⟩] pos) (mZip3 fs) := PI.imp (pi_zf hg hm ha he hpl) fun σ H R q => by
  obtain ⟨C, env, O, ds, env', R0, e, q⟩ := q
  unfold mZip3 at e
  split at e
  · rename_i d1 d2 d3 e1 h1
    split at e
    · rename_i x1 x2 x3 xs ys ts s1 s2 s3
      cases e
      refine ⟨C, env, O, _, _, R0, h1, fun vs H1 O1 R1 a => ?_⟩
      cases a with
      | cons z1 t1 =>
        cases t1 with
        | cons z2 t2 =>
          cases t2 with
          | cons z3 t3 =>
            cases t3
            obtain ⟨a, l1, o1, i1, b1⟩ := src_of z1 s1
            obtain ⟨b, l2, o2, i2, b2⟩ := src_of z2 s2
            obtain ⟨c, l3, o3, i3, b3⟩ := src_of z3 s3
            exact ⟨a, b, c, _, _, _, l1, l2, l3, rfl, o1, o2, o3, Src.mono msk_sub i1, Src.mono msk_sub i2, Src.mono msk_sub i3, q _ H1 O1 R1 (walk_z3 i1 b1 i2 b2 i3 b3)⟩
    · cases e
  · cases e
theorem wA_zipS {env : MEnv} {PA : List D → MEnv → Prop} {fs : FA} : wA (mZipS fs) env PA ↔ wA fs env fun ds e => ∃ a b xs ys, ds = [a, b] ∧ srcD a = some xs ∧ srcD b = some ys ∧ xs.length = ys.length ∧ PA (zipD2 xs ys) e := by
  unfold wA wX mZipS
  constructor
  · rintro ⟨r, e, h, p⟩
    split at h
    · rename_i d1 d2 e1 h1
      split at h
      · rename_i x1 x2 xs ys s1 s2
        split at h
        · rename_i hl
          cases h
          exact ⟨_, _, h1, d1, d2, xs, ys, rfl, s1, s2, hl, p⟩
        · cases h
      · cases h
    · cases h
  · rintro ⟨r, e, h, a, b, xs, ys, rfl, s1, s2, hl, p⟩
    exact ⟨_, _, by simp only [h, s1, s2, if_pos hl], p⟩
end Mir

/-! Mir 20: extend, insert, index, lists of ranges. -/
namespace Mir
open PySem PySem.Spec PyProof.Rows L2
section
variable {X : Cx}
/-- x.extend(a new list) -/
def mExt (i : Nat) (f : FE) : FE := fun env => match ownAt env i, f env with
  | some _, some (.l ys, e1) => (match ownAt e1 i with | some xs => if xs.length + ys.length ≤ sizeLine then some (.d .none, putOwn e1 i (xs ++ ys)) else none | none => none)
  | _, _ => none
theorem se_ext {i : Nat} {x : Str} {a : Expr} {f : FE} {p2 apos pos : Pos} (h : PE X (.Call (.Attribute (.Name x p2) "extend" apos) [a] [] pos) (tBM X.K "list" rExtend (tVar i) (tCons (teOf X.K f) tNil))) :
    SE X (.Call (.Attribute (.Name x p2) "extend" apos) [a] [] pos) (mExt i f) := PE.imp h fun σ H Q q => by
  obtain ⟨C, env, O, r, env', R, e, q⟩ := q
  unfold mExt at e
  split at e
  · rename_i x1 x2 xs0 ys e1 h0 h1
    split at e
    · rename_i xs hx
      split at e
      · rename_i hz
        cases e
        obtain ⟨p, us0, g0, g1, g2, g3⟩ := R.own h0
        refine ⟨_, g1, .inl ⟨rfl, us0, .inl (.inl g2)⟩, C, env, O, _, _, R, h1, fun w H2 O2 P2 => ?_⟩
        have P3 := P2.rep
        obtain ⟨pb, ub, ew, n, _, hb, _, ab⟩ := P2
        subst ew
        obtain ⟨p', us, f0, f1, f2, f3⟩ := P3.own hx
        rw [g1] at f1; cases f1
        have ab' : DpAll X.K (msk (C.m O2) H2) ub ys := dps_mono (msk_anti fun a z => z.elim (fun z => .inl (.inl z)) .inr) ab
        exact ⟨p, pb, us, ub, rfl, rfl, f2, hb, by rw [dps_len f3, dps_len ab']; exact hz, q _ _ O2 ⟨P3.write hx f0 (dps_app f3 ab'), .non⟩⟩
      · cases e
    · cases e
  · cases e
/-- x.insert(i, e) -/
def mIns (i : Nat) (f g : FE) : FE := fun env => match ownAt env i, f env with
  | some _, some (.d (.int j), e1) => (match g e1 with
    | some (r, e2) => (match ownAt e2 i with | some xs => if xs.length < sizeLine ∧ 0 ≤ j ∧ j < 2 ^ 63 then some (.d .none, putOwn e2 i (xs.take j.toNat ++ [r.toD] ++ xs.drop j.toNat)) else none | none => none)
    | none => none)
  | _, _ => none
def rIns : V → List V → Hp → VK → Prop := fun x vs H Q => ∃ (l : Addr) (xs : List V) (i : Int) (y : V), x = .ref l ∧ vs = [.int i, y] ∧ H l = some (.lst xs) ∧ xs.length < sizeLine ∧ 0 ≤ i ∧ i < 2 ^ 63 ∧
    Q .non (upd H l (.lst (xs.take i.toNat ++ [y] ++ xs.drop i.toNat)))
theorem se_ins {i : Nat} {x : Str} {a b : Expr} {f g : FE} {p2 apos pos : Pos} (h : PE X (.Call (.Attribute (.Name x p2) "insert" apos) [a, b] [] pos) (tBM X.K "list" rIns (tVar i) (tCons (teOf X.K f) (tCons (teOf X.K g) tNil)))) :
    SE X (.Call (.Attribute (.Name x p2) "insert" apos) [a, b] [] pos) (mIns i f g) := PE.imp h fun σ H Q q => by
  obtain ⟨C, env, O, r, env', R, e, q⟩ := q
  unfold mIns at e
  split at e
  · rename_i x1 x2 xs0 j e1 h0 h1
    split at e
    · rename_i r2 e2 h2
      split at e
      · rename_i xs hx
        split at e
        · rename_i hz
          cases e
          obtain ⟨p, us0, g0, g1, g2, g3⟩ := R.own h0
          refine ⟨_, g1, .inl ⟨rfl, us0, .inl (.inl g2)⟩, C, env, O, _, _, R, h1, fun w H2 O2 P2 => ?_⟩
          obtain ⟨P2, Q2⟩ := P2
          cases Q2
          refine te_run P2 h2 fun w H3 O3 _ P3 d3 => ?_
          obtain ⟨p', us, f0, f1, f2, f3⟩ := P3.own hx
          rw [g1] at f1; cases f1
          exact ⟨p, us, j, w, rfl, rfl, f2, by rw [dps_len f3]; exact hz.1, hz.2.1, hz.2.2, q _ _ O3 ⟨P3.write hx f0 (dps_app (dps_app (dps_take _ f3) (.cons d3 .nil)) (dps_drop _ f3)), .non⟩⟩
        · cases e
      · cases e
    · cases e
  · cases e
/-- xs.index(e) of data -/
def firstAt (d : D) : List D → Option Nat
  | [] => none
  | z :: r => if PyData.eqv z d = true then some 0 else (match firstAt d r with | some j => some (j + 1) | none => none)
theorem firstAt_ok {d : D} : ∀ {ds : List D} {j : Nat}, firstAt d ds = some j → (∃ z, ds[j]? = some z ∧ PyData.eqv z d = true) ∧ ∀ (m : Nat) (z : D), m < j → ds[m]? = some z → PyData.eqv z d = false
  | [], j, h => by cases h
  | z :: r, j, h => by
    unfold firstAt at h
    split at h
    · rename_i hz
      cases h
      exact ⟨⟨z, rfl, hz⟩, fun m z hm => by omega⟩
    · rename_i hz
      split at h
      · rename_i k hk
        cases h
        obtain ⟨h1, h2⟩ := firstAt_ok hk
        refine ⟨h1, fun m y hm hy => ?_⟩
        cases m with
        | zero => simp at hy; subst hy; simpa using hz
        | succ m => exact h2 m y (by omega) (by simpa using hy)
      · cases h
def indexD (d e : D) : Option Rv := match d with
  | .list ds => if SeqAt.shaped (.list ds) = true ∧ SeqAt.shaped e = true then (match firstAt e ds with | some j => some (.d (.int (j : Nat))) | none => none) else none
  | _ => none
theorem tyD {K : Fr} {m : Addr → Prop} {H : Hp} {v : V} {ds : List D} (h : Dp K (msk m H) v (.list ds)) : tyV K "list" v H := by
  cases h with
  | lst h t => exact .inl ⟨rfl, _, sql_mono msk_sub h⟩
theorem se_index {e a : Expr} {f g : FE} {apos pos : Pos} (h : PE X (.Call (.Attribute e "index" apos) [a] [] pos) (tBM X.K "list" (rIndexD X.K) (teOf X.K f) (tCons (teOf X.K g) tNil))) :
    SE X (.Call (.Attribute e "index" apos) [a] [] pos) (m2 indexD f g) := PE.imp h fun σ H Q q => by
  obtain ⟨C, env, O, r, env', R, e, q⟩ := q
  unfold m2 at e
  split at e
  · rename_i r1 e1 h1
    split at e
    · rename_i r2 e2 h2
      unfold indexD at e
      split at e
      · rename_i r3 hr
        split at hr
        · rename_i ds hd
          split at hr
          · rename_i hs
            split at hr
            · rename_i j hj
              cases hr; cases e
              refine te_run R h1 fun v H1 O1 _ P1 d1 => ?_
              rw [hd] at d1
              refine ⟨tyD d1, te_run P1 h2 fun w H2 O2 P2 P2' d2 => ?_⟩
              have d1' := P2.keep d1
              obtain ⟨⟨z, hz, hzd⟩, hno⟩ := firstAt_ok hj
              cases d1' with
              | lst h t =>
                exact ⟨_, w, r2.toD, ds, j, z, rfl, rfl, (dp_mono msk_sub (Dp.lst h t)).deep, (dp_mono msk_sub d2).deep, hs.1, hs.2, hz, hzd, hno, q _ _ O2 ⟨P2', .int _⟩⟩
            · cases hr
          · cases hr
        · cases hr
      · cases e
    · cases e
  · cases e
theorem wE_ext {env : MEnv} {P : Rv → MEnv → Prop} {i : Nat} {f : FE} : wE (mExt i f) env P ↔ (∃ zs, ownAt env i = some zs) ∧ wE f env fun r e => ∃ ys xs, r = .l ys ∧ ownAt e i = some xs ∧ xs.length + ys.length ≤ sizeLine ∧ P (.d .none) (putOwn e i (xs ++ ys)) := by
  unfold wE wX mExt
  constructor
  · rintro ⟨r, e, h, p⟩
    split at h
    · rename_i xs0 ys e1 h0 h1
      split at h
      · rename_i xs hx
        split at h
        · rename_i hz
          cases h
          exact ⟨⟨_, h0⟩, _, _, h1, ys, xs, rfl, hx, hz, p⟩
        · cases h
      · cases h
    · cases h
  · rintro ⟨⟨zs, h0⟩, r, e, h1, ys, xs, rfl, hx, hz, p⟩
    exact ⟨_, _, by simp only [h0, h1, hx, if_pos hz], p⟩
theorem wE_ins {env : MEnv} {P : Rv → MEnv → Prop} {i : Nat} {f g : FE} : wE (mIns i f g) env P ↔ (∃ zs, ownAt env i = some zs) ∧ wE f env fun r e => ∃ j, r = .d (.int j) ∧ wE g e fun r e => ∃ xs, ownAt e i = some xs ∧ (xs.length < sizeLine ∧ 0 ≤ j ∧ j < 2 ^ 63) ∧ P (.d .none) (putOwn e i (xs.take j.toNat ++ [r.toD] ++ xs.drop j.toNat)) := by
  unfold wE wX mIns
  constructor
  · rintro ⟨r, e, h, p⟩
    split at h
    · rename_i xs0 j e1 h0 h1
      split at h
      · rename_i r2 e2 h2
        split at h
        · rename_i xs hx
          split at h
          · rename_i hz
            cases h
            exact ⟨⟨_, h0⟩, _, _, h1, j, rfl, _, _, h2, xs, hx, hz, p⟩
          · cases h
        · cases h
      · cases h
    · cases h
  · rintro ⟨⟨zs, h0⟩, r, e, h1, j, rfl, r2, e2, h2, xs, hx, hz, p⟩
    exact ⟨_, _, by simp only [h0, h1, h2, hx, if_pos hz], p⟩

/-- list(range(n)), tuple(range(n)), list(range(i, j)) -/
def mRg1 (mk : List D → Rv) (f : FE) : FE := fun env => match f env with
  | some (.d (.int j), e) => if 0 ≤ j ∧ j ≤ 16777216 then some (mk (rangeD 0 j.toNat), e) else none
  | _ => none
def mRg2 (mk : List D → Rv) (f g : FE) : FE := fun env => match f env with
  | some (.d (.int i), e) => (match g e with
    | some (.d (.int j), e2) => if 0 ≤ i ∧ i ≤ 16777216 ∧ 0 ≤ j ∧ j ≤ 16777216 then some (mk (rangeD i (j - i).toNat), e2) else none
    | _ => none)
  | _ => none
theorem rg_dps {K : Fr} {H : Hp} (a b : Int) : DpAll K H (rgV a b) (rangeD a (b - a).toNat) := by
  unfold rgV rangeD
  generalize List.range (b - a).toNat = l
  induction l with
  | nil => exact .nil
  | cons x l ih => exact .cons (.int _) ih
theorem se_lrg1 {a : Expr} {f : FE} {p p2 pos pos2 : Pos} (hc : X.calm = true) (hg : Gl X "list") (hm : X.mg "list" = none) (hg2 : Gl X "range") (hm2 : X.mg "range" = none) (ha : SE X a f)
    (na : starEach [a] X.env = (false, eval a X.env) :: starEach [] X.env := by rfl) (nb : starEach [.Call (.Name "range" p2) [a] [] pos2] X.env = (false, eval (.Call (.Name "range" p2) [a] [] pos2) X.env) :: starEach [] X.env := by rfl) :
    SE X (.Call (.Name "list" p) [.Call (.Name "range" p2) [a] [] pos2] [] pos) (mRg1 .l f) := PE.imp (pe_listRg hc hg hm (prg_1 hg2 hm2 ha na) nb) fun σ H Q q => by
  obtain ⟨C, env, O, r, env', R, e, q⟩ := q
  unfold mRg1 at e
  split at e
  · rename_i j e1 h1
    split at e
    · rename_i hj
      cases e
      refine ⟨C, env, O, _, _, R, h1, fun v H1 O1 P1 => ?_⟩
      obtain ⟨P1, Q1⟩ := P1
      cases Q1
      refine ⟨j, rfl, .of_le (by omega) hj.2 (by omega) hj.1, fun p0 n => q _ _ O1 (P1.post (same_new n) (rv_new n ?_))⟩
      have := rg_dps (K := X.K) (H := msk (C.m O1) H1) 0 j
      rw [Int.sub_zero] at this
      exact this
    · cases e
  · cases e
theorem se_trg1 {a : Expr} {f : FE} {p p2 pos pos2 : Pos} (hc : X.calm = true) (hg : Gl X "tuple") (hm : X.mg "tuple" = none) (hg2 : Gl X "range") (hm2 : X.mg "range" = none) (ha : SE X a f)
    (na : starEach [a] X.env = (false, eval a X.env) :: starEach [] X.env := by rfl) (nb : starEach [.Call (.Name "range" p2) [a] [] pos2] X.env = (false, eval (.Call (.Name "range" p2) [a] [] pos2) X.env) :: starEach [] X.env := by rfl) :
    SE X (.Call (.Name "tuple" p) [.Call (.Name "range" p2) [a] [] pos2] [] pos) (mRg1 (fun ds => .d (.tuple ds)) f) := PE.imp (pe_tupRg hc hg hm (prg_1 hg2 hm2 ha na) nb) fun σ H Q q => by
  obtain ⟨C, env, O, r, env', R, e, q⟩ := q
  unfold mRg1 at e
  split at e
  · rename_i j e1 h1
    split at e
    · rename_i hj
      cases e
      refine ⟨C, env, O, _, _, R, h1, fun v H1 O1 P1 => ?_⟩
      obtain ⟨P1, Q1⟩ := P1
      cases Q1
      refine ⟨j, rfl, .of_le (by omega) hj.2 (by omega) hj.1, fun p0 n => q _ _ O1 (P1.post (same_new n) (dp_newT P1.al n ?_))⟩
      have := rg_dps (K := X.K) (H := msk (C.m O1) H1) 0 j
      rw [Int.sub_zero] at this
      exact this
    · cases e
  · cases e
theorem se_lrg2 {a b : Expr} {f g : FE} {p p2 pos pos2 : Pos} (hc : X.calm = true) (hg : Gl X "list") (hm : X.mg "list" = none) (hg2 : Gl X "range") (hm2 : X.mg "range" = none) (ha : SE X a f) (hb : SE X b g)
    (na : starEach [a, b] X.env = (false, eval a X.env) :: starEach [b] X.env := by rfl) (nb : starEach [b] X.env = (false, eval b X.env) :: starEach [] X.env := by rfl) (hp : (backTo pos2 (starEach [b] X.env)).any (·.1) = false := by rfl)
    (nc : starEach [.Call (.Name "range" p2) [a, b] [] pos2] X.env = (false, eval (.Call (.Name "range" p2) [a, b] [] pos2) X.env) :: starEach [] X.env := by rfl) :
    SE X (.Call (.Name "list" p) [.Call (.Name "range" p2) [a, b] [] pos2] [] pos) (mRg2 .l f g) := PE.imp (pe_listRg hc hg hm (prg_2 hg2 hm2 ha hb na nb hp) nc) fun σ H Q q => by
  obtain ⟨C, env, O, r, env', R, e, q⟩ := q
  unfold mRg2 at e
  split at e
  · rename_i i e1 h1
    split at e
    · rename_i j e2 h2
      split at e
      · rename_i hj
        cases e
        refine ⟨C, env, O, _, _, R, h1, fun v H1 O1 P1 => ?_⟩
        obtain ⟨P1, Q1⟩ := P1
        cases Q1
        refine ⟨C, e1, O1, _, _, P1, h2, fun v H2 O2 P2 => ?_⟩
        obtain ⟨P2, Q2⟩ := P2
        cases Q2
        exact ⟨i, j, rfl, rfl, .of_le hj.1 hj.2.2.2 hj.2.1 hj.2.2.1, fun p0 n => q _ _ O2 (P2.post (same_new n) (rv_new n (rg_dps i j)))⟩
      · cases e
    · cases e
  · cases e
theorem wE_rg1 {env : MEnv} {P : Rv → MEnv → Prop} {mk : List D → Rv} {f : FE} : wE (mRg1 mk f) env P ↔ wE f env fun r e => ∃ j, r = .d (.int j) ∧ (0 ≤ j ∧ j ≤ 16777216) ∧ P (mk (rangeD 0 j.toNat)) e := by
  unfold wE wX mRg1
  constructor
  · rintro ⟨r, e, h, p⟩
    split at h
    · rename_i j e1 h1
      split at h
      · rename_i hz
        cases h
        exact ⟨_, _, h1, j, rfl, hz, p⟩
      · cases h
    · cases h
  · rintro ⟨r, e, h1, j, rfl, hz, p⟩
    exact ⟨_, _, by simp only [h1, if_pos hz], p⟩
theorem wE_rg2 {env : MEnv} {P : Rv → MEnv → Prop} {mk : List D → Rv} {f g : FE} : wE (mRg2 mk f g) env P ↔ wE f env fun r e => ∃ i, r = .d (.int i) ∧ wE g e fun r e => ∃ j, r = .d (.int j) ∧ (0 ≤ i ∧ i ≤ 16777216 ∧ 0 ≤ j ∧ j ≤ 16777216) ∧ P (mk (rangeD i (j - i).toNat)) e := by
  unfold wE wX mRg2
  constructor
  · rintro ⟨r, e, h, p⟩
    split at h
    · rename_i i e1 h1
      split at h
      · rename_i j e2 h2
        split at h
        · rename_i hz
          cases h
          exact ⟨_, _, h1, i, rfl, _, _, h2, j, rfl, hz, p⟩
        · cases h
      · cases h
    · cases h
  · rintro ⟨r, e, h1, i, rfl, r2, e2, h2, j, rfl, hz, p⟩
    exact ⟨_, _, by simp only [h1, h2, if_pos hz], p⟩
end
end Mir

/-! Mir 21: a tuple so many times, once too. -/
namespace Mir
open PySem PySem.Spec PyProof.Rows L2
theorem tmul_one (l : Addr) (items : Array Value) (n : Nat) (dd : Option Addr) (sl : Array (Option Value)) (u : Tok) :
    Meets (Builtin.«tuple.__mul__» ⟨[.ref l, .int 1 u], []⟩) (fun _ R s => s.heap.get? l = some { cls := .type "tuple", dict := dd, data := .seq items n, slots := sl } ∧ R (.ok (.ret (Value.ref l))) s) :=
  .of_wp fun prog w A R s h => by
    obtain ⟨hp, g, d, tk, os⟩ := s
    obtain ⟨hl, h⟩ := h
    have f1 := AutoSeq1.idx_int
    have c1 : (items.isEmpty || (1 : Int) == 1) = true := by simp
    wp_walk using wpAny_loadPart' hl
    repeat (first
      | (refine wpAny_ite_false (decide_eq_false (by decide)) ?_; wp_walk using wpAny_loadPart' hl)
      | (refine wpAny_ite_true (decide_eq_true c1) ?_; wp_walk using wpAny_loadPart' hl))
    all_goals (first | exact ⟨_, rfl, h⟩ | skip)
    all_goals trace_state
section
variable {X : Cx}
theorem op_rep1 : OpR X (binaryOp .Mult) (fun x y H Q => ∃ (l : Addr) (xs : List V), x = .ref l ∧ y = .int 1 ∧ SqT X.K H l xs ∧ Q (.ref l) H) := by
  intro pins s σ H x y v u Q I rx ry h
  obtain ⟨l, xs, rfl, rfl, hT, q⟩ := h
  cases rx
  obtain ⟨t, rfl⟩ := ry
  obtain ⟨its, r, ⟨⟨cls, dd, data, sl⟩, ho, hc, n, hd⟩, hs⟩ := I.tuple hT
  simp only at hc hd
  subst hc hd
  refine wpAny_binaryOp_repeat_ref (T := "tuple") (U := "int") (by decide) ⟨_, ho, rfl⟩ (fun s' => typeIs_int s' 1 t) noFill_tuple_mul F.fills_int_mul F.slot_int_rmul repeat_tuple F.slot_int_index.lookup
    (call_meets F.slot_int_rmul (typeIs_int s 1 t) F.entry_int_rmul (F.args_int_rmul_2 _ _) (int_rmul_tuple 1 t l its.toArray n dd sl)
      ⟨ho, rfl, ⟨_, ho, rfl⟩, call_meets F.slot_tuple_mul ⟨_, ho, rfl⟩ F.entry_tuple_mul (F.args_tuple_mul_2 _ _) (tmul_one l its.toArray n dd sl t) ⟨ho, ?_⟩⟩)
  exact ⟨.ref l, H, I, rfl, q⟩
def mulTD : D → D → Option Rv
  | .tuple a, .int k => if k = 1 then some (.d (.tuple a)) else if a ≠ [] ∧ 2 ≤ k ∧ k ≤ 1000 ∧ a.length ≤ 1000 then some (.d (.tuple (List.replicate k.toNat a).flatten)) else none
  | _, _ => none
theorem op_mulTD : OpR X (binaryOp .Mult) (rD2 X.K mulTD) := by
  intro pins s σ H x y v u Q I rx ry h
  obtain ⟨m, d, e, r, al, hd, he, hz, q⟩ := h
  unfold mulTD at hz
  split at hz
  · split at hz
    · rename_i a k hk
      subst hk
      cases hz
      cases he
      cases hd with
      | tup h1 a1 => exact op_rep1 pins s σ H _ _ v u Q I rx ry ⟨_, _, rfl, rfl, sqt_mono msk_sub h1, q _ H (Same.refl _) (Dp.tup h1 a1)⟩
    · split at hz
      · rename_i hm
        cases hz; cases he
        cases hd with
        | tup h1 a1 => exact op_repT pins s σ H _ _ v u Q I rx ry ⟨_, _, _, rfl, rfl, sqt_mono msk_sub h1, fun z => hm.1 ((dps_nil a1).mp z), hm.2.1, hm.2.2.1, by rw [dps_len a1]; exact hm.2.2.2, fun p n => q _ _ (same_new n) (dp_newT al n (dps_rep a1 _))⟩
      · cases hz
  · cases hz
end
theorem rep_one {α : Type} (x : α) : ∀ n : Nat, (List.replicate n [x]).flatten = List.replicate n x
  | 0 => rfl
  | n + 1 => by rw [List.replicate_succ, List.flatten_cons, rep_one x n]; rfl
theorem mulT_1 {x : D} {k : Int} (h1 : 1 ≤ k) (h2 : k ≤ 1000) : mulTD (.tuple [x]) (.int k) = some (.d (.tuple (List.replicate k.toNat x))) := by
  unfold mulTD
  by_cases e : k = 1
  · subst e; rfl
  · show (if k = 1 then _ else if _ then _ else _) = _
    rw [if_neg e, if_pos ⟨by simp, by omega, h2, by simp⟩, rep_one]
end Mir

/-! Mir 22: calls by names (in the reversed order). -/
namespace Mir
open PySem PySem.Spec PyProof.Rows L2
/-- nothing by place, the names' values the other way about -/
def rvK {α : Type} (n : Nat) (us ws : List α) : List α := match us with | [] => if ws.length = n then ws.reverse else [] | _ :: _ => []
theorem rvK_of {α : Type} {n : Nat} {us ws : List α} (h : (rvK n us ws).length = n) (h0 : 0 < n) : us = [] ∧ ws.length = n ∧ rvK n us ws = ws.reverse := by
  unfold rvK at h ⊢
  split at h
  · split at h
    · rename_i hl; exact ⟨rfl, hl, if_pos hl⟩
    · simp at h; omega
  · simp at h; omega
theorem rvK_rel {n : Nat} {vs : List V} {us : List Value} {zs : List V} {ws : List Value} (h : Vals vs us) (k : Vals zs ws) : Vals (rvK n vs zs) (rvK n us ws) := by
  cases h with
  | cons _ _ => exact .nil
  | nil =>
    unfold rvK
    simp only
    rw [k.length]
    split
    · exact k.reverse
    · exact .nil
theorem fun_kb {K : Fr} {x qual : Str} {st : Stmt} {f : Addr} {fd : FuncData} {ps ks : List Str} (F : Fun K x qual st f fd) (h0 : 0 < ps.length)
    (h : ∀ (kV doc pm : Value) (an : Option Addr) (cdv ct : Value) (ws : List Value), ws.length = ps.length → bindArgs (PySem.W.fnOf x qual (defArgs st) (defBody st) (defScope st) .none kV doc pm an cdv ct) ⟨[], ks.zip ws⟩ = pure (ps.zip ws.reverse)) : KBinds K fd ps ks (rvK ps.length) (rvK ps.length) := by
  obtain ⟨oc, od, kV, doc, pm, an, cdv, ct, osl, rfl, lk, hcd⟩ := F.ex
  refine ⟨fun s us ws _ hl => ?_, rvK_rel⟩
  obtain ⟨rfl, h1, h2⟩ := rvK_of hl h0
  rw [h2]
  exact .of_eq (h kV doc pm an cdv ct ws h1)
section
variable {X : Cx}
theorem PK.imp {kws : List Keyword} {t t' : TA} (h : PK X kws t) (i : ∀ σ H Q, t' σ H Q → t σ H Q) : PK X kws t' := ⟨fun pos pins s σ H Q I q => h.run pos pins s σ H Q I (i σ H Q q)⟩
abbrev SK (X : Cx) (kws : List Keyword) (f : FA) : Prop := PK X kws (taOf X.K f)
theorem sk_nil : SK X [] mNil := PK.imp pk_nil fun σ H Q q => by
  obtain ⟨C, env, O, ds, env', R, e, q⟩ := q
  cases e
  exact q _ _ O R .nil
theorem sk_cons {nm : Option Str} {e : Expr} {kp : Pos} {kws : List Keyword} {f : FE} {g : FA} (ha : SE X e f) (hr : SK X kws g) : SK X (⟨nm, e, kp⟩ :: kws) (mCons f g) := PK.imp (pk_cons ha hr) fun σ H Q q => by
  obtain ⟨C, env, O, ds, env', R, e, q⟩ := q
  unfold mCons at e
  split at e
  · rename_i r e1 h1
    split at e
    · rename_i ds2 e2 h2
      cases e
      refine te_run R h1 fun v H1 O1 P1 _ d1 => ?_
      refine ⟨(C.pinAt (msk (C.m O) H)).pinAt (msk (C.m O1) H1), e1, O1, _, _, P1.pinned, h2, fun vs H2 O2 P2 a2 => ?_⟩
      have P3 : Rep X.K C env' σ H2 O2 := by
        have := P2.unpin P1.pin
        exact this.unpin R.pin
      exact q _ _ O2 P3 (.cons (dp_mono P2.pin d1) a2)
    · cases e
  · cases e
variable {CX : CXT} {k : Nat} {f : Addr} {fd : FuncData} {ps ks : List Str} {sp : Sp} {E : XK} {x : Str} {p pos : Pos} {kws : List Keyword} {tk : TA} {g : List Value → List Value → List Value} {gV : List V → List V → List V}
theorem pe_callK0 (F : FnOk X.prog X.w X.K X.mg X.base CX k f fd ps sp) (hr : Room k X.A) (hg : Gl X x) (hm : X.mg x = some (.ref f)) (hk : PySem.W.keepIn X.K (.ref f) = true) (hb : KBinds X.K fd ps ks g gV) (hx : Passes CX X E)
    (hkw : PK X kws tk) (hall : (backToKw pos (keywordEach kws X.env)).all (·.1.isSome) = true := by rfl) (hks : (backToKw pos (keywordEach kws X.env)).filterMap (·.1) = ks := by rfl)
    (hdb : (x == ("__debug__" : Str)) = false := by decide) (hpl : ((backTo pos (starEach [] X.env)).any (·.1) || (backToKw pos (keywordEach kws X.env)).any (·.1.isNone)) = false := by rfl) :
    PE X (.Call (.Name x p) [] kws pos) (tCallK sp gV E tNil tk) := by
  refine ⟨fun pins s σ H Q I h => wpAny_Call_Name_kw (ld_glob I hg hm ?_ hdb)⟩
  refine PySem.W.callWith_KW0 (h₀ := X.base) I.ok.mod.kin hk hall (thn (hkw.run pos pins s σ H _ I h) fun ws s2 ⟨zs, H2, I2, rz, q2⟩ => ⟨I2.kIn, ?_⟩) hpl
  rw [hks]
  exact run_fnk (us := []) (vs := []) F hr hb hx I2 .nil rz q2
def zRev (z : List D → Option Rv) : List D → Option Rv := fun ds => z ds.reverse
theorem zRev_1 {z : List D → Option Rv} {a : D} : zRev z [a] = z [a] := rfl
theorem zRev_2 {z : List D → Option Rv} {a b : D} : zRev z [a, b] = z [b, a] := rfl
theorem zRev_3 {z : List D → Option Rv} {a b c : D} : zRev z [a, b, c] = z [c, b, a] := rfl
theorem zRev_4 {z : List D → Option Rv} {a b c d : D} : zRev z [a, b, c, d] = z [d, c, b, a] := rfl
theorem zRev_5 {z : List D → Option Rv} {a b c d e : D} : zRev z [a, b, c, d, e] = z [e, d, c, b, a] := rfl
theorem se_callK {n : Nat} {z : List D → Option Rv} {fs : FA} (F : FnOk X.prog X.w X.K X.mg X.base CX0 k f fd ps (spP X.K n z)) (hr : Room k X.A) (hg : Gl X x) (hm : X.mg x = some (.ref f)) (hk : PySem.W.keepIn X.K (.ref f) = true) (hb : KBinds X.K fd ps ks (rvK n) (rvK n))
    (hkw : SK X kws fs) (hz : ∀ ds r, z ds = some r → ds.length = n) (hall : (backToKw pos (keywordEach kws X.env)).all (·.1.isSome) = true := by rfl) (hks : (backToKw pos (keywordEach kws X.env)).filterMap (·.1) = ks := by rfl)
    (hdb : (x == ("__debug__" : Str)) = false := by decide) (hpl : ((backTo pos (starEach [] X.env)).any (·.1) || (backToKw pos (keywordEach kws X.env)).any (·.1.isNone)) = false := by rfl) :
    SE X (.Call (.Name x p) [] kws pos) (mA (zRev z) fs) := PE.imp (pe_callK0 F hr hg hm hk hb pass0 hkw hall hks hdb hpl) fun σ H Q q => te_call (r := fun vs H Q => spP X.K n z (rvK n [] vs) H Q E0) (fun vs H Q h => by
      obtain ⟨m, ds, r, al, a, e, q⟩ := h
      have hl := hz _ r e
      rw [List.length_reverse] at hl
      have e2 : rvK n [] vs = vs.reverse := by unfold rvK; exact if_pos (by rw [dps_len a]; exact hl)
      rw [e2]
      exact ⟨by rw [List.length_reverse, dps_len a]; exact hl, m, ds.reverse, r, al, dps_rev a, e, q⟩) σ H Q q
end
end Mir

/-! Mir 23: defs that are called with no repr() under way; repr of data. -/
namespace Mir
open PySem PySem.Spec PyProof.Rows L2
/-- a def's promise, kept where no repr() is under way -/
structure GnOk (P : Program) (w : World) (K : Fr) (mg : Str → Option Value) (base : Heap) (k : Nat) (f : Addr) (fd : FuncData) (ps : List Str) (sp : Sp) : Prop where
  len : ∀ vs H Q E, sp vs H Q E → vs.length = ps.length
  run : ∀ (A : Around) (outer : List Env) (s : Shared) (H : Hp) (args : Args) (us : List Value) (vs : List V) (Q : VK) (E : XK), Room k A → A.guards = some [] → Env0 P w K mg base A outer s H → BindsTo s fd args (ps.zip us) → Vals vs us → sp vs H Q E →
    codeAny (model P w) A (.call (.ref f) args) (CR CX0 outer P w H s Q E) s
section
variable {P : Program} {w : World} {K : Fr} {mg : Str → Option Value} {base : Heap}
theorem gn_of {x qual : Str} {st : Stmt} {f : Addr} {fd : FuncData} {N ps : List Str} {k : Nat} {sp : Sp} (F : Fun K x qual st f fd) (S : FnScope N ps (defScope st)) (len : ∀ vs H Q E, sp vs H Q E → vs.length = ps.length)
    (body : ∀ (cdv : Value) (A : Around) (outer : List Env) (s : Shared) (H : Hp) (vs : List V) (Q : VK) (E : XK), Room k (A.deeper (envOfC qual (defScope st) s.heap.objs.size f cdv)) → A.guards = some [] → sp vs H Q E →
      ∃ t, PSs (cxOf CX0 P w K mg base N qual (defScope st) f cdv A outer s H E).nox (defBody st) t ∧ t { nx := fun _ H' => Q .non H', rt := Q } (L2.start N vs) H) : GnOk P w K mg base (k + 1) f fd ps sp := by
  obtain ⟨oc, od, kV, doc, pm, an, cdv, ct, osl, rfl, lk, hcd⟩ := F.ex
  refine ⟨len, fun A out s H ar us vs Q E rm gd ev hb rl hs => ?_⟩
  have hn := len _ _ _ _ hs
  have inn : K.In s.heap := ev.mod.kin.keeps fun b o q => (ev.bs b o q).1
  have nol : s.heap.NoLimit := ev.mod.nolimit.keeps fun b o q => (ev.bs b o q).1
  have kinds : ∀ y ∈ ps.zip us, (defScope st).names.lookup y.1 = some .local ∨ ((defScope st).names.lookup y.1 = some .cell ∧ ((cellsFrom (s.heap.objs.size + 1) (defScope st).names []).lookup y.1).isSome = true) := fun ⟨a, b⟩ hy => by
    rcases S.par a (List.of_mem_zip hy).1 with z | z
    · exact .inl z
    · exact .inr ⟨z, PySem.W.cellsFrom_some _ _ _ (.inl z)⟩
  refine codeAny_call_function rm.depth (inn _ _ lk) rfl S.co S.gen rfl (PySem.W.codeRec_of inn hcd) (hb _ _ _ _ (wpAny_newFunctionEnv_cells S.kind kinds fun env he s1 x => ?_))
  subst he
  refine ⟨nol.keeps x.toInCall.keep, codeAny_func ?_⟩
  obtain ⟨t, ht0, hq⟩ := body cdv A out s H vs Q E (rm.deeper _) gd hs
  have ht := ht0.nox
  have J0 : Inv (cxOf CX0 P w K mg base N qual (defScope st) f cdv A out s H E) [] (L2.start N vs) H s1 := inv_start S rm.hd ev hn rl x
  refine wpAny_mono (ht.run [] s1 (L2.start N vs) H _ J0 hq) (fun fl s' he => ?_) fun e s' he => he
  have done : ∀ {σ' : L2.St} {H' : Hp} {v : V} {u : Value}, Inv (cxOf CX0 P w K mg base N qual (defScope st) f cdv A out s H E) [] σ' H' s' → RelV v u → Q v H' → CE out P w H s Q u s' :=
    fun {σ' H' v u} J rv q => ⟨v, H', J.os, J.bare, J.base, J.hok, rv, q⟩
  cases fl with
  | ret u =>
    obtain ⟨v, σ', H', J, rv, q⟩ := he
    exact done J rv q
  | next =>
    obtain ⟨σ', H', J, q⟩ := he
    exact done (v := V.non) (u := Value.none) J rfl q
  | brk => obtain ⟨_, _, _, q⟩ := he; exact q.elim
  | cont => obtain ⟨_, _, _, q⟩ := he; exact q.elim
theorem gn_pure {x qual : Str} {st : Stmt} {f : Addr} {fd : FuncData} {N ps : List Str} {k : Nat} {g : FS} (F : Fun K x qual st f fd) (S : FnScope N ps (defScope st))
    (body : ∀ (cdv : Value) (A : Around) (outer : List PySem.Env) (s : Shared) (H : Hp) (E : XK), Room k (A.deeper (PyProof.Rows.envOfC qual (defScope st) s.heap.objs.size f cdv)) → A.guards = some [] →
      SSs (cxOf CX0 P w K mg base N qual (defScope st) f cdv A outer s H E).nox (defBody st) g) : GnOk P w K mg base (k + 1) f fd ps (spP K ps.length (runP ps.length N.length g)) :=
  gn_of F S (fun vs H Q E h => h.1) fun cdv A outer s H vs Q E hr gd h => ⟨_, body cdv A outer s H E hr gd, pure_start S h⟩
theorem gn_box {x qual : Str} {st : Stmt} {f : Addr} {fd : FuncData} {N ps : List Str} {k : Nat} {g : FS} (F : Fun K x qual st f fd) (S : FnScope N ps (defScope st))
    (body : ∀ (cdv : Value) (A : Around) (outer : List PySem.Env) (s : Shared) (H : Hp) (E : XK), Room k (A.deeper (PyProof.Rows.envOfC qual (defScope st) s.heap.objs.size f cdv)) → A.guards = some [] →
      SSs (cxOf CX0 P w K mg base N qual (defScope st) f cdv A outer s H E).nox (defBody st) g) : GnOk P w K mg base (k + 1) f fd ps (spB K ps.length (runB ps.length N.length g)) :=
  gn_of F S (fun vs H Q E h => by obtain ⟨p, ws, rfl, h, _⟩ := h; exact h) fun cdv A outer s H vs Q E hr gd h => ⟨_, body cdv A outer s H E hr gd, box_start S h⟩
end
section
variable {X : Cx} {k n : Nat} {f : Addr} {fd : FuncData} {ps : List Str} {sp : Sp} {x : Str} {p pos : Pos} {e : Expr} {es : List Expr} {t : TA}
theorem run_gn {pins : List (Addr × Obj)} {σ : L2.St} {H : Hp} {s : Shared} {Q : VK} {E : XK} {us : List Value} {vs : List V} (F : GnOk X.prog X.w X.K X.mg X.base k f fd ps sp) (hr : Room k X.A) (hgd : X.A.guards = some []) (hb : Binds X.K fd ps [])
    (I : Inv X pins σ H s) (r : Vals vs us) (h : sp vs H Q E) : wpAny (model X.prog X.w) X.A (call (.ref f) us) (EP X pins σ Q) X.xe s := by
  have hl : (us ++ []).length = ps.length := by rw [List.append_nil, ← r.length]; exact F.len _ _ _ _ h
  have hb' := hb s us I.kIn hl
  rw [List.append_nil] at hb'
  refine wpAny_call (codeAny_mono (F.run X.A X.stack s H ⟨us, []⟩ us vs Q E hr hgd I.env0 hb' r h) fun r s' hq => ?_)
  cases r with
  | error e => exact (hq : False).elim
  | ok fl =>
    cases fl with
    | ret u => exact I.after hq
    | next => exact (hq : False).elim
    | brk => exact (hq : False).elim
    | cont => exact (hq : False).elim
theorem pe_callG {E : XK} (F : GnOk X.prog X.w X.K X.mg X.base k f fd ps sp) (hr : Room k X.A) (hgd : X.A.guards = some []) (hg : Gl X x) (hm : X.mg x = some (.ref f)) (hk : PySem.W.keepIn X.K (.ref f) = true) (hb : Binds X.K fd ps [])
    (ha : PA X (e :: es) t) (hdb : (x == ("__debug__" : Str)) = false := by decide) (he : starEach (e :: es) X.env = (false, eval e X.env) :: starEach es X.env := by rfl) (hpl : (backTo pos (starEach es X.env)).any (·.1) = false := by rfl) :
    PE X (.Call (.Name x p) (e :: es) [] pos) (fun σ H Q => t σ H fun vs H1 => sp vs H1 Q E) :=
  ⟨fun pins s σ H Q I h => wpAny_Call_Name_kw (ld_glob I hg hm (PySem.W.callWith_K (h₀ := X.base) I.ok.mod.kin hk (thn (ha.run pos pins s σ H _ I h) fun us s1 ⟨vs, H1, I1, r, q⟩ => ⟨I1.kIn, run_gn F hr hgd hb I1 r q⟩) he hpl) hdb)⟩
theorem se_callG {g : FA} {z : List D → Option Rv} (F : GnOk X.prog X.w X.K X.mg X.base k f fd ps (spP X.K n z)) (hr : Room k X.A) (hgd : X.A.guards = some []) (hg : Gl X x) (hm : X.mg x = some (.ref f)) (hk : PySem.W.keepIn X.K (.ref f) = true) (hb : Binds X.K fd ps [])
    (ha : SA X (e :: es) g) (hz : ∀ ds r, z ds = some r → ds.length = n) (hdb : (x == ("__debug__" : Str)) = false := by decide) (he : starEach (e :: es) X.env = (false, eval e X.env) :: starEach es X.env := by rfl) (hpl : (backTo pos (starEach es X.env)).any (·.1) = false := by rfl) :
    SE X (.Call (.Name x p) (e :: es) [] pos) (mA z g) := PE.imp (pe_callG (E := E0) F hr hgd hg hm hk hb ha hdb he hpl) fun σ H Q q => te_call (r := fun vs H Q => spP X.K n z vs H Q E0) (fun vs H Q h => by
      refine ⟨?_, h⟩
      obtain ⟨m, ds, r, _, a, e, _⟩ := h
      rw [dps_len a, hz ds r e]) σ H Q q
theorem se_boxG {i : Nat} {y : Str} {g : FA} {z : ZB} {p2 : Pos} (F : GnOk X.prog X.w X.K X.mg X.base k f fd ps (spB X.K n z)) (hr : Room k X.A) (hgd : X.A.guards = some []) (hg : Gl X x) (hm : X.mg x = some (.ref f)) (hk : PySem.W.keepIn X.K (.ref f) = true) (hb : Binds X.K fd ps [])
    (hz : ∀ xs ds r, z xs ds = some r → ds.length + 1 = n) (hv : PE X (.Name y p2) (tVar i)) (ha : SA X es g) (hdb : (x == ("__debug__" : Str)) = false := by decide)
    (he : starEach (.Name y p2 :: es) X.env = (false, eval (.Name y p2) X.env) :: starEach es X.env := by rfl) (hpl : (backTo pos (starEach es X.env)).any (·.1) = false := by rfl) :
    SE X (.Call (.Name x p) (.Name y p2 :: es) [] pos) (mBox i z g) := PE.imp (pe_callG (E := E0) F hr hgd hg hm hk hb (pa_cons hv ha he) hdb he hpl) fun σ H Q q => by
  have h := te_box hz σ H Q q
  unfold tCall at h
  simp only [List.append_nil] at h
  exact h
/-! repr(d) -/
def reprD (d : D) : Option Rv := if d.showable = true ∧ d.hasDict = false ∧ d.depth ≤ 100 ∧ d.shown.length ≤ sizeLine then some (.d (.str d.shown)) else none
theorem cr_reprD (hgd : X.A.guards = some []) (hu : X.A.units + 128 < cLine) : CallR X (.builtin "repr") (rDs X.K (f1 reprD)) := by
  intro pins s σ H vs us Q I rv h
  obtain ⟨m, ds, r, al, a, e, q⟩ := h
  cases a with
  | nil => cases e
  | cons d0 t =>
    cases t with
    | cons d1 t => cases e
    | nil =>
      rename_i v d
      have e : reprD d = some r := e
      unfold reprD at e
      split at e
      · rename_i hc
        obtain ⟨c1, c2, c3, c4⟩ := hc
        cases e
        cases rv with
        | cons r1 r2 =>
          cases r2
          obtain ⟨as, rd⟩ := d0.rd I r1
          have tok : ∀ (t : Str) (tk : Tok), d.shown = t → EP X pins σ Q (.str t s.toks) { s with toks := s.toks + 1 } := fun t _ et => by
            subst et
            exact ⟨.str _, H, I.tok _, ⟨_, rfl⟩, q _ H (Same.refl _) (.str _)⟩
          cases d0 with
          | non => cases r1; exact PySem.P.repr_of_none (tok _ 0 rfl)
          | bl b => cases r1; exact PySem.P.repr_of_bool (tok _ 0 rfl)
          | int i =>
            obtain ⟨t, rfl⟩ := r1
            exact PySem.P.repr_of_int (of_decide_eq_true c1) (tok _ 0 rfl)
          | str z =>
            obtain ⟨t, rfl⟩ := r1
            exact PySem.P.repr_of_str (tok _ 0 rfl) c4
          | lst h1 a1 =>
            cases r1
            exact repr_of_reads' rd c1 (fun z => by rw [c2] at z; cases z) hgd (by omega) (fun _ _ z => z) (fun h' u tk hk => ⟨.str _, H, I.kept hk, ⟨_, rfl⟩, q _ H (Same.refl _) (.str _)⟩) c4
          | tup h1 a1 =>
            cases r1
            exact repr_of_reads' rd c1 (fun z => by rw [c2] at z; cases z) hgd (by omega) (fun _ _ z => z) (fun h' u tk hk => ⟨.str _, H, I.kept hk, ⟨_, rfl⟩, q _ H (Same.refl _) (.str _)⟩) c4
      · cases e
end
/-! the end -/
theorem law_callG {P : Program} {w : World} {K : Fr} {mg mb : Str → Option Value} {k : Nat} {fa a : Addr} {fd : FuncData} {x : Str} {sp : Sp} {s1 : Shared} {vs : List Value} {ns : List Int}
    (KX : K.In s1.heap) (hn : s1.heap.Ns mainGlobals mg) (hb : s1.heap.Ns builtinsNs mb) (hbb : ∀ x : Str, x ≠ "__name__" → mb x = bootBuiltins x) (hlim : s1.heap.NoLimit) (hg : s1.gens = #[])
    (ha : s1.heap.get? a = some { cls := .type "list", data := .seq vs.toArray }) (hi : IntsAre vs ns) (hl : ns.length ≤ sizeLine) (hr : Room k callerA)
    (F : ∀ base : Heap, K.In base → base.Ns mainGlobals mg → GnOk P w K mg base k fa fd [x] sp) (bind : ∀ (s : Shared) (u : Value), BindsTo s fd ⟨[u], []⟩ [(x, u)])
    (hsp : ∀ H : Hp, Only H → SqL K H a (ns.map V.int) → sp [.ref a] H (fun v _ => v = .bl true) fun _ _ _ => False) :
    codeAny (model P w) callerA (.call (.ref fa) ⟨[.ref a], []⟩) (fun r s' => r = .ok (.ret (.bool true)) ∧ OldK s1.heap s'.heap ∧ s'.os = s1.os ∧ AllBare s'.gens) s1 := by
  have rv := vals_ints hi
  have main : ∀ H : Hp, Only H → SqL K H a (ns.map V.int) → HOk P w H s1.heap → (∀ b, H b ≠ none → b = a) → (H a ≠ none → K.lookup a = none) →
      codeAny (model P w) callerA (.call (.ref fa) ⟨[.ref a], []⟩) (fun r s' => r = .ok (.ret (.bool true)) ∧ OldK s1.heap s'.heap ∧ s'.os = s1.os ∧ AllBare s'.gens) s1 := by
    intro H only sq ok one lone
    have is_a : ∀ {b : Addr} {u : HO}, H b = some u → b = a := fun {b u} q => one b (by rw [q]; exact Option.some_ne_none _)
    have ns' : ∀ {b : Addr} {m : Str → Option Value}, s1.heap.Ns b m → (hidT s1.heap H).Ns b m := fun {b m} ⟨o, es, ep, e, d, r⟩ => ⟨o, es, ep, hidT_get e (by
      cases q : H b with
      | none => rfl
      | some u =>
        have := is_a q
        subst this
        rw [ha] at e; cases e
        exact nomatch (show Data.seq vs.toArray _ = Data.dict es ep from d)), d, r⟩
    have kin : K.In (hidT s1.heap H) := fun b o e => hidT_get (KX b o e) (by
      cases q : H b with
      | none => rfl
      | some u =>
        have := is_a q
        subst this
        rw [lone (by rw [q]; exact Option.some_ne_none _)] at e; cases e)
    have mo : Mod K mg (hidT s1.heap H) := ⟨kin, ns' hn, ⟨mb, ns' hb, hbb⟩, let ⟨mc, h1, h2⟩ := hlim; ⟨mc, ns' h1, h2⟩⟩
    have ev : Env0 P w K mg (hidT s1.heap H) callerA [] s1 H := ⟨rfl, mo, fun b o e => of_hidT e, Nat.le_of_eq (hidT_size _ _), trivial, fun b hb => (List.not_mem_nil hb).elim, ok, .of_eq hg⟩
    refine codeAny_mono ((F _ kin (ns' hn)).run callerA [] s1 H ⟨[.ref a], []⟩ [.ref a] [.ref a] _ _ hr rfl ev (bind s1 (.ref a)) (.cons rfl .nil) (hsp H only sq)) fun r s' h => ?_
    cases r with
    | error e => exact (h : False).elim
    | ok fl =>
      cases fl with
      | next => exact (h : False).elim
      | brk => exact (h : False).elim
      | cont => exact (h : False).elim
      | ret u =>
        obtain ⟨v, H', os, bare, un, ok', r', q⟩ := h
        have q : v = .bl true := q
        subst q
        have r' : u = Value.bool true := r'
        subst r'
        refine ⟨rfl, OldK.of_keep fun b o e => ?_, os, bare⟩
        cases q : H b with
        | none => exact un.keep b o e q (fun z => (List.not_mem_nil z).elim) (by simp)
        | some u =>
          rcases only b with z | ⟨ob, xs, z⟩
          · rw [q] at z; cases z
          · obtain ⟨e1, _⟩ := ok b _ z
            obtain ⟨e2, _⟩ := ok' b _ (un.frzs b ob _ z)
            rw [e] at e1; cases e1
            exact e2
  cases hk : K.lookup a with
  | some o =>
    have e := KX a o hk
    rw [ha] at e
    cases e
    refine main (fun _ => none) (fun _ => .inl rfl) (.inr ⟨_, vs.toArray, _, hk, rfl, rfl, rfl, by rw [List.size_toArray, hi.length]; exact hl, by simpa using rv⟩) (fun b u z => nomatch (show (none : Option HO) = some u from z)) (fun b z => absurd rfl z) fun z => absurd rfl z
  | none =>
    refine main (fun b => if b = a then some (.frz { cls := .type "list", data := .seq vs.toArray } (.lst (ns.map V.int))) else none) (fun b => ?_) (.inl (.inr ⟨{ cls := .type "list", data := .seq vs.toArray }, if_pos rfl⟩)) (fun b u z => ?_) (fun b z => ?_) fun _ => hk
    all_goals by_cases hb : b = a
    · exact .inr ⟨_, _, if_pos hb⟩
    · exact .inl (if_neg hb)
    · have z := (if_pos hb).symm.trans z
      cases z
      subst hb
      exact ⟨ha, by rw [List.length_map]; exact hl, vs, _, rv, ha⟩
    · have z := (if_neg hb).symm.trans z
      cases z
    · exact hb
    · exact absurd (if_neg hb) z
theorem walk_ofG {l : PySem.W.OpenLaw} {n k : Nat} {q : Program} {loose : List Str} {XP : (Str → Option Value) → Heap → Prop} {YP : World → Heap → Prop} {d : DefRec} {K : Params → PySem.W.Frag} {sp : World → Sp} {x : Str}
    (hn : l.most = some n) (hn2 : n ≤ sizeLine) (hdf : d.params.defaults = []) (hr : Room k callerA)
    (hY : ∀ (w : World) (h : Heap), YP w h → (K w.params).In h)
    (F : ∀ (w : World) (mg : Str → Option Value) (fa : Addr) (h : Heap), (K w.params).In h → h.Ns mainGlobals mg → mg d.name = some (.ref fa) →
      ∃ fd : FuncData, (∀ (s : Shared) (u : Value), BindsTo s fd ⟨[u], []⟩ [(x, u)]) ∧
        ∀ base : Heap, (K w.params).In base → base.Ns mainGlobals mg → GnOk l.prog w (K w.params) mg base k fa fd [x] (sp w))
    (hsp : ∀ (w : World) (H : Hp) (a : Addr) (ns : List Int), ns.length ≤ n → Only H → SqL (K w.params) H a (ns.map V.int) → sp w [.ref a] H (fun v _ => v = .bl true) fun _ _ _ => False) :
    PySem.W.WalkO q loose XP YP l.row.toRowW d [] (fun f vs => PySem.call f vs) :=
  Att.attach_call hn hdf fun w s₀ s1 mg mb fa o pm cd doc a vs ns G Y ho hd hcd hmg hobj hints hlen hg => by
    have KX := hY w _ Y
    obtain ⟨fd, bd, hF⟩ := F w mg fa _ KX G.T.g hmg
    exact law_callG KX G.T.g G.T.b G.T.builtins G.T.nolimit hg hobj hints (Nat.le_trans hlen hn2) hr hF bd fun H hO hS => hsp w H a ns hlen hO hS
end Mir

/-! Mir 24: what repr takes. -/
namespace Mir
open PySem PySem.Spec PyProof.Rows L2
theorem hu_65 {n m : Nat} (h : n + 128 < m) : n + 65 < m := by omega
theorem txt_le {B : Nat} : ∀ (ts : List Str) (k : Nat) (acc : Str), (∀ t ∈ ts, t.length ≤ B) → (textFrom k acc ts).length ≤ acc.length + ts.length * (B + 2)
  | [], k, acc, _ => by show acc.length ≤ _; omega
  | t :: r, k, acc, h => by
    have ih := txt_le r (k + 1) (acc ++ (if k > 0 then ", " else "" : String) ++ t) fun x hx => h x (by simp [hx])
    have e : (acc ++ (if k > 0 then ", " else "" : String) ++ t).length ≤ acc.length + 2 + t.length := by
      rw [strLen_append, strLen_append]
      split
      · have : ((", " : String) : Str).length = 2 := rfl
        omega
      · have : (("" : String) : Str).length = 0 := rfl
        omega
    have ht := h t (by simp)
    have h2 : (textFrom k acc (t :: r)).length ≤ (acc ++ (if k > 0 then ", " else "" : String) ++ t).length + r.length * (B + 2) := ih
    rw [List.length_cons, Nat.add_mul]
    omega
theorem list_le {B : Nat} {ts : List Str} (h : ∀ t ∈ ts, t.length ≤ B) : (listText ts).length ≤ 2 + ts.length * (B + 2) := by
  have := txt_le ts 0 "[" h
  unfold listText
  rw [strLen_append]
  have e1 : (("[" : String) : Str).length = 1 := rfl
  have e2 : (("]" : String) : Str).length = 1 := rfl
  omega
theorem piled_le {B : Nat} : ∀ {ts : List Str}, (∀ t ∈ ts, t.length ≤ B) → piled ts ≤ ts.length * (B + 2)
  | [], _ => by simp [piled]
  | t :: r, h => by
    have ih := piled_le (ts := r) fun x hx => h x (by simp [hx])
    have ht := h t (by simp)
    rw [List.length_cons, Nat.add_mul]
    simp only [piled, List.map_cons, List.sum_cons] at ih ⊢
    omega
theorem tup_le {B : Nat} {ts : List Str} (h : ∀ t ∈ ts, t.length ≤ B) : (tupleText ts).length ≤ 3 + ts.length * (B + 2) := by
  unfold tupleText
  rw [strLen_append, strLen_append]
  have e1 : (("(" : String) : Str).length = 1 := rfl
  have e2 : ((if ts.length == 1 then ",)" else ")" : String) : Str).length ≤ 2 := by split <;> decide
  have e3 : (Str.join ", " ts).length ≤ ts.length * (B + 2) := by
    cases ts with
    | nil => exact Nat.zero_le _
    | cons t r =>
      have := join_length_add (t :: r) (by simp)
      have := piled_le h
      omega
  omega
/-- data that repr takes: how deep, how long at most -/
structure Rp (n B : Nat) (d : D) : Prop where
  sh : d.showable = true
  nd : d.hasDict = false
  dp : d.depth ≤ n
  ln : d.shown.length ≤ B
theorem Rp.mono {n B n' B' : Nat} {d : D} (h : Rp n B d) (h1 : n ≤ n') (h2 : B ≤ B') : Rp n' B' d := ⟨h.sh, h.nd, Nat.le_trans h.dp h1, Nat.le_trans h.ln h2⟩
theorem rp_all {n B : Nat} : ∀ {ds : List D}, (∀ d ∈ ds, Rp n B d) → PyData.showableAll ds = true ∧ PyData.hasDictAll ds = false ∧ PyData.depthAll ds ≤ n ∧ (∀ t ∈ PyData.shownAll ds, t.length ≤ B) ∧ (PyData.shownAll ds).length = ds.length
  | [], _ => ⟨rfl, rfl, Nat.zero_le _, (fun _ h => by cases h), rfl⟩
  | d :: ds, h => by
    have hd := h d (by simp)
    obtain ⟨h1, h2, h3, h4, h5⟩ := rp_all (ds := ds) fun x hx => h x (by simp [hx])
    refine ⟨?_, ?_, ?_, fun t ht => ?_, ?_⟩
    · simp [PyData.showableAll, hd.sh, h1]
    · simp [PyData.hasDictAll, hd.nd, h2]
    · have := hd.dp
      simp only [PyData.depthAll]
      omega
    · simp only [PyData.shownAll, List.mem_cons] at ht
      rcases ht with rfl | ht
      · exact hd.ln
      · exact h4 t ht
    · simp [PyData.shownAll, h5]
theorem Rp.list {n B m : Nat} {ds : List D} (h : ∀ d ∈ ds, Rp n B d) (hl : ds.length ≤ m) : Rp (n + 1) (3 + m * (B + 2)) (.list ds) := by
  obtain ⟨h1, h2, h3, h4, h5⟩ := rp_all h
  refine ⟨h1, h2, by simp only [PyData.depth]; omega, ?_⟩
  have := list_le h4
  rw [h5] at this
  have hm : ds.length * (B + 2) ≤ m * (B + 2) := Nat.mul_le_mul_right _ hl
  show (listText (PyData.shownAll ds)).length ≤ _
  omega
theorem Rp.tuple {n B m : Nat} {ds : List D} (h : ∀ d ∈ ds, Rp n B d) (hl : ds.length ≤ m) : Rp (n + 1) (3 + m * (B + 2)) (.tuple ds) := by
  obtain ⟨h1, h2, h3, h4, h5⟩ := rp_all h
  refine ⟨h1, h2, by simp only [PyData.depth]; omega, ?_⟩
  have := tup_le h4
  rw [h5] at this
  have hm : ds.length * (B + 2) ≤ m * (B + 2) := Nat.mul_le_mul_right _ hl
  show (tupleText (PyData.shownAll ds)).length ≤ _
  omega
theorem Rp.int {i : Int} (h : -(2 ^ 64) < i ∧ i < 2 ^ 64) : Rp 0 70 (.int i) := by
  have hl : i.natAbs.log2 < 64 := by
    by_cases h0 : i.natAbs = 0
    · rw [h0]; decide
    · exact (Nat.log2_lt h0).mpr (show i.natAbs < 2 ^ 64 by omega)
  refine ⟨decide_eq_true (by omega), rfl, Nat.zero_le _, ?_⟩
  show (Str.ofString (toString i)).length ≤ 70
  rw [PySem.ofString_length]
  have := int_text_length_le (by decide) hl
  omega
theorem Rp.str {x : Str} (h : (reprText x).length ≤ 70) : Rp 0 70 (.str x) := ⟨rfl, rfl, Nat.zero_le _, h⟩
theorem Rp.non : Rp 0 70 .none := ⟨rfl, rfl, Nat.zero_le _, by decide⟩
theorem Rp.bool {b : Bool} : Rp 0 70 (.bool b) := ⟨rfl, rfl, Nat.zero_le _, by cases b <;> decide⟩
theorem repr_ok {n B : Nat} {d : D} (h : Rp n B d) (hn : n ≤ 100) (hB : B ≤ 10000000) : reprD d = some (.d (.str d.shown)) := by
  unfold reprD
  rw [if_pos ⟨h.sh, h.nd, Nat.le_trans h.dp hn, Nat.le_trans h.ln (Nat.le_trans hB (by decide))⟩]
end Mir

/-! Mir 25: x[::-1] of a tuple. -/
namespace Mir
open PySem PySem.Spec PyProof.Rows L2 HT
section
variable {prog : Program} {w : World} {A : Around} {E : Value → Shared → Prop} {s : Shared}
theorem places_rev (n : Nat) : Builtin.Slice.slicePlaces ((n : Int) - 1) (-1) (-1) = n := by
  unfold Builtin.Slice.slicePlaces
  rw [if_neg (by decide)]
  by_cases h : (n : Int) - 1 > -1
  · rw [if_pos h, show -(-1 : Int) = 1 from rfl, Int.ediv_one]; omega
  · rw [if_neg h]; omega
theorem applied_rev {sl : Addr} {n : Nat} {t : Tok} {Q : Int × Int × Nat → Shared → Prop} (hs : s.heap.IsSliceOf sl .none .none (.int (-1) t))
    (h : Q ((n : Int) - 1, -1, n) s) : wpAny (model prog w) A (Builtin.Slice.sliceApplied (.ref sl) (pure (n : Int))) Q E s := by
  obtain ⟨os, ho, hcl, hda⟩ := id hs
  unfold Builtin.Slice.sliceApplied Builtin.Slice.sliceFields
  refine wpAny_bind (wpAny_bind (wpAny_field ho hda (x := .none) rfl (wpAny_bind (wpAny_field ho hda (x := .none) rfl (wpAny_bind (wpAny_field ho hda (x := .int (-1) t) rfl (wpAny_pure ?_)))))))
  refine wpAny_bind (slicePart_int ?_)
  show wpAny (model prog w) A (if ((-1 : Int) == 0) = true then _ else _) _ _ s
  rw [if_neg (by decide)]
  refine wpAny_bind (slicePart_none (wpAny_bind (slicePart_none (wpAny_bind (wpAny_pure ?_)))))
  show wpAny (model prog w) A (pure ((n : Int) - 1, (-1 : Int), Builtin.Slice.slicePlaces ((n : Int) - 1) (-1) (-1))) _ _ s
  rw [places_rev]
  exact wpAny_pure h
theorem fm_map {α β : Type} {f : α → Option β} {g : α → β} : ∀ {l : List α}, (∀ k ∈ l, f k = some (g k)) → l.filterMap f = l.map g
  | [], _ => rfl
  | x :: l, h => by rw [List.filterMap_cons_some (h x (by simp)), fm_map (fun k hk => h k (by simp [hk])), List.map_cons]
theorem pick_rev (l : List Value) : (List.range l.length).filterMap (fun (k : Nat) => l.toArray[((l.length : Int) - 1 + (k : Int) * -1).toNat]?) = l.reverse := by
  apply List.ext_getElem?
  intro i
  have e : (List.range l.length).filterMap (fun (k : Nat) => l.toArray[((l.length : Int) - 1 + (k : Int) * -1).toNat]?) = (List.range l.length).map fun k => l.getD (l.length - 1 - k) .none := by
    refine fm_map fun k hk => ?_
    have hk := List.mem_range.mp hk
    have e1 : ((l.length : Int) - 1 + (k : Int) * -1).toNat = l.length - 1 - k := by omega
    have hlt : l.length - 1 - k < l.length := by omega
    rw [e1]
    simp only [List.getElem?_toArray, List.getD_eq_getElem?_getD, List.getElem?_eq_getElem hlt, Option.getD_some]
  rw [e]
  by_cases hi : i < l.length
  · have hlt : l.length - 1 - i < l.length := by omega
    rw [List.getElem?_map, List.getElem?_range hi, List.getElem?_reverse hi, List.getElem?_eq_getElem hlt]
    simp [List.getD_eq_getElem?_getD, List.getElem?_eq_getElem hlt]
  · rw [List.getElem?_eq_none (by simpa using hi), List.getElem?_eq_none (by simpa using hi)]
theorem item_rev {t sl : Addr} {l : List Value} {tk : Tok} {Q : Value → Shared → Prop} (ht : IsTup s.heap t l.toArray) (hs : s.heap.IsSliceOf sl .none .none (.int (-1) tk))
    (h : Q (.ref s.heap.objs.size) { s with heap := s.heap.push { cls := .type "tuple", data := .seq l.reverse.toArray } }) (hz : l.length ≤ sizeLine) : wpAny (model prog w) A (getItem (.ref t) (.ref sl)) Q E s := by
  obtain ⟨os, ho, hcl, hda⟩ := id hs
  have hT : s.TypeIs (.ref sl) "slice" := ⟨os, ho, hcl⟩
  have hsz : sizeOk (.seq l.reverse.toArray) := by
    show l.reverse.toArray.size ≤ sizeLine
    rw [List.size_toArray, List.length_reverse]; exact hz
  unfold getItem
  try with_reducible refine wpAny_holding ?_
  first | refine wpAny_bind (wpAny_pure ?_) | skip
  refine wpAny_bind (wpAny_sequenceKey ht.typeIs (by decide) (wpAny_bind (wpAny_callSpecial?_slot (name := Str.ofString "__getitem__") ht.typeIs PyProof.Rows.slot_tuple_getitem
    (wpAny_call_entry PyProof.Rows.slot_tuple_getitem ht.typeIs entry_tuple_getitem ?_ (args_tuple_getitem _ _)))))
  show wpAny (model prog w) _ (Builtin.Tuple.tupleItemsOf (.ref t) >>= _) _ _ s
  refine wpAny_bind (tupleItemsOf_ ht (wpAny_bind (wpAny_typeOf hT ?_)))
  rw [if_pos (by decide)]
  refine wpAny_bind (applied_rev (n := l.toArray.size) hs ?_)
  have hno : ¬ (((((l.toArray.size : Nat) : Int) - 1) == 0 && (-1 : Int) == 1 && l.toArray.size == l.toArray.size) = true) := by
    rw [show ((-1 : Int) == 1) = false from rfl, Bool.and_false, Bool.false_and]; decide
  show wpAny (model prog w) _ (if ((((l.toArray.size : Nat) : Int) - 1) == 0 && (-1 : Int) == 1 && l.toArray.size == l.toArray.size) = true then _ else _) _ _ s
  rw [if_neg hno, List.size_toArray, pick_rev]
  first
    | exact wpAny_bind (m := Builtin.Tuple.tupleExact _) (wpAny_newObj_type (wpAny_pure ⟨_, rfl, wpAny_pure h⟩) hsz)
    | exact wpAny_bind (m := Builtin.Tuple.tupleExact _) (wpAny_newObj_type (wpAny_bind (wpAny_pure (wpAny_pure ⟨_, rfl, wpAny_pure h⟩))) hsz)
    | exact wpAny_bind (wpAny_bind (m := Builtin.Tuple.tupleExact _) (wpAny_newObj_type (wpAny_pure (wpAny_pure ⟨_, rfl, wpAny_pure h⟩)) hsz))
    | exact wpAny_bind (wpAny_bind (m := Builtin.Tuple.tupleExact _) (wpAny_newObj_type (wpAny_pure ⟨_, rfl, wpAny_pure h⟩) hsz))
end
section
variable {X : Cx}
def tRevT (K : Fr) (te : TE) : TE := fun σ H Q => te σ H fun x H1 => ∃ a xs, x = .ref a ∧ SqT K H1 a xs ∧ ∀ p, H1 p = none → Q (.ref p) (upd H1 p (.tup xs.reverse))
theorem isPart_none {v : Value} (h : IsPart v none) : v = .none := by cases h; rfl
theorem isPart_int {v : Value} {i : Int} (h : IsPart v (some i)) : ∃ t, v = .int i t := by cases h; exact ⟨_, rfl⟩
theorem pe_revT {e : Expr} {te : TE} {k : Nat} {p1 p2 p3 pos : Pos} (he : PE X e te) : PE X (.Subscript e (.Slice none none (some (.UnaryOp .USub (.Constant (.int 1) k p1) p2)) p3) pos) (tRevT X.K te) := by
  refine ⟨fun pins s σ H Q I h => Subscript_ (thn (he.run pins s σ H _ I h) fun v s1 ⟨x, H1, I1, r1, a, xs, ex, hx, q⟩ => ?_)⟩
  subst ex
  cases r1
  have minus : PO X (some (.UnaryOp .USub (.Constant (.int 1) k p1) p2)) (tPart (tUn (rU fun i => .int (-i)) (tC (.int 1)))) := po_some (pe_un un_neg pe_int)
  refine wpAny_Slice (thn (po_none.run pins s1 σ H1 (fun o H2 => o = none ∧ H2 = H1) I1 ⟨rfl, rfl⟩) fun vl s2 ⟨o1, H2, I2, pl, e1, e2⟩ => ?_)
  subst e1 e2
  refine thn (po_none.run pins s2 σ H2 (fun o H3 => o = none ∧ H3 = H2) I2 ⟨rfl, rfl⟩) fun vu s3 ⟨o2, H3, I3, pu, e3, e4⟩ => ?_
  subst e3 e4
  refine thn (minus.run pins s3 σ H3 (fun o H4 => o = some (-1) ∧ H4 = H3) I3 ⟨1, rfl, -1, rfl, rfl, rfl⟩) fun vs s4 ⟨o3, H4, I4, ps, e5, e6⟩ => ?_
  subst e5 e6
  have zl := isPart_none pl
  have zu := isPart_none pu
  obtain ⟨tk, zs⟩ := isPart_int ps
  subst zl zu zs
  have I5 : Inv X pins σ H4 { s4 with heap := s4.heap.push { cls := .type "slice", data := .fields #[.none, .none, .int (-1) tk] } } := I4.kept (t' := s4.toks) fun b ob z => Heap.get?_push_of_some _ z
  obtain ⟨its, r, ht, hz⟩ := I5.tuple hx
  have hlen := r.length
  show wpAny (model X.prog X.w) X.A (subscriptTail e (.Slice none none (some (.UnaryOp .USub (.Constant (.int 1) k p1) p2)) p3) (.ref a) (.ref s4.heap.objs.size)) (EP X pins σ Q) X.xe { s4 with heap := s4.heap.push { cls := .type "slice", data := .fields #[.none, .none, .int (-1) tk] } }
  refine tail_any (ops := [.ref a, .ref s4.heap.objs.size]) ht.typeIs PyProof.Rows.slot_tuple_getitem.lookup ?_ (by with_unfolding_all rfl)
  refine item_rev (tk := tk) ht (Heap.IsSliceOf.new _ .none .none (.int (-1) tk)) ?_ (by omega)
  refine ⟨.ref _, _, I5.laid (t' := s4.toks) (o := .tup xs.reverse) (fun b ob z => Heap.get?_push_of_some _ z) (Nat.le_refl _) ?_, rfl, q _ (I5.hok.fresh (Nat.le_refl _))⟩
  exact ⟨by rw [List.length_reverse]; exact hz, _, r.reverse, IsTup.new _ _⟩
theorem pe_or {e : Expr} {t t' : TE} (h : PE X e t) (h' : PE X e t') : PE X e fun σ H Q => t σ H Q ∨ t' σ H Q := ⟨fun pins s σ H Q I q => q.elim (fun q => h.run pins s σ H Q I q) fun q => h'.run pins s σ H Q I q⟩
def revSD : D → Option Rv
  | .list xs => some (.l xs.reverse)
  | .tuple xs => some (.d (.tuple xs.reverse))
  | _ => none
theorem se_revS {e : Expr} {f : FE} {k : Nat} {p1 p2 p3 pos : Pos} (he : SE X e f) : SE X (.Subscript e (.Slice none none (some (.UnaryOp .USub (.Constant (.int 1) k p1) p2)) p3) pos) (m1 revSD f) :=
  PE.imp (pe_or (pe_revL he) (pe_revT he)) fun σ H Q q => by
    obtain ⟨C, env, O, r, env', R, e, q⟩ := q
    unfold m1 at e
    split at e
    · rename_i r1 e1 h1
      split at e
      · rename_i r2 hr
        cases e
        unfold revSD at hr
        split at hr
        · rename_i xs hd
          cases hr
          refine .inl (te_run R h1 fun v H1 O1 _ P1 d1 => ?_)
          rw [hd] at d1
          cases d1 with
          | lst h a => exact ⟨_, _, rfl, sql_mono msk_sub h, fun p n => q _ _ O1 (P1.post (same_new n) (rv_new n (dps_rev a)))⟩
        · rename_i xs hd
          cases hr
          refine .inr (te_run R h1 fun v H1 O1 _ P1 d1 => ?_)
          rw [hd] at d1
          cases d1 with
          | tup h a => exact ⟨_, _, rfl, sqt_mono msk_sub h, fun p n => q _ _ O1 (P1.post (same_new n) (dp_newT P1.al n (dps_rev a)))⟩
        · cases hr
      · cases e
    · cases e
end
theorem revS_l {xs : List D} : revSD (.list xs) = some (.l xs.reverse) := rfl
theorem revS_t {xs : List D} : revSD (.tuple xs) = some (.d (.tuple xs.reverse)) := rfl
end Mir

/-! Mir 26: sum of a tuple or a list of whole numbers. -/
namespace Mir
open PySem PySem.Spec PyProof.Rows L2 HT
section
variable {X : Cx}
def sumTD : D → Option Rv
  | .list xs => (match intsOf xs with | some ns => some (.d (.int ns.sum)) | none => none)
  | .tuple xs => (match intsOf xs with | some ns => some (.d (.int ns.sum)) | none => none)
  | _ => none
theorem cr_sumTD (hc : X.calm = true) : CallR X (.builtin "sum") (rDs X.K (f1 sumTD)) := c1_of fun pins s σ H x vs Q m d r I rx al hd hz q => by
  unfold sumTD at hz
  split at hz
  · split at hz
    · rename_i ns hb
      cases hz
      cases hd with
      | lst h a =>
        rw [intsOf_eq hb] at a
        have e := dps_ints a
        subst e
        exact cr_sum hc pins s σ H _ vs Q I rx ⟨_, ns, rfl, (sql_mono msk_sub h), q _ H (Same.refl _) (.int _)⟩
    · cases hz
  · split at hz
    · rename_i ns hb
      cases hz
      cases hd with
      | tup h a =>
        rw [intsOf_eq hb] at a
        have e := dps_ints a
        subst e
        obtain ⟨u, rfl, ru⟩ := vals1 rx
        cases ru
        obtain ⟨its, rv, hl, _⟩ := I.tuple (sqt_mono msk_sub h)
        have hi := rv.ints
        obtain ⟨xs, hx⟩ := hi.allInts.items
        have hn : numsOf its.toArray.toList = ns := by rw [show its.toArray.toList = its from rfl, hi.numsOf]
        rw [hx] at hl hn
        rw [nums_intItems] at hn
        refine PySem.W.ktm_sumG (I.ok.hd hc) hl fun h' tk t' hk => ?_
        rw [preSum_eq, List.take_of_length_le (by simp), hn]
        exact ⟨.int _, H, I.kept hk, ⟨_, rfl⟩, q _ H (Same.refl _) (.int _)⟩
    · cases hz
  · cases hz
theorem sumT_l {ns : List Int} : sumTD (.list (ns.map .int)) = some (.d (.int ns.sum)) := by
  unfold sumTD; simp only [intsOf_map]
theorem sumT_t {ns : List Int} : sumTD (.tuple (ns.map .int)) = some (.d (.int ns.sum)) := by
  unfold sumTD; simp only [intsOf_map]
end
end Mir

/-! Mir 27: text.count(text). -/
namespace Mir
open PySem PySem.Spec PyProof.Rows L2 HT
section
variable {X : Cx}
def rCntS : V → List V → Hp → VK → Prop := fun x xs H Q => ∃ a b, x = .str a ∧ xs = [.str b] ∧ Q (.int (Txt.count a b)) H
theorem mt_scount : MtR X "str.count" rCntS := by
  intro pins s σ H x xs v us Q I rx rs h
  obtain ⟨a, b, e1, e2, q⟩ := h
  subst e1
  subst e2
  obtain ⟨t, e⟩ := rx
  subst e
  cases rs with
  | cons r1 rs =>
    cases rs
    obtain ⟨t2, e⟩ := r1
    subst e
    exact PySem.SC.count ⟨.int _, H, I.tok _, ⟨_, rfl⟩, q⟩
def cntSD : D → D → Option Rv
  | .str a, .str b => some (.d (.int (Txt.count a b)))
  | _, _ => none
theorem se_scount {e a : Expr} {f g : FE} {apos pos : Pos} (h : PE X (.Call (.Attribute e "count" apos) [a] [] pos) (tBM X.K "str" rCntS (teOf X.K f) (tCons (teOf X.K g) tNil))) :
    SE X (.Call (.Attribute e "count" apos) [a] [] pos) (m2 cntSD f g) := PE.imp h fun σ H Q q => by
  obtain ⟨C, env, O, r, env', R, e, q⟩ := q
  unfold m2 at e
  split at e
  · rename_i r1 e1 h1
    split at e
    · rename_i r2 e2 h2
      unfold cntSD at e
      split at e
      · rename_i r3 hr
        split at hr
        · rename_i a b hd1 hd2
          cases hr; cases e
          refine te_run R h1 fun v H1 O1 _ P1 d1 => ?_
          rw [hd1] at d1
          cases d1
          refine ⟨rfl, te_run P1 h2 fun w H2 O2 P2 P2' d2 => ?_⟩
          rw [hd2] at d2
          cases d2
          exact ⟨a, b, rfl, rfl, q _ _ O2 ⟨P2', .int _⟩⟩
        · cases hr
      · cases e
    · cases e
  · cases e
end
end Mir

/-! Mir 28: instances that nobody changes: made, their fields read, their methods called. -/
namespace Mir
open PySem L2
section
variable {K : Fr} {H : Hp}
theorem FldOk.get : ∀ {vs : List (Str × V)} {fs : List (Str × D)} {f : Str} {d : D}, FldOk K H vs fs → fs.lookup f = some d → ∃ u, vs.lookup f = some u ∧ Dp K H u d
  | _, [], _, _, _, h => by cases h
  | [], _ :: _, _, _, h, _ => by cases h.1
  | (g, u) :: vs, (g', e) :: fs, f, d, h, hf => by
    have h1 : g = g' ∧ vs.map (·.1) = fs.map (·.1) := by simpa using h.1
    obtain ⟨rfl, h1⟩ := h1
    cases h.2 with
    | cons ha ht =>
      rw [List.lookup_cons] at hf ⊢
      cases q : f == g with
      | true => rw [q] at hf; cases hf; exact ⟨u, rfl, ha⟩
      | false => rw [q] at hf; exact FldOk.get ⟨h1, ht⟩ hf
theorem FldOk.no : ∀ {vs : List (Str × V)} {fs : List (Str × D)} {f : Str}, FldOk K H vs fs → fs.lookup f = none → vs.lookup f = none
  | [], [], _, _, _ => rfl
  | _ :: _, [], _, h, _ => by cases h.1
  | [], _ :: _, _, _, _ => rfl
  | (g, u) :: vs, (g', e) :: fs, f, h, hf => by
    have h1 : g = g' ∧ vs.map (·.1) = fs.map (·.1) := by simpa using h.1
    obtain ⟨rfl, h1⟩ := h1
    cases h.2 with
    | cons ha ht =>
      rw [List.lookup_cons] at hf ⊢
      cases q : f == g with
      | true => rw [q] at hf; cases hf
      | false => rw [q] at hf; exact FldOk.no ⟨h1, ht⟩ hf
end
abbrev Fld := List (Str × D)
abbrev ZO := Fld → List D → Option Rv
/-- x.f, x an instance -/
def mFld (i : Nat) (c f : Str) : FE := fun env => match env[i]? with
  | some (.xt (.ob c' fs)) => if c' = c then (match fs.lookup f with | some d => some (.d d, env) | none => none) else none
  | _ => none
/-- x.m(e, ..) -/
def mMeth (i : Nat) (c m : Str) (z : ZO) (fs : FA) : FE := fun env => match env[i]? with
  | some (.xt (.ob c' fl)) => if c' = c ∧ fl.lookup m = none then (match fs env with | some (ds, e1) => (match z fl ds with | some r => some (r, e1) | none => none) | none => none) else none
  | _ => none
def rOb (K : Fr) (c : Str) (z : ZO) (v : V) (vs : List V) (H : Hp) (Q : VK) : Prop := ∃ (m : Addr → Prop) (fl : Fld) (ds : List D) (r : Rv), Al m H ∧ ObOk K (msk m H) v c fl ∧ DpAll K (msk m H) vs ds ∧ z fl ds = some r ∧ ∀ v H', Same H H' → RvOk K m H H' v r → Q v H'
def spO (K : Fr) (n : Nat) (c : Str) (z : ZO) : Sp := fun vs H Q _ => ∃ (v : V) (ws : List V), vs = v :: ws ∧ ws.length + 1 = n ∧ rOb K c z v ws H Q
def startO (n : Nat) (c : Str) (fl : Fld) (ds : List D) : MEnv := .xt (.ob c fl) :: (ds.map Sl.dt ++ List.replicate (n - (ds.length + 1)) Sl.un)
def runO (np n : Nat) (c : Str) (g : FS) : ZO := fun fl ds => if ds.length + 1 = np then (match g (startO n c fl ds) with | some (.rt r, _) => some r | some (.nx, _) => some (.d .none) | _ => none) else none
theorem runO_len {np n : Nat} {c : Str} {g : FS} : ∀ fl ds r, runO np n c g fl ds = some r → ds.length + 1 = np := fun fl ds r h => by
  unfold runO at h
  split at h
  · assumption
  · cases h
section
variable {X : Cx}
theorem se_fld {i : Nat} {x c f : Str} {C : Addr} {p2 pos : Pos} (h : PE X (.Name x p2) (tVar i)) (hn : PySem.W.nsIn X.K mainGlobals c = some (some (.ref C))) (cl : Cls X.K C) (na : NoAttr X.K C f)
    (hb : attributeBase (.Name x p2) f X.env (eval (.Name x p2) X.env) = eval (.Name x p2) X.env := by rfl) : SE X (.Attribute (.Name x p2) f pos) (mFld i c f) := PE.imp (pe_fld h hb) fun σ H Q q => by
  obtain ⟨C', env, O, r, env', R, e, q⟩ := q
  unfold mFld at e
  split at e
  · rename_i c' fs hx
    split at e
    · rename_i hc
      subst hc
      split at e
      · rename_i d hd
        cases e
        obtain ⟨v, h1, p, C2, dx, vs, rfl, h2, h3, h4⟩ := R.xt i _ hx
        rw [hn] at h2
        cases h2
        obtain ⟨u, h5, h6⟩ := h4.get hd
        exact ⟨_, h1, p, C, dx, vs, u, rfl, msk_sub _ _ h3, cl, na, h5, q _ _ O ⟨R, h6⟩⟩
      · cases e
    · cases e
  · cases e
theorem te_meth {K : Fr} {i n : Nat} {c m : Str} {C : Addr} {z : ZO} {fs : FA} {E : XK} (hn : PySem.W.nsIn K mainGlobals c = some (some (.ref C))) (hz : ∀ fl ds r, z fl ds = some r → ds.length + 1 = n) :
    ∀ σ H Q, teOf K (mMeth i c m z fs) σ H Q → tMeth C m (spO K n c z) [] E (tVar i) (taOf K fs) σ H Q := fun σ H Q q => by
  obtain ⟨C', env, O, r, env', R, e, q⟩ := q
  unfold mMeth at e
  split at e
  · rename_i c' fl hx
    split at e
    · rename_i hc
      obtain ⟨hc, hm⟩ := hc
      subst hc
      split at e
      · rename_i ds e1 hf
        split at e
        · rename_i r' hr
          cases e
          obtain ⟨v, h1, ho⟩ := R.xt i _ hx
          obtain ⟨p, C2, dx, vs, rfl, h2, h3, h4⟩ := id ho
          rw [hn] at h2
          cases h2
          refine ⟨_, h1, p, dx, vs, rfl, msk_sub _ _ h3, h4.no hm, C'.pinAt (msk (C'.m O) H), env, O, ds, _, R.pinned, hf, fun ws H' O' R' a => ?_⟩
          have R1 : Rep K C' env' σ H' O' := R'.unpin R.pin
          refine ⟨_, _, rfl, by rw [List.append_nil, dps_len a]; exact hz _ _ _ hr, C'.m O', fl, ds, r, R1.al, ho.mono R'.pin, by rw [List.append_nil]; exact a, hr, fun v' H2 hs hv => q v' H2 O' (R1.post hs hv)⟩
        · cases e
      · cases e
    · cases e
  · cases e
theorem se_meth {k n i : Nat} {f C : Addr} {fd : FuncData} {ps : List Str} {x c m : Str} {e : Expr} {es : List Expr} {g : FA} {z : ZO} {p2 apos pos : Pos} {pl : Sem Bool} (F : FnOk X.prog X.w X.K X.mg X.base CX0 k f fd ps (spO X.K n c z)) (hr : Room k X.A)
    (hn : PySem.W.nsIn X.K mainGlobals c = some (some (.ref C))) (cl : Cls X.K C) (hm : Meth X.K C m f) (hb : Binds X.K fd ps []) (hz : ∀ fl ds r, z fl ds = some r → ds.length + 1 = n) (hv : PE X (.Name x p2) (tVar i)) (ha : SA X (e :: es) g)
    (h : ∀ {t : TA}, PA X (e :: es) t → PE X (.Call (.Attribute (.Name x p2) m apos) (e :: es) [] pos) (tMeth C m (spO X.K n c z) [] E0 (tVar i) t)) :
    SE X (.Call (.Attribute (.Name x p2) m apos) (e :: es) [] pos) (mMeth i c m z g) := PE.imp (h ha) (te_meth hn hz)
end
section
variable {P : Program} {w : World} {K : Fr} {mg : Str → Option Value} {base : Heap}
theorem obj_start {st : Stmt} {N ps : List Str} {c : Str} {g : FS} {vs : List V} {H : Hp} {Q : VK} {E : XK} (S : FnScope N ps (defScope st)) (h : spO K ps.length c (runO ps.length N.length c g) vs H Q E) :
    tsOf K g { nx := fun _ H' => Q .non H', rt := Q } (L2.start N vs) H := by
  obtain ⟨v, ws, rfl, hl, m, fl, ds, r, al, ob, a, e, q⟩ := h
  unfold runO at e
  split at e
  · rename_i hds
    have hnl : ps.length ≤ N.length := by
      have := congrArg List.length S.pre
      rw [List.length_take] at this
      omega
    have hvd : ws.length = ds.length := dps_len a
    have R0 : Rep K { M := m, HM := H, Hs := msk (fun a => m a ∨ False) H, bo := fun _ => none } (startO N.length c fl ds) (L2.start N (v :: ws)) H (fun _ => none) := by
      have E1 : Same (msk m H) (msk (Ctx.m { M := m, HM := H, Hs := msk (fun a => m a ∨ False) H, bo := fun _ => none } (fun _ => none)) H) := msk_anti fun a z => z.elim id fun ⟨_, z⟩ => nomatch z
      have g0 : (L2.start N (v :: ws))[0]? = some (some v) := rfl
      have gs : ∀ (i : Nat) (s : Sl), (startO N.length c fl ds)[i + 1]? = some s → (∃ d, ds[i]? = some d ∧ s = .dt d) ∨ s = .un := fun i s h => by
        have h : (ds.map Sl.dt ++ List.replicate (N.length - (ds.length + 1)) Sl.un)[i]? = some s := h
        by_cases hi : i < ds.length
        · rw [List.getElem?_append_left (by simpa using hi), List.getElem?_map] at h
          cases q : ds[i]? with
          | none => rw [q] at h; cases h
          | some d => rw [q] at h; exact .inl ⟨d, rfl, (Option.some.inj h).symm⟩
        · rw [List.getElem?_append_right (by simpa using hi), List.getElem?_replicate] at h
          split at h
          · exact .inr (Option.some.inj h).symm
          · cases h
      refine ⟨?_, fun i d h => ?_, fun i xs h => ?_, fun i xs h => ?_, (fun i j p h => by cases h), (fun i p h => by cases h), Same.trans (msk_anti fun a z => .inl z) E1, fun a h => ⟨rfl, al a h⟩, fun i x h => ?_⟩
      · rw [start_len]
        unfold startO
        simp only [List.length_cons, List.length_append, List.length_map, List.length_replicate]
        omega
      · cases i with
        | zero => cases h
        | succ i =>
          rcases gs i _ h with ⟨d', h1, h2⟩ | h2
          · cases h2
            obtain ⟨v', g1, g2⟩ := dps_get a h1
            refine ⟨v', ?_, dp_mono E1 g2⟩
            rw [start_get (by have := (List.getElem?_eq_some_iff.mp g1).1; rw [List.length_cons]; omega)]
            rw [List.getElem?_cons_succ, g1]
            rfl
          · cases h2
      · cases i with
        | zero => cases h
        | succ i => rcases gs i _ h with ⟨d', h1, h2⟩ | h2 <;> cases h2
      · cases i with
        | zero => cases h
        | succ i => rcases gs i _ h with ⟨d', h1, h2⟩ | h2 <;> cases h2
      · cases i with
        | zero =>
          have h : Sl.xt (.ob c fl) = Sl.xt x := Option.some.inj h
          cases h
          exact ⟨v, g0, ob.mono E1⟩
        | succ i => rcases gs i _ h with ⟨d', h1, h2⟩ | h2 <;> cases h2
    have fin : ∀ v σ' H' O' env' (r' : Rv), PostE K { M := m, HM := H, Hs := msk (fun a => m a ∨ False) H, bo := fun _ => none } O' σ' env' H' v r' → r' = r → Q v H' := fun v σ' H' O' env' r' p er => by
      subst er
      refine q v H' (fun a o h => p.rep.stood (B := fun _ => False) a o (fun z => z) h) ?_
      have := p.rv (B := fun _ => False) (fun a z => z.elim)
      cases r' with
      | d d => exact dp_mono (msk_anti fun a z => .inl z) this
      | l xs =>
        obtain ⟨p, us, e1, n, h1, h2⟩ := this
        exact ⟨p, us, e1, n, h1, dps_mono (msk_anti fun a z => z.elim (fun z => .inl (.inl z)) .inr) h2⟩
    split at e
    · rename_i r' env' hg
      cases e
      exact ⟨_, _, _, _, _, R0, hg, fun v σ' H' O' p => fin v σ' H' O' env' _ p rfl⟩
    · rename_i env' hg
      cases e
      exact ⟨_, _, _, _, _, R0, hg, fun σ' H' O' R' => fin .non σ' H' O' env' (.d .none) ⟨R', .non⟩ rfl⟩
    · cases e
  · cases e
theorem fn_obj {x qual c : Str} {st : Stmt} {f : Addr} {fd : FuncData} {N ps : List Str} {k : Nat} {g : FS} (F : Fun K x qual st f fd) (S : FnScope N ps (defScope st))
    (body : ∀ (cdv : Value) (A : Around) (outer : List PySem.Env) (s : Shared) (H : Hp) (E : XK), Room k (A.deeper (PyProof.Rows.envOfC qual (defScope st) s.heap.objs.size f cdv)) →
      SSs (cxOf CX0 P w K mg base N qual (defScope st) f cdv A outer s H E).nox (defBody st) g) : FnOk P w K mg base CX0 (k + 1) f fd ps (spO K ps.length c (runO ps.length N.length c g)) := by
  refine F.ok S (fun vs H Q E h => ?_) (fun cdv A outer s H vs Q E hr h => ⟨_, body cdv A outer s H E hr, obj_start S h⟩)
  obtain ⟨v, ws, rfl, hl, _⟩ := h
  exact hl
end
/-! ### a new instance: C(e, ..), its __init__ told by what it makes of its arguments -/
abbrev ZI := List D → Option Fld
def rIn (K : Fr) (C : Addr) (z : ZI) (p : Addr) (ws : List V) (H : Hp) (Q : VK) : Prop := ∃ (m : Addr → Prop) (dx : Addr) (ds : List D) (fl : Fld), Al m H ∧ m p ∧ H p = some (.ins C dx []) ∧ DpAll K (msk m H) ws ds ∧ z ds = some fl ∧
  ∀ H' vs, (∀ a o, a ≠ p → H a = some o → H' a = some o) → H' p = some (.ins C dx vs) → FldOk K (msk m H') vs fl → Q .non H'
def spI (K : Fr) (C : Addr) (n : Nat) (z : ZI) : Sp := fun vs H Q _ => ∃ (p : Addr) (ws : List V), vs = .ref p :: ws ∧ ws.length + 1 = n ∧ rIn K C z p ws H Q
/-- x = C(e, ..) -/
def mNew (i : Nat) (c : Str) (z : ZI) (fs : FA) : FS := fun env => match fs env with
  | some (ds, e) => (match z ds with | some fl => some (.nx, e.set i (.xt (.ob c fl))) | none => none)
  | none => none
section
variable {K : Fr} {C : Ctx} {env : MEnv} {σ : L2.St} {H H' : Hp} {O : Ow}
theorem Rep.setX {i : Nat} {v : V} {c : Str} {fl : Fld} (R : Rep K C env σ H O) (h : ObOk K (msk (C.m O) H) v c fl) :
    Rep K C (env.set i (.xt (.ob c fl))) (σ.set i (some v)) H (O.put i none) := by
  have A : ∀ a, C.m (O.put i none) a → C.m O a := fun a z => by
    rcases z with z | ⟨j, z⟩
    · exact .inl z
    · by_cases hj : j = i
      · subst hj; rw [put_same] at z; cases z
      · rw [put_ne hj] at z; exact .inr ⟨j, z⟩
  have S : Same (msk (C.m O) H) (msk (C.m (O.put i none)) H) := msk_anti A
  refine ⟨by rw [List.length_set, List.length_set]; exact R.len, fun j e he => ?_, fun j xs he => ?_, fun j xs he => ?_, fun j k p h1 h2 => ?_, fun j q hq => ?_, R.pin.trans S, R.frn, fun j x he => ?_⟩
  · by_cases hj : j = i
    · subst hj
      obtain ⟨e1, hl⟩ := get_set_eq he
      cases e1
    · rw [get_set_ne hj] at he ⊢
      obtain ⟨w, h1, h2⟩ := R.dt j e he
      exact ⟨w, h1, dp_mono S h2⟩
  · by_cases hj : j = i
    · subst hj
      obtain ⟨e1, hl⟩ := get_set_eq he
      cases e1
    · rw [get_set_ne hj] at he ⊢
      obtain ⟨q, us, h0, h1, h2, h3⟩ := R.ow j xs he
      exact ⟨q, us, by rw [put_ne hj]; exact h0, h1, h2, dps_mono S h3⟩
  · by_cases hj : j = i
    · subst hj
      obtain ⟨e1, hl⟩ := get_set_eq he
      cases e1
    · rw [get_set_ne hj] at he ⊢
      obtain ⟨q, us, h0, hb, h1, h2, h3⟩ := R.bo j xs he
      exact ⟨q, us, by rw [put_ne hj]; exact h0, hb, h1, h2, dps_mono S h3⟩
  · by_cases hj : j = i
    · subst hj; rw [put_same] at h1; cases h1
    · by_cases hk : k = i
      · subst hk; rw [put_same] at h2; cases h2
      · rw [put_ne hj] at h1; rw [put_ne hk] at h2; exact R.inj j k p h1 h2
  · by_cases hj : j = i
    · subst hj; rw [put_same] at hq; cases hq
    · rw [put_ne hj] at hq; exact R.out j q hq
  · by_cases hj : j = i
    · subst hj
      obtain ⟨e1, hl⟩ := get_set_eq he
      cases e1
      exact ⟨v, List.getElem?_set_self (by rw [← R.len]; exact hl), h.mono S⟩
    · rw [get_set_ne hj] at he ⊢
      exact (R.xt j x he).mono S
end
section
variable {X : Cx}
theorem ts_new {K : Fr} {i n : Nat} {c : Str} {C : Addr} {z : ZI} {fs : FA} {E : XK} (hn : PySem.W.nsIn K mainGlobals c = some (some (.ref C))) (hz : ∀ ds r, z ds = some r → ds.length + 1 = n) :
    ∀ Dn σ H, tsOf K (mNew i c z fs) Dn σ H → tAsg (tMake C (spI K C n z) [] E (taOf K fs)) (gName i) Dn σ H := fun Dn σ H q => by
  obtain ⟨C', env, O, fl, env', R, e, q⟩ := q
  unfold mNew at e
  split at e
  · rename_i ds e1 hf
    split at e
    · rename_i fl hr
      cases e
      refine ⟨C', env, O, ds, _, R, hf, fun ws H1 O1 R1 a x dx nx ndx nex => ?_⟩
      have hs0 : Same H1 (upd (upd H1 dx (.own x)) x (.ins C dx [])) := fun b o e => by
        rw [upd_ne (ne_of_none e nx), upd_ne (ne_of_none e ndx)]; exact e
      have nm : ¬ C'.m O1 x := fun z => by obtain ⟨o, z⟩ := R1.al x z; rw [nx] at z; cases z
      have M0 : Same (msk (C'.m O1) H1) (msk (fun a => C'.m O1 a ∨ a = x) (upd (upd H1 dx (.own x)) x (.ins C dx []))) := msk_new hs0 fun a z => z.elim .inl fun z => .inr (z ▸ nx)
      refine ⟨x, ws ++ [], rfl, by rw [List.append_nil, dps_len a]; exact hz _ _ hr, fun a => C'.m O1 a ∨ a = x, dx, ds, fl, fun a z => ?_, .inr rfl, upd_same, by rw [List.append_nil]; exact dps_mono M0 a, hr, fun H2 vs hk hp hfl => ⟨rfl, ?_⟩⟩
      · rcases z with z | z
        · obtain ⟨o, z⟩ := R1.al a z
          exact ⟨o, hs0 _ _ z⟩
        · subst z; exact ⟨_, upd_same⟩
      have hs1 : Same H1 H2 := fun b o e => hk b o (ne_of_none e nx) (hs0 b o e)
      have R2 : Rep K C' _ σ H2 O1 := R1.grow hs1
      have ob : ObOk K (msk (C'.m O1) H2) (.ref x) c fl := by
        refine ⟨x, C, dx, vs, rfl, hn, by rw [msk_no nm]; exact hp, hfl.1, dps_mono (msk_anti fun a z => .inl z) hfl.2⟩
      exact q _ H2 _ (R2.setX ob)
    · cases e
  · cases e
end
/-! ### an __init__ that keeps its arguments: self.f = x, one after the other -/
def tIns (K : Fr) : List (Str × Nat) → TS
  | [] => tNext
  | (f, i) :: r => tSeq (sFld K (tVar 0) (tVar i) f) (tIns K r)
theorem putF_new {f : Str} {y : V} : ∀ {vs : List (Str × V)}, f ∉ vs.map (·.1) → putF f y vs = vs ++ [(f, y)]
  | [], _ => rfl
  | (g, x) :: r, h => by
    have h1 : g ≠ f := fun e => h (by rw [e]; exact List.mem_cons_self)
    have h2 : f ∉ r.map (·.1) := fun e => h (List.mem_cons_of_mem _ e)
    show (if g = f then _ else _) = _
    rw [if_neg h1, putF_new h2]; rfl
def pick (ds : List D) : List (Str × Nat) → Option Fld
  | [] => some []
  | (f, i) :: r => (match ds[i - 1]?, pick ds r with | some d, some fl => some ((f, d) :: fl) | _, _ => none)
def initZ (n : Nat) (L : List (Str × Nat)) : ZI := fun ds => if ds.length + 1 = n then pick ds L else none
theorem initZ_len {n : Nat} {L : List (Str × Nat)} : ∀ ds r, initZ n L ds = some r → ds.length + 1 = n := fun ds r h => by
  unfold initZ at h
  split at h
  · assumption
  · cases h
section
variable {P : Program} {w : World} {K : Fr} {mg : Str → Option Value} {base : Heap}
theorem ins_run {C p dx : Addr} {ds : List D} {ws : List V} {m : Addr → Prop} {H0 : Hp} {σ : L2.St} {Dn : Ends} (cl : Cls K C) (hσ0 : σ[0]? = some (some (.ref p))) (hσ : ∀ i v, ws[i]? = some v → σ[i + 1]? = some (some v)) (hm : m p) (a : DpAll K (msk m H0) ws ds) :
    ∀ (L : List (Str × Nat)) (H : Hp) (vs : List (Str × V)) (fl fl0 : Fld), (∀ q ∈ L, NoAttr K C q.1 ∧ 0 < q.2) → (vs.map (·.1) ++ L.map (·.1)).Nodup → vs.length + L.length < 1000 → (∀ a o, a ≠ p → H0 a = some o → H a = some o) → H p = some (.ins C dx vs) → FldOk K (msk m H0) vs fl0 → pick ds L = some fl →
      (∀ H' vs', (∀ a o, a ≠ p → H0 a = some o → H' a = some o) → H' p = some (.ins C dx vs') → FldOk K (msk m H') vs' (fl0 ++ fl) → Dn.nx σ H') → tIns K L Dn σ H
  | [], H, vs, fl, fl0, _, _, _, hk, hp, ho, e, q => by
    cases e
    refine q H vs hk hp ?_
    rw [List.append_nil]
    exact ⟨ho.1, dps_mono (fun b o hb => by
      obtain ⟨h1, h2⟩ := msk_some hb
      rw [msk_no h1]
      exact hk b o (fun e => h1 (e ▸ hm)) h2) ho.2⟩
  | (f, i) :: r, H, vs, fl, fl0, hL, hn, hl, hk, hp, ho, e, q => by
    unfold pick at e
    split at e
    · rename_i d fl' hd hr
      cases e
      obtain ⟨v, hv, hvd⟩ := dps_get a hd
      have hi := (hL (f, i) List.mem_cons_self).2
      have hx := hσ _ _ hv
      rw [show i - 1 + 1 = i by have : 0 < i := hi; omega] at hx
      refine ⟨v, hx, _, hσ0, p, C, dx, vs, rfl, hp, cl, (hL (f, i) List.mem_cons_self).1, by rw [List.length_cons] at hl; omega, ?_⟩
      have hf : f ∉ vs.map (·.1) := fun h => by
        have := (List.nodup_append.mp hn).2.2 f h f (by simp)
        exact this rfl
      refine ins_run cl hσ0 hσ hm a r _ (putF f v vs) fl' (fl0 ++ [(f, d)]) (fun q hq => hL q (List.mem_cons_of_mem _ hq)) ?_ ?_ ?_ upd_same ?_ hr ?_
      · rw [putF_new hf, List.map_append]
        simpa using hn
      · rw [putF_new hf, List.length_append, List.length_singleton]
        rw [List.length_cons] at hl; omega
      · intro b o hb hh
        rw [upd_ne hb]; exact hk b o hb hh
      · rw [putF_new hf]
        refine ⟨by rw [List.map_append, List.map_append, ho.1]; rfl, ?_⟩
        rw [List.map_append, List.map_append]
        exact dps_app ho.2 (.cons hvd .nil)
      · intro H' vs' h1 h2 h3
        refine q H' vs' h1 h2 ?_
        rw [List.append_assoc] at h3
        exact h3
    · cases e
theorem fn_init {x qual : Str} {st : Stmt} {f C : Addr} {fd : FuncData} {N ps : List Str} {k : Nat} (L : List (Str × Nat)) (F : Fun K x qual st f fd) (S : FnScope N ps (defScope st)) (cl : Cls K C) (hL : ∀ q ∈ L, NoAttr K C q.1 ∧ 0 < q.2) (hn : (L.map (·.1)).Nodup) (hl : L.length < 1000)
    (body : ∀ (cdv : Value) (A : Around) (outer : List PySem.Env) (s : Shared) (H : Hp) (E : XK), PSs (cxOf CX0 P w K mg base N qual (defScope st) f cdv A outer s H E).nox (defBody st) (tIns K L)) :
    FnOk P w K mg base CX0 (k + 1) f fd ps (spI K C ps.length (initZ ps.length L)) := by
  refine F.ok S (fun vs H Q E h => ?_) (fun cdv A outer s H vs Q E hr h => ⟨_, body cdv A outer s H E, ?_⟩)
  · obtain ⟨p, ws, rfl, hl, _⟩ := h
    exact hl
  · obtain ⟨p, ws, rfl, hw, m, dx, ds, fl, al, hm, hp, a, e, q⟩ := h
    unfold initZ at e
    split at e
    · refine ins_run cl (σ := L2.start N (.ref p :: ws)) rfl (fun i v hv => ?_) hm a L H [] fl [] hL (by simpa using hn) (by simpa using hl) (fun a o _ h => h) hp ⟨rfl, .nil⟩ e fun H' vs' h1 h2 h3 => ?_
      · have hnl : ps.length ≤ N.length := by
          have := congrArg List.length S.pre
          rw [List.length_take] at this
          omega
        have := (List.getElem?_eq_some_iff.mp hv).1
        rw [start_get (by rw [List.length_cons]; omega), List.getElem?_cons_succ, hv]
        rfl
      · exact q H' vs' h1 h2 (by simpa using h3)
    · cases e
end
/-! ### what they give -/
section
variable {env : MEnv} {P : Rv → MEnv → Prop} {PS : Fl → MEnv → Prop}
theorem wE_fld {i : Nat} {c f : Str} : wE (mFld i c f) env P ↔ ∃ fs d, env[i]? = some (.xt (.ob c fs)) ∧ fs.lookup f = some d ∧ P (.d d) env := by
  constructor
  · rintro ⟨r, e, h, p⟩
    unfold mFld at h
    split at h
    · rename_i c' fs hx
      split at h
      · rename_i hc
        subst hc
        split at h
        · rename_i d hd
          cases h
          exact ⟨fs, d, hx, hd, p⟩
        · cases h
      · cases h
    · cases h
  · rintro ⟨fs, d, h1, h2, p⟩
    refine ⟨_, _, ?_, p⟩
    unfold mFld
    rw [h1]
    simp only [if_true, h2]
theorem wE_meth {i : Nat} {c m : Str} {z : ZO} {fs : FA} : wE (mMeth i c m z fs) env P ↔ ∃ fl, env[i]? = some (.xt (.ob c fl)) ∧ fl.lookup m = none ∧ wA fs env fun ds e => wR (z fl ds) fun r => P r e := by
  constructor
  · rintro ⟨r, e, h, p⟩
    unfold mMeth at h
    split at h
    · rename_i c' fl hx
      split at h
      · rename_i hc
        obtain ⟨hc, hm⟩ := hc
        subst hc
        split at h
        · rename_i ds e1 hf
          split at h
          · rename_i r' hr
            cases h
            exact ⟨fl, hx, hm, ds, _, hf, _, hr, p⟩
          · cases h
        · cases h
      · cases h
    · cases h
  · rintro ⟨fl, h1, h2, ds, e, h3, r, h4, p⟩
    refine ⟨r, e, ?_, p⟩
    unfold mMeth
    rw [h1]
    simp only [h2, and_self, if_true, h3, h4]
theorem wS_new {i : Nat} {c : Str} {z : ZI} {fs : FA} : wS (mNew i c z fs) env PS ↔ wA fs env fun ds e => ∃ fl, z ds = some fl ∧ PS .nx (e.set i (.xt (.ob c fl))) := by
  constructor
  · rintro ⟨r, e, h, p⟩
    unfold mNew at h
    split at h
    · rename_i ds e1 hf
      split at h
      · rename_i fl hr
        cases h
        exact ⟨ds, e1, hf, fl, hr, p⟩
      · cases h
    · cases h
  · rintro ⟨ds, e, h1, fl, h2, p⟩
    refine ⟨_, _, ?_, p⟩
    unfold mNew
    rw [h1]
    simp only [h2]
theorem wR_runO {np n : Nat} {c : Str} {g : FS} {fl : Fld} {ds : List D} {P : Rv → Prop} (hl : ds.length + 1 = np) (h : wS g (startO n c fl ds) (rtK P)) : wR (runO np n c g fl ds) P := by
  obtain ⟨r, e, h1, h2⟩ := h
  unfold runO
  rw [if_pos hl, h1]
  cases r with
  | nx => exact ⟨_, rfl, h2⟩
  | rt r => exact ⟨_, rfl, h2⟩
  | bk => exact h2.elim
  | ct => exact h2.elim
/-- while: a bound that falls -/
theorem wS_while {t : FT} {b : FS} (Inv : Nat → MEnv → Prop) (step : ∀ n e, Inv n e → wT t e fun c e1 => (c = true → wS b e1 (lpK (fun e2 => ∃ k, k < n ∧ Inv k e2) PS)) ∧ (c = false → PS .nx e1)) :
    ∀ (n : Nat) (e : MEnv), Inv n e → wS (mWhile t b) e PS := by
  have run : ∀ (n : Nat) (e : MEnv), Inv n e → ∃ r e', WRun t b e (r, e') ∧ PS r e' := by
    intro n
    induction n using Nat.strongRecOn with
    | ind n ih =>
      intro e h
      obtain ⟨c, e1, h1, h2, h3⟩ := step n e h
      cases c with
      | false => exact ⟨_, _, .stop h1, h3 rfl⟩
      | true =>
        obtain ⟨fl, e2, h4, h5⟩ := h2 rfl
        cases fl with
        | nx =>
          obtain ⟨k, hk, hi⟩ := h5
          obtain ⟨r, e', w, p⟩ := ih k hk e2 hi
          exact ⟨r, e', .nx h1 h4 w, p⟩
        | ct =>
          obtain ⟨k, hk, hi⟩ := h5
          obtain ⟨r, e', w, p⟩ := ih k hk e2 hi
          exact ⟨r, e', .ct h1 h4 w, p⟩
        | bk => exact ⟨_, _, .bk h1 h4, h5⟩
        | rt r => exact ⟨_, _, .rt h1 h4, h5⟩
  intro n e h
  obtain ⟨r, e', w, p⟩ := run n e h
  exact ⟨r, e', mWhile_eq w, p⟩
end
end Mir

/-! Mir 29: a < b < c < d as a test. -/
namespace Mir
open PySem PySem.Spec PyProof.Rows L2
section
variable {X : Cx} {a b c d : Expr} {ta tb tc td : TE} {pos : Pos}
def tChain3 (r r' r'' : R2) (ta tb tc td : TE) : TE := fun σ H Q => ta σ H fun x H1 => tb σ H1 fun y H2 => r x y H2 fun z H3 => ∃ k, z = .bl k ∧
  (if k = true then tc σ H3 fun w H4 => r' y w H4 fun z2 H5 => ∃ k2, z2 = .bl k2 ∧ (if k2 = true then td σ H5 fun u H6 => r'' w u H6 Q else Q (.bl false) H5) else Q (.bl false) H3)
theorem pt_chain3 {op op' op'' : CmpOp} {r r' r'' : R2} (ho : OpR X (compareOp op) r) (ho' : OpR X (compareOp op') r') (ho'' : OpR X (compareOp op'') r'') (ha : PE X a ta) (hb : PE X b tb) (hc : PE X c tc) (hd : PE X d td)
    (hm : lastMarks [op, op', op''] [b, c, d] = false := by with_unfolding_all rfl) : PT X (.Compare a [op, op', op''] [b, c, d] pos) (tTest (tChain3 r r' r'' ta tb tc td)) := by
  refine ⟨fun pins s σ H Q I h => ?_⟩
  refine isTrue_chain (thn (ha.run pins s σ H _ I h) fun v s1 ⟨x, H1, I1, r1, q1⟩ => test_link (thn (hb.run pins s1 σ H1 _ I1 q1) fun u s2 ⟨y, H2, I2, r2, q2⟩ =>
    thn (ho pins s2 σ H2 x y v u _ I2 r1 r2 q2) fun d s3 ⟨z, H3, I3, r3, k, e, q3⟩ => ?_)) hm
  subst e
  cases r3
  refine wpAny_truthy_bool ?_
  cases k with
  | false =>
    obtain ⟨k', e', q'⟩ := q3
    cases e'
    exact ite_ff ⟨H3, I3, q'⟩
  | true =>
    refine ite_tt (test_link (thn (hc.run pins s3 σ H3 _ I3 q3) fun w' s4 ⟨z', H4, I4, r4, q4⟩ => thn (ho' pins s4 σ H4 y z' u w' _ I4 r2 r4 q4) fun d' s5 ⟨z2, H5, I5, r5, k2, e2, q5⟩ => ?_))
    subst e2
    cases r5
    refine wpAny_truthy_bool ?_
    cases k2 with
    | false =>
      obtain ⟨k', e', q'⟩ := q5
      cases e'
      exact ite_ff ⟨H5, I5, q'⟩
    | true =>
      refine ite_tt (test_last (thn (hd.run pins s5 σ H5 _ I5 q5) fun w2 s6 ⟨z3, H6, I6, r6, q6⟩ => thn (ho'' pins s6 σ H6 z' z3 w' w2 _ I6 r4 r6 q6) fun d2 s7 ⟨z4, H7, I7, r7, k3, e3, q7⟩ => ?_))
      subst e3
      cases r7
      exact wpAny_truthy_bool ⟨H7, I7, q7⟩
end
def mChain3 (z z' z'' : D → D → Option Rv) (f g h k : FE) : FE := fun env => match f env with
  | some (r1, e1) => (match g e1 with
    | some (r2, e2) => (match z r1.toD r2.toD with
      | some (.d (.bool true)) => (match h e2 with
        | some (r3, e3) => (match z' r2.toD r3.toD with
          | some (.d (.bool true)) => (match k e3 with | some (r4, e4) => (match z'' r3.toD r4.toD with | some w => some (w, e4) | none => none) | none => none)
          | some (.d (.bool false)) => some (.d (.bool false), e3)
          | _ => none)
        | none => none)
      | some (.d (.bool false)) => some (.d (.bool false), e2)
      | _ => none)
    | none => none)
  | none => none
theorem te_chain3 {K : Fr} {f g h k : FE} {z z' z'' : D → D → Option Rv} : ∀ σ H Q, teOf K (mChain3 z z' z'' f g h k) σ H Q → tChain3 (rD2 K z) (rD2 K z') (rD2 K z'') (teOf K f) (teOf K g) (teOf K h) (teOf K k) σ H Q := fun σ H Q q => by
  obtain ⟨C, env, O, rr, env', R, e, q⟩ := q
  unfold mChain3 at e
  split at e
  · rename_i r1 e1 h1
    split at e
    · rename_i r2 e2 h2
      refine te_run R h1 fun v H1 O1 _ R1 d1 => te_run R1 h2 fun w H2 O2 P2 R2 d2 => ?_
      split at e
      · rename_i h3
        split at e
        · rename_i r3 e3 h4
          refine ⟨C.m O2, _, _, _, R2.al, P2.keep d1, d2, h3, fun u H' s kk => ?_⟩
          cases kk
          refine ⟨true, rfl, ?_⟩
          rw [if_pos rfl]
          have R3 := R2.grow s
          refine te_run R3 h4 fun t H4 O4 P4 R4 d4 => ?_
          split at e
          · rename_i h5
            split at e
            · rename_i r4 e4 h6
              split at e
              · rename_i w' h7
                cases e
                refine ⟨C.m O4, _, _, _, R4.al, P4.keep (dp_mono (msk_mono s) d2), d4, h5, fun u2 H5 s5 kk => ?_⟩
                cases kk
                refine ⟨true, rfl, ?_⟩
                rw [if_pos rfl]
                have R5 := R4.grow s5
                refine te_run R5 h6 fun t2 H6 O6 P6 R6 d6 => ⟨C.m O6, _, _, _, R6.al, P6.keep (dp_mono (msk_mono s5) d4), d6, h7, fun u3 H7 s7 kk => q u3 H7 O6 (R6.post s7 kk)⟩
              · cases e
            · cases e
          · rename_i h5
            cases e
            refine ⟨C.m O4, _, _, _, R4.al, P4.keep (dp_mono (msk_mono s) d2), d4, h5, fun u2 H5 s5 kk => ?_⟩
            cases kk
            refine ⟨false, rfl, ?_⟩
            rw [if_neg Bool.false_ne_true]
            exact q _ H5 O4 ⟨R4.grow s5, .bl false⟩
          · cases e
        · cases e
      · rename_i h3
        cases e
        refine ⟨C.m O2, _, _, _, R2.al, P2.keep d1, d2, h3, fun u H' s kk => ?_⟩
        cases kk
        refine ⟨false, rfl, ?_⟩
        rw [if_neg Bool.false_ne_true]
        exact q _ H' O2 ⟨R2.grow s, .bl false⟩
      · cases e
    · cases e
  · cases e
section
variable {X : Cx}
theorem st_chain3 {a b c d : Expr} {op op' op'' : CmpOp} {pos : Pos} {f g h k : FE} {z z' z'' : D → D → Option Rv} (ho : OpR X (compareOp op) (rD2 X.K z)) (ho' : OpR X (compareOp op') (rD2 X.K z')) (ho'' : OpR X (compareOp op'') (rD2 X.K z'')) (ha : SE X a f) (hb : SE X b g) (hc : SE X c h) (hd : SE X d k)
    (hm : lastMarks [op, op', op''] [b, c, d] = false := by with_unfolding_all rfl) : ST X (.Compare a [op, op', op''] [b, c, d] pos) (tBool (mChain3 z z' z'' f g h k)) :=
  PT.imp (pt_chain3 ho ho' ho'' ha hb hc hd hm) fun σ H Q q => te_chain3 σ H _ (tt_bool q)
end
section
variable {env : MEnv} {P : Rv → MEnv → Prop}
theorem wE_chain3 {z z' z'' : D → D → Option Rv} {f g h k : FE} (hh : wE f env fun r1 e1 => wE g e1 fun r2 e2 => wR (z r1.toD r2.toD) fun q => ∃ b, q = .d (.bool b) ∧ (b = true → wE h e2 fun r3 e3 => wR (z' r2.toD r3.toD) fun q2 => ∃ b2, q2 = .d (.bool b2) ∧ (b2 = true → wE k e3 fun r4 e4 => wR (z'' r3.toD r4.toD) fun w => P w e4) ∧ (b2 = false → P (.d (.bool false)) e3)) ∧ (b = false → P (.d (.bool false)) e2)) : wE (mChain3 z z' z'' f g h k) env P := by
  obtain ⟨_, _, h1, _, _, h2, q, hz, b, rfl, h3, h4⟩ := hh
  unfold wE mChain3
  rw [h1]
  simp only [h2, hz]
  cases b with
  | false => exact ⟨_, _, rfl, h4 rfl⟩
  | true =>
    obtain ⟨t, e3, h5, q2, h6, b2, rfl, h7, h8⟩ := h3 rfl
    simp only [h5, h6]
    cases b2 with
    | false => exact ⟨_, _, rfl, h8 rfl⟩
    | true =>
      obtain ⟨t2, e4, h9, w, h10, h11⟩ := h7 rfl
      exact ⟨_, _, by simp only [h9, h10], h11⟩
end
end Mir

/-! Mir 30: a name that stands for one of two own lists: for x in (a, b): .. x.append(..); x = [a, b][e]; x.append(..) -/
namespace Mir
open PySem L2
def Ctx.lend (C : Ctx) (a : Nat) (p : Addr) : Ctx := { C with bo := fun j => if j = a then some p else C.bo j }
def Ctx.pinS (C : Ctx) (a : Nat) (v : V) : Ctx := { C with sp := fun j => if j = a then some v else C.sp j }
section
variable {K : Fr} {C C' : Ctx} {env env' : MEnv} {σ σ' : L2.St} {H : Hp} {O O' : Ow}
theorem own_lt {i : Nat} {xs : List D} (h : ownAt env i = some xs) : i < env.length := by
  unfold ownAt at h
  split at h
  · rename_i q; exact (List.getElem?_eq_some_iff.mp q).1
  · rename_i q; exact (List.getElem?_eq_some_iff.mp q).1
  · cases h
/-- the same heap, other slots -/
theorem Rep.re (R : Rep K C env σ H O) (len : env'.length = σ'.length) (hM : C'.M = C.M) (hHM : C'.HM = C.HM) (hHs : C'.Hs = C.Hs) (hA : ∀ i p, O' i = some p → ∃ j, O j = some p)
    (dt : ∀ (i : Nat) (d : D), env'[i]? = some (Sl.dt d) → env[i]? = some (Sl.dt d) ∧ σ'[i]? = σ[i]?)
    (ow : ∀ (i : Nat) (xs : List D), env'[i]? = some (Sl.ow xs) → ∃ j, ownAt env j = some xs ∧ O' i = O j ∧ σ'[i]? = σ[j]?)
    (bo : ∀ (i : Nat) (xs : List D), env'[i]? = some (Sl.bo xs) → ∃ j, ownAt env j = some xs ∧ O' i = O j ∧ C'.bo i = O j ∧ σ'[i]? = σ[j]?)
    (inj : ∀ i j p, O' i = some p → O' j = some p → i = j)
    (xt : ∀ (i : Nat) (x : Xt), env'[i]? = some (Sl.xt x) → (∀ H1 H2 : Hp, Same H1 H2 → XtOk K C.sp H1 i σ[i]? x → XtOk K C'.sp H2 i σ'[i]? x) ∧ (env[i]? = some (Sl.xt x)) ∨ (x = .pin ∧ ∀ v, C'.sp i = some v → σ'[i]? = some (some v))) : Rep K C' env' σ' H O' := by
  have A : ∀ a, C'.m O' a → C.m O a := fun a z => by
    rcases z with z | ⟨i, z⟩
    · exact .inl (by rw [← hM]; exact z)
    · obtain ⟨j, hj⟩ := hA i a z
      exact .inr ⟨j, hj⟩
  have S : Same (msk (C.m O) H) (msk (C'.m O') H) := msk_anti A
  refine ⟨len, fun i d h => ?_, fun i xs h => ?_, fun i xs h => ?_, inj, fun i p h => ?_, by rw [hHs]; exact R.pin.trans S, fun a h => ?_, fun i x h => ?_⟩
  · obtain ⟨h1, h2⟩ := dt i d h
    obtain ⟨v, g1, g2⟩ := R.dt i d h1
    exact ⟨v, by rw [h2]; exact g1, dp_mono S g2⟩
  · obtain ⟨j, h1, h2, h3⟩ := ow i xs h
    obtain ⟨p, us, g0, g1, g2, g3⟩ := R.own h1
    exact ⟨p, us, by rw [h2]; exact g0, by rw [h3]; exact g1, g2, dps_mono S g3⟩
  · obtain ⟨j, h1, h2, h4, h3⟩ := bo i xs h
    obtain ⟨p, us, g0, g1, g2, g3⟩ := R.own h1
    exact ⟨p, us, by rw [h2]; exact g0, by rw [h4]; exact g0, by rw [h3]; exact g1, g2, dps_mono S g3⟩
  · obtain ⟨j, hj⟩ := hA i p h
    obtain ⟨g1, g2⟩ := R.out j p hj
    exact ⟨by rw [hM]; exact g1, g2⟩
  · rw [hM] at h
    rw [hHM]
    exact R.frn a h
  · rcases xt i x h with ⟨h1, h2⟩ | ⟨rfl, h2⟩
    · exact h1 _ _ S (R.xt i x h2)
    · exact h2
theorem xt_keep {sp : Nat → Option V} {i : Nat} {w : Option (Option V)} {x : Xt} : ∀ H1 H2 : Hp, Same H1 H2 → XtOk K sp H1 i w x → XtOk K sp H2 i w x := fun _ _ s h => h.mono s
/-- an own list is lent, and back -/
theorem Rep.lend {a : Nat} {xs : List D} (R : Rep K C env σ H O) (h : env[a]? = some (.ow xs)) : ∃ p, O a = some p ∧ σ[a]? = some (some (.ref p)) ∧ Rep K (C.lend a p) (env.set a (.bo xs)) σ H O := by
  obtain ⟨p, us, h0, h1, h2, h3⟩ := R.ow a xs h
  refine ⟨p, h0, h1, R.re (by rw [List.length_set]; exact R.len) rfl rfl rfl (fun i q hq => ⟨i, hq⟩) (fun i d hd => ?_) (fun i ys hy => ?_) (fun i ys hy => ?_) R.inj (fun i x hx => ?_)⟩
  · by_cases hi : i = a
    · subst hi; obtain ⟨e, _⟩ := get_set_eq hd; cases e
    · rw [get_set_ne hi] at hd; exact ⟨hd, rfl⟩
  · by_cases hi : i = a
    · subst hi; obtain ⟨e, _⟩ := get_set_eq hy; cases e
    · rw [get_set_ne hi] at hy; exact ⟨i, by unfold ownAt; rw [hy], rfl, rfl⟩
  · by_cases hi : i = a
    · subst hi
      obtain ⟨e, _⟩ := get_set_eq hy
      cases e
      exact ⟨i, by unfold ownAt; rw [h], rfl, by show (if i = i then _ else _) = _; rw [if_pos rfl, h0], rfl⟩
    · rw [get_set_ne hi] at hy
      refine ⟨i, by unfold ownAt; rw [hy], rfl, ?_, rfl⟩
      obtain ⟨q, _, g0, gb, _⟩ := R.bo i ys hy
      show (if i = a then _ else _) = _
      rw [if_neg hi, g0, gb]
  · by_cases hi : i = a
    · subst hi; obtain ⟨e, _⟩ := get_set_eq hx; cases e
    · rw [get_set_ne hi] at hx; exact .inl ⟨xt_keep, hx⟩
theorem Rep.unlend {a : Nat} {p : Addr} {xs : List D} (R : Rep K (C.lend a p) env σ H O) (h : env[a]? = some (.bo xs)) : Rep K C (env.set a (.ow xs)) σ H O := by
  refine R.re (by rw [List.length_set]; exact R.len) rfl rfl rfl (fun i q hq => ⟨i, hq⟩) (fun i d hd => ?_) (fun i ys hy => ?_) (fun i ys hy => ?_) R.inj (fun i x hx => ?_)
  · by_cases hi : i = a
    · subst hi; obtain ⟨e, _⟩ := get_set_eq hd; cases e
    · rw [get_set_ne hi] at hd; exact ⟨hd, rfl⟩
  · by_cases hi : i = a
    · subst hi
      obtain ⟨e, _⟩ := get_set_eq hy
      cases e
      exact ⟨i, by unfold ownAt; rw [h], rfl, rfl⟩
    · rw [get_set_ne hi] at hy; exact ⟨i, by unfold ownAt; rw [hy], rfl, rfl⟩
  · by_cases hi : i = a
    · subst hi; obtain ⟨e, _⟩ := get_set_eq hy; cases e
    · rw [get_set_ne hi] at hy
      obtain ⟨q, _, g0, gb, _⟩ := R.bo i ys hy
      have gb : (if i = a then some p else C.bo i) = some q := gb
      rw [if_neg hi] at gb
      exact ⟨i, by unfold ownAt; rw [hy], rfl, by rw [g0, gb], rfl⟩
  · by_cases hi : i = a
    · subst hi; obtain ⟨e, _⟩ := get_set_eq hx; cases e
    · rw [get_set_ne hi] at hx; exact .inl ⟨xt_keep, hx⟩
/-- slot x stands for the lent list of slot a -/
theorem Rep.alias {a x : Nat} {p : Addr} {xs : List D} (R : Rep K C env σ H O) (h : env[a]? = some (.bo xs)) (hp : C.bo a = some p) (hx : x ≠ a) (hl : x < env.length) :
    Rep K ((C.lend x p).pinS a (.ref p)) ((env.set a (.xt .pin)).set x (.bo xs)) (σ.set x (some (.ref p))) H ((O.put a none).put x (some p)) := by
  obtain ⟨p', us, h0, hb, h1, h2, h3⟩ := R.bo a xs h
  rw [hp] at hb
  cases hb
  have geA : ∀ {i : Nat} {s : Sl}, ((env.set a (.xt .pin)).set x (.bo xs))[i]? = some s → (i = x ∧ s = .bo xs) ∨ (i ≠ x ∧ i = a ∧ s = .xt .pin) ∨ (i ≠ x ∧ i ≠ a ∧ env[i]? = some s) := fun {i s} hs => by
    by_cases hi : i = x
    · subst hi; obtain ⟨e, _⟩ := get_set_eq hs; exact .inl ⟨rfl, e.symm⟩
    · rw [get_set_ne hi] at hs
      by_cases ha : i = a
      · subst ha; obtain ⟨e, _⟩ := get_set_eq hs; exact .inr (.inl ⟨hi, rfl, e.symm⟩)
      · rw [get_set_ne ha] at hs; exact .inr (.inr ⟨hi, ha, hs⟩)
  have gO : ∀ {i : Nat}, i ≠ x → i ≠ a → ((O.put a none).put x (some p)) i = O i := fun {i} h1 h2 => by rw [put_ne h1, put_ne h2]
  refine R.re (by rw [List.length_set, List.length_set, List.length_set]; exact R.len) rfl rfl rfl (fun i q hq => ?_) (fun i d hd => ?_) (fun i ys hy => ?_) (fun i ys hy => ?_) (fun i j q g1 g2 => ?_) (fun i z hz => ?_)
  · by_cases hi : i = x
    · subst hi; rw [put_same] at hq; cases hq; exact ⟨a, h0⟩
    · rw [put_ne hi] at hq
      by_cases ha : i = a
      · subst ha; rw [put_same] at hq; cases hq
      · rw [put_ne ha] at hq; exact ⟨i, hq⟩
  · rcases geA hd with ⟨_, e⟩ | ⟨_, _, e⟩ | ⟨e1, e2, e⟩
    · cases e
    · cases e
    · exact ⟨e, get_set_ne e1⟩
  · rcases geA hy with ⟨_, e⟩ | ⟨_, _, e⟩ | ⟨e1, e2, e⟩
    · cases e
    · cases e
    · exact ⟨i, by unfold ownAt; rw [e], gO e1 e2, get_set_ne e1⟩
  · rcases geA hy with ⟨rfl, e⟩ | ⟨_, _, e⟩ | ⟨e1, e2, e⟩
    · cases e
      refine ⟨a, by unfold ownAt; rw [h], by rw [put_same, h0], ?_, ?_⟩
      · show (if i = i then _ else _) = _
        rw [if_pos rfl, h0]
      · rw [List.getElem?_set_self (by rw [← R.len]; exact hl), h1]
    · cases e
    · obtain ⟨q, _, g0, gb, _⟩ := R.bo i ys e
      refine ⟨i, by unfold ownAt; rw [e], gO e1 e2, ?_, get_set_ne e1⟩
      show (if i = x then _ else _) = _
      rw [if_neg e1, g0, gb]
  · by_cases hi : i = x
    · by_cases hj : j = x
      · rw [hi, hj]
      · subst hi
        rw [put_same] at g1
        cases g1
        rw [put_ne hj] at g2
        by_cases ha : j = a
        · subst ha; rw [put_same] at g2; cases g2
        · rw [put_ne ha] at g2; exact absurd (R.inj j a p g2 h0) ha
    · rw [put_ne hi] at g1
      by_cases ha : i = a
      · subst ha; rw [put_same] at g1; cases g1
      · rw [put_ne ha] at g1
        by_cases hj : j = x
        · subst hj; rw [put_same] at g2; cases g2; exact absurd (R.inj i a p g1 h0) ha
        · rw [put_ne hj] at g2
          by_cases hja : j = a
          · subst hja; rw [put_same] at g2; cases g2
          · rw [put_ne hja] at g2; exact R.inj i j q g1 g2
  · rcases geA hz with ⟨_, e⟩ | ⟨e1, rfl, e⟩ | ⟨e1, e2, e⟩
    · cases e
    · cases e
      refine .inr ⟨rfl, fun v hv => ?_⟩
      have hv : (if i = i then some (V.ref p) else C.sp i) = some v := hv
      rw [if_pos rfl] at hv
      cases hv
      rw [get_set_ne e1]; exact h1
    · refine .inl ⟨fun H1 H2 s k => ?_, e⟩
      rw [get_set_ne e1]
      have k := k.mono s
      cases z with
      | pin => intro v hv; have hv : (if i = a then some (V.ref p) else C.sp i) = some v := hv; rw [if_neg e2] at hv; exact k v hv
      | ob c fs => exact k
      | exn y => exact k
/-- and no longer -/
theorem Rep.unalias {a x : Nat} {p : Addr} {ys : List D} (R : Rep K ((C.lend x p).pinS a (.ref p)) env σ H O) (hp : C.bo a = some p) (ha : env[a]? = some (.xt .pin)) (hy : env[x]? = some (.bo ys)) (hx : x ≠ a) :
    Rep K C ((env.set x .un).set a (.bo ys)) σ H ((O.put x none).put a (some p)) := by
  obtain ⟨p', us, h0, hb, h1, h2, h3⟩ := R.bo x ys hy
  have hb : (if x = x then some p else C.bo x) = some p' := hb
  rw [if_pos rfl] at hb
  cases hb
  have hσ : σ[a]? = some (some (.ref p)) := R.xt a _ ha (.ref p) (by show (if a = a then _ else _) = _; rw [if_pos rfl])
  have geA : ∀ {i : Nat} {s : Sl}, ((env.set x .un).set a (.bo ys))[i]? = some s → (i = a ∧ s = .bo ys) ∨ (i ≠ a ∧ i = x ∧ s = .un) ∨ (i ≠ a ∧ i ≠ x ∧ env[i]? = some s) := fun {i s} hs => by
    by_cases hi : i = a
    · subst hi; obtain ⟨e, _⟩ := get_set_eq hs; exact .inl ⟨rfl, e.symm⟩
    · rw [get_set_ne hi] at hs
      by_cases hx : i = x
      · subst hx; obtain ⟨e, _⟩ := get_set_eq hs; exact .inr (.inl ⟨hi, rfl, e.symm⟩)
      · rw [get_set_ne hx] at hs; exact .inr (.inr ⟨hi, hx, hs⟩)
  have gO : ∀ {i : Nat}, i ≠ a → i ≠ x → ((O.put x none).put a (some p)) i = O i := fun {i} h1 h2 => by rw [put_ne h1, put_ne h2]
  refine R.re (by rw [List.length_set, List.length_set]; exact R.len) rfl rfl rfl (fun i q hq => ?_) (fun i d hd => ?_) (fun i zs hz => ?_) (fun i zs hz => ?_) (fun i j q g1 g2 => ?_) (fun i z hz => ?_)
  · by_cases hi : i = a
    · subst hi; rw [put_same] at hq; cases hq; exact ⟨x, h0⟩
    · rw [put_ne hi] at hq
      by_cases hx : i = x
      · subst hx; rw [put_same] at hq; cases hq
      · rw [put_ne hx] at hq; exact ⟨i, hq⟩
  · rcases geA hd with ⟨_, e⟩ | ⟨_, _, e⟩ | ⟨e1, e2, e⟩
    · cases e
    · cases e
    · exact ⟨e, rfl⟩
  · rcases geA hz with ⟨_, e⟩ | ⟨_, _, e⟩ | ⟨e1, e2, e⟩
    · cases e
    · cases e
    · exact ⟨i, by unfold ownAt; rw [e], gO e1 e2, rfl⟩
  · rcases geA hz with ⟨rfl, e⟩ | ⟨_, _, e⟩ | ⟨e1, e2, e⟩
    · cases e
      exact ⟨x, by unfold ownAt; rw [hy], by rw [put_same, h0], by rw [hp, h0], by rw [hσ, h1]⟩
    · cases e
    · obtain ⟨q, _, g0, gb, _⟩ := R.bo i zs e
      have gb : (if i = x then some p else C.bo i) = some q := gb
      rw [if_neg e2] at gb
      exact ⟨i, by unfold ownAt; rw [e], gO e1 e2, by rw [g0, gb], rfl⟩
  · by_cases hi : i = a
    · by_cases hj : j = a
      · rw [hi, hj]
      · subst hi
        rw [put_same] at g1
        cases g1
        rw [put_ne hj] at g2
        by_cases hjx : j = x
        · subst hjx; rw [put_same] at g2; cases g2
        · rw [put_ne hjx] at g2; exact absurd (R.inj j x p g2 h0) hjx
    · rw [put_ne hi] at g1
      by_cases hix : i = x
      · subst hix; rw [put_same] at g1; cases g1
      · rw [put_ne hix] at g1
        by_cases hj : j = a
        · subst hj; rw [put_same] at g2; cases g2; exact absurd (R.inj i x p g1 h0) hix
        · rw [put_ne hj] at g2
          by_cases hjx : j = x
          · subst hjx; rw [put_same] at g2; cases g2
          · rw [put_ne hjx] at g2; exact R.inj i j q g1 g2
  · rcases geA hz with ⟨_, e⟩ | ⟨_, _, e⟩ | ⟨e1, e2, e⟩
    · cases e
    · cases e
    · refine .inl ⟨fun H1 H2 s k => ?_, e⟩
      have k := k.mono s
      cases z with
      | pin => intro v hv; exact k v (by show (if i = a then _ else _) = _; rw [if_neg e1]; exact hv)
      | ob c fs => exact k
      | exn y => exact k
end
/-- one turn of the body with x for a -/
def alTurn (x a : Nat) (g : FS) (env : MEnv) : Option MEnv := match env[a]? with
  | some (.bo xs) => if env.length ≤ x then none else (match g ((env.set a (.xt .pin)).set x (.bo xs)) with
    | some (.nx, e) => (match e[a]?, e[x]? with | some (.xt .pin), some (.bo ys) => some ((e.set x .un).set a (.bo ys)) | _, _ => none)
    | some (.ct, e) => (match e[a]?, e[x]? with | some (.xt .pin), some (.bo ys) => some ((e.set x .un).set a (.bo ys)) | _, _ => none)
    | _ => none)
  | _ => none
/-- for x in (a, b): g -/
def mAlFor (x a b : Nat) (g : FS) : FS := fun env => match env[a]?, env[b]? with
  | some (.ow xs), some (.ow ys) => (match alTurn x a g ((env.set a (.bo xs)).set b (.bo ys)) with
    | some e1 => (match alTurn x b g e1 with
      | some e2 => (match e2[a]?, e2[b]? with | some (.bo xs'), some (.bo ys') => some (.nx, (e2.set b (.ow ys')).set a (.ow xs')) | _, _ => none)
      | none => none)
    | none => none)
  | _, _ => none
section
variable {X : Cx} {K : Fr} {C : Ctx} {env : MEnv} {σ : L2.St} {H : Hp} {O : Ow}
theorem al_step {a x : Nat} {g : FS} {e e' : MEnv} {p : Addr} {Dn : Ends} (hx : x ≠ a) (ht : alTurn x a g e = some e') (R : Rep K C e σ H O) (hp : C.bo a = some p) (k : ∀ σ' H' O', Rep K C e' σ' H' O' → Dn.nx σ' H' ∧ Dn.ct σ' H') : tsOf K g Dn (σ.set x (some (.ref p))) H := by
  unfold alTurn at ht
  split at ht
  · rename_i xs hxs
    split at ht
    · cases ht
    · rename_i hl
      have R1 := R.alias hxs hp hx (by omega)
      split at ht
      · rename_i e1 hg
        split at ht
        · rename_i ys h1 h2
          cases ht
          exact ⟨_, _, _, .nx, e1, R1, hg, fun σ' H' O' R' => (k σ' H' _ (R'.unalias hp h1 h2 hx)).1⟩
        · cases ht
      · rename_i e1 hg
        split at ht
        · rename_i ys h1 h2
          cases ht
          exact ⟨_, _, _, .ct, e1, R1, hg, fun σ' H' O' R' => (k σ' H' _ (R'.unalias hp h1 h2 hx)).2⟩
        · cases ht
      · cases ht
  · cases ht
theorem ts_alFor {x a b : Nat} {g : FS} (hxa : x ≠ a) (hxb : x ≠ b) (hab : a ≠ b) : ∀ Dn σ H, tsOf K (mAlFor x a b g) Dn σ H → tFor (iTup K (tTup (tCons (tVar a) (tCons (tVar b) tNil)))) (gName x) (tsOf K g) Dn σ H := fun Dn σ H q => by
  obtain ⟨C, env, O, fl, env', R, e, q⟩ := q
  unfold mAlFor at e
  split at e
  · rename_i xs ys ha hb
    split at e
    · rename_i e1 h1
      split at e
      · rename_i e2 h2
        split at e
        · rename_i xs' ys' g1 g2
          cases e
          obtain ⟨p, p0, pσ, R1⟩ := R.lend ha
          obtain ⟨r, r0, rσ, R2⟩ := R1.lend (a := b) (xs := ys) (by rw [get_set_ne (Ne.symm hab)]; exact hb)
          refine ⟨_, pσ, _, rσ, by show 2 ≤ sizeLine; decide, fun t nt => ⟨t, rfl, ⟨_, .inl (.inl upd_same)⟩, ?_⟩⟩
          have R3 := (R2.grow (same_new (o := .tup [V.ref p, V.ref r]) nt)).pinned
          have nm : ¬ ((C.lend a p).lend b r).m O t := fun z => by obtain ⟨o, z⟩ := R2.al t z; rw [nt] at z; cases z
          have hb1 : ((C.lend a p).lend b r).bo a = some p := by
            show (if a = b then _ else (if a = a then _ else _)) = _
            rw [if_neg hab, if_pos rfl]
          have hb2 : ((C.lend a p).lend b r).bo b = some r := by
            show (if b = b then _ else _) = _
            rw [if_pos rfl]
          refine for_tup (K := K) (a := t) (xs := [V.ref p, V.ref r]) (fun i σ' H' => ∃ O', Rep K (((C.lend a p).lend b r).pinAt (msk (((C.lend a p).lend b r).m O) (upd H t (.tup [V.ref p, V.ref r])))) (match i with | 0 => (env.set a (.bo xs)).set b (.bo ys) | 1 => e1 | _ => e2) σ' H' O') ⟨O, R3⟩ ?_ ?_ ?_
          · rintro i σ' H' _ ⟨O', R'⟩
            exact .inl (.inl (msk_sub _ _ (R'.pin t _ (by show msk _ _ t = _; rw [msk_no nm, upd_same]))))
          · rintro i y σ' H' hy ⟨O', R'⟩
            match i, hy with
            | 0, hy =>
              cases hy
              exact al_step hxa h1 R' hb1 fun σ2 H2 O2 R4 => ⟨⟨O2, R4⟩, ⟨O2, R4⟩⟩
            | 1, hy =>
              cases hy
              exact al_step hxb h2 R' hb2 fun σ2 H2 O2 R4 => ⟨⟨O2, R4⟩, ⟨O2, R4⟩⟩
            | i + 2, hy => cases hy
          · rintro σ' H' ⟨O', R'⟩
            have R5 : Rep K ((C.lend a p).lend b r) e2 σ' H' O' := R'.unpin (Hs := msk (((C.lend a p).lend b r).m O) (upd H t (.tup [V.ref p, V.ref r]))) ((R2.grow (same_new nt)).pin)
            have R6 := R5.unlend g2
            have R7 := R6.unlend (a := a) (xs := xs') (by rw [get_set_ne hab]; exact g1)
            exact q σ' H' O' R7
        · cases e
      · cases e
    · cases e
  · cases e
/-- for x in (a, b): body, a and b own lists that x stands for -/
theorem ss_alFor {x a b : Nat} {nx na nb : Str} {g : FS} {body : List Stmt} {k : Nat} {px pa pb pt pos : Pos} (hxa : x ≠ a) (hxb : x ≠ b) (hab : a ≠ b) (hp : PassesOwn (model X.prog X.w) X.A X.env X.xe) (hc : X.calm = true) (ha : PE X (.Name na pa) (tVar a)) (hb : PE X (.Name nb pb) (tVar b)) (hg : PG X (.Name nx px) (gName x)) (hbd : SSs X body g)
    (hs1 : starEach [.Name na pa, .Name nb pb] X.env = (false, eval (.Name na pa) X.env) :: starEach [.Name nb pb] X.env := by rfl) (hs2 : starEach [.Name nb pb] X.env = (false, eval (.Name nb pb) X.env) :: starEach [] X.env := by rfl)
    (hs : ∀ z, foldedSetIterable (.Tuple [.Name na pa, .Name nb pb] k pt) X.env z = pure z := by intro _; rfl) :
    SS X (.For (.Name nx px) (.Tuple [.Name na pa, .Name nb pb] k pt) body [] pos) (mAlFor x a b g) :=
  PS.imp (ps_for hp hc (pi_tup (pe_tup (pa_cons ha (pa_cons hb pa_nil hs2) hs1))) hg hbd hs) (ts_alFor hxa hxb hab)
/-- a slot that is not looked at -/
theorem Rep.setU {i : Nat} {v : Option V} (R : Rep K C env σ H O) : Rep K C (env.set i .un) (σ.set i v) H (O.put i none) := by
  have gO : ∀ {j : Nat}, j ≠ i → (O.put i none) j = O j := fun h => put_ne h
  refine R.re (by rw [List.length_set, List.length_set]; exact R.len) rfl rfl rfl (fun j q hq => ?_) (fun j d hd => ?_) (fun j ys hy => ?_) (fun j ys hy => ?_) (fun j k q g1 g2 => ?_) (fun j z hz => ?_)
  · by_cases hj : j = i
    · subst hj; rw [put_same] at hq; cases hq
    · rw [gO hj] at hq; exact ⟨j, hq⟩
  · by_cases hj : j = i
    · subst hj; obtain ⟨e, _⟩ := get_set_eq hd; cases e
    · rw [get_set_ne hj] at hd ⊢; exact ⟨hd, rfl⟩
  · by_cases hj : j = i
    · subst hj; obtain ⟨e, _⟩ := get_set_eq hy; cases e
    · rw [get_set_ne hj] at hy ⊢; exact ⟨j, by unfold ownAt; rw [hy], gO hj, rfl⟩
  · by_cases hj : j = i
    · subst hj; obtain ⟨e, _⟩ := get_set_eq hy; cases e
    · rw [get_set_ne hj] at hy ⊢
      obtain ⟨q, _, g0, gb, _⟩ := R.bo j ys hy
      exact ⟨j, by unfold ownAt; rw [hy], gO hj, by rw [g0, gb], rfl⟩
  · by_cases hj : j = i
    · subst hj; rw [put_same] at g1; cases g1
    · by_cases hk : k = i
      · subst hk; rw [put_same] at g2; cases g2
      · rw [gO hj] at g1; rw [gO hk] at g2; exact R.inj j k q g1 g2
  · by_cases hj : j = i
    · subst hj; obtain ⟨e, _⟩ := get_set_eq hz; cases e
    · rw [get_set_ne hj] at hz ⊢
      exact .inl ⟨xt_keep, hz⟩
end
def appAt (x s : Nat) (h : FE) (e1 : MEnv) : Option (Fl × MEnv) := match ownAt (e1.set x .un) s, h (e1.set x .un) with
  | some _, some (r, e2) => (match ownAt e2 s with | some xs => if xs.length < sizeLine then some (.nx, putOwn e2 s (xs ++ [r.toD])) else none | none => none)
  | _, _ => none
/-- x = [a, b][f]; x.append(h) -/
def mAlIx (x a b : Nat) (f h : FE) : FS := fun env => if env.length ≤ x then none else (match ownAt env a, ownAt env b, f env with
  | some _, some _, some (.d (.int j), e1) => if j = 0 then appAt x a h e1 else if j = 1 then appAt x b h e1 else none
  | _, _, _ => none)
section
variable {X : Cx} {K : Fr} {C : Ctx} {env : MEnv} {σ : L2.St} {H : Hp} {O : Ow}
theorem app_step {x s : Nat} {h : FE} {e1 : MEnv} {r : Fl × MEnv} {p : Addr} {Q : VK} (hxs : x ≠ s) (ht : appAt x s h e1 = some r) (R : Rep K C e1 σ H O) (hσ : σ[s]? = some (some (.ref p))) (hl : x < σ.length) (hf : r.1 = .nx) (k : ∀ H' O', Rep K C r.2 (σ.set x (some (.ref p))) H' O' → Q .non H') :
    tBM K "list" rAppend (tVar x) (tCons (teOf K h) tNil) (σ.set x (some (.ref p))) H Q := by
  unfold appAt at ht
  split at ht
  · rename_i x0 x1 zs r2 e2 h0 h1
    split at ht
    · rename_i xs hx
      split at ht
      · rename_i hz
        cases ht
        have R1 : Rep K C (e1.set x .un) (σ.set x (some (.ref p))) H (O.put x none) := R.setU
        obtain ⟨p1, us0, g0, g1, g2, g3⟩ := R1.own h0
        have hs1 : (σ.set x (some (.ref p)))[s]? = some (some (.ref p)) := by rw [get_set_ne (Ne.symm hxs)]; exact hσ
        rw [hs1] at g1
        cases g1
        refine ⟨_, List.getElem?_set_self hl, .inl ⟨rfl, us0, .inl (.inl g2)⟩, te_run R1 h1 fun w H2 O2 _ P2 d2 => ?_⟩
        obtain ⟨p', us, f0, f1, f2, f3⟩ := P2.own hx
        rw [hs1] at f1; cases f1
        exact ⟨p, us, w, rfl, rfl, f2, by rw [dps_len f3]; exact hz, k _ O2 (P2.write hx f0 (dps_app f3 (.cons d2 .nil)))⟩
      · cases ht
    · cases ht
  · cases ht
theorem appAt_nx {x s : Nat} {h : FE} {e1 : MEnv} {r : Fl × MEnv} (ht : appAt x s h e1 = some r) : r.1 = .nx := by
  unfold appAt at ht
  split at ht
  · split at ht
    · split at ht
      · cases ht; rfl
      · cases ht
    · cases ht
  · cases ht
theorem mAlIx_nx {x a b : Nat} {f h : FE} {env : MEnv} {r : Fl × MEnv} (ht : mAlIx x a b f h env = some r) : r.1 = .nx := by
  unfold mAlIx at ht
  split at ht
  · cases ht
  · split at ht
    · split at ht
      · exact appAt_nx ht
      · split at ht
        · exact appAt_nx ht
        · cases ht
    · cases ht
/-- x = [a, b][e]; x.append(v); .. -/
theorem ss_alIx {x a b : Nat} {f h : FE} {g : FS} {s1 s2 : Stmt} {rest : List Stmt} (hxa : x ≠ a) (hxb : x ≠ b)
    (h1 : PS X s1 (tAsg (tOp (rIx X.K) (tLst (tCons (tVar a) (tCons (tVar b) tNil))) (teOf X.K f)) (gName x))) (h2 : PS X s2 (tDrop (tBM X.K "list" rAppend (tVar x) (tCons (teOf X.K h) tNil)))) (h3 : SSs X rest g) :
    SSs X (s1 :: s2 :: rest) (mSeq (mAlIx x a b f h) g) := PSs.imp (pss_cons h1 (pss_cons h2 h3)) fun Dn σ H q => by
  obtain ⟨C, env, O, fl, env', R, e, q⟩ := q
  unfold mSeq at e
  split at e
  · rename_i e2 he
    unfold mAlIx at he
    split at he
    · cases he
    · rename_i hl
      have hσl : x < σ.length := by rw [← R.len]; omega
      split at he
      · rename_i x0 x1 x2 xs ys j e1 o1 o2 hf
        obtain ⟨p, us, p0, p1, p2, p3⟩ := R.own o1
        obtain ⟨r, vs, r0, r1, r2, r3⟩ := R.own o2
        refine ⟨_, p1, _, r1, by show 2 ≤ sizeLine; decide, fun t nt => ?_⟩
        have R1 := R.grow (same_new (o := .lst [V.ref p, V.ref r]) nt)
        have nm : ¬ C.m O t := fun z => by obtain ⟨o, z⟩ := R.al t z; rw [nt] at z; cases z
        refine te_run R1 hf fun w H2 O2 P2 R2 d2 => ?_
        have hj : w = .int j := by cases d2; rfl
        subst hj
        have ht2 : H2 t = some (.lst [V.ref p, V.ref r]) := msk_sub _ _ (P2.pin t _ (by show msk _ _ t = _; rw [msk_no nm, upd_same]))
        have fin : ∀ (s : Nat) (v : Addr), x ≠ s → σ[s]? = some (some (.ref v)) → atI [V.ref p, V.ref r] j = some (.ref v) → appAt x s h e1 = some (.nx, e2) → rIx X.K (.ref t) (.int j) H2 fun y H3 => gName x y σ H3 fun σ' H' => tSeq (tDrop (tBM X.K "list" rAppend (tVar x) (tCons (teOf X.K h) tNil))) (tsOf X.K g) Dn σ' H' := fun s v hxs hσ hat hap => by
          refine .inl ⟨t, _, j, .ref v, rfl, rfl, .inl (.inl ht2), hat, ?_⟩
          exact app_step hxs hap R2 hσ hσl rfl fun H' O' R' => ⟨C, _, O', fl, env', R', e, q⟩
        split at he
        · rename_i hj
          subst hj
          exact fin a p hxa p1 rfl he
        · split at he
          · rename_i hj
            subst hj
            exact fin b r hxb r1 rfl he
          · cases he
      · cases he
  · rename_i o hne
    have := mAlIx_nx e
    cases this
    exact (hne _ e).elim
end
/-! ### what they give -/
section
variable {env : MEnv} {PS : Fl → MEnv → Prop}
theorem wS_alFor {x a b : Nat} {g : FS} {xs ys : List D} (ha : env[a]? = some (.ow xs)) (hb : env[b]? = some (.ow ys)) (hl : x < env.length) (hxa : x ≠ a) (hxb : x ≠ b) (hab : a ≠ b)
    (h : wS g ((((env.set a (.bo xs)).set b (.bo ys)).set a (.xt .pin)).set x (.bo xs)) fun fl e1 => (fl = .nx ∨ fl = .ct) ∧ ∃ xs1 ys1, e1[a]? = some (.xt .pin) ∧ e1[x]? = some (.bo xs1) ∧ e1[b]? = some (.bo ys1) ∧ e1.length = env.length ∧
      wS g ((((e1.set x .un).set a (.bo xs1)).set b (.xt .pin)).set x (.bo ys1)) fun fl e2 => (fl = .nx ∨ fl = .ct) ∧ ∃ xs2 ys2, e2[b]? = some (.xt .pin) ∧ e2[x]? = some (.bo ys2) ∧ e2[a]? = some (.bo xs2) ∧ b < e2.length ∧ PS .nx ((((e2.set x .un).set b (.bo ys2)).set b (.ow ys2)).set a (.ow xs2))) :
    wS (mAlFor x a b g) env PS := by
  obtain ⟨fl, e1, h1, hfl, xs1, ys1, g1, g2, g3, g4, fl2, e2, h2, hfl2, xs2, ys2, k1, k2, k3, k5, k4⟩ := h
  have hl1 : a < env.length := (List.getElem?_eq_some_iff.mp ha).1
  have hl2 : b < env.length := (List.getElem?_eq_some_iff.mp hb).1
  refine ⟨_, _, ?_, k4⟩
  unfold mAlFor
  rw [ha, hb]
  simp only
  have t1 : alTurn x a g ((env.set a (.bo xs)).set b (.bo ys)) = some ((e1.set x .un).set a (.bo xs1)) := by
    unfold alTurn
    rw [get_set_ne hab, List.getElem?_set_self hl1]
    simp only [List.length_set]
    rw [if_neg (by omega), h1]
    rcases hfl with rfl | rfl <;> simp only [g1, g2]
  rw [t1]
  simp only
  have t2 : alTurn x b g ((e1.set x .un).set a (.bo xs1)) = some ((e2.set x .un).set b (.bo ys2)) := by
    unfold alTurn
    rw [get_set_ne (Ne.symm hab), get_set_ne (Ne.symm hxb), g3]
    simp only [List.length_set]
    rw [if_neg (by omega), h2]
    rcases hfl2 with rfl | rfl <;> simp only [k1, k2]
  rw [t2]
  simp only
  rw [get_set_ne hab, get_set_ne (Ne.symm hxa), k3, List.getElem?_set_self (by rw [List.length_set]; exact k5)]
theorem wS_alIx {x a b : Nat} {f h : FE} (hl : x < env.length) (ha : ∃ xs, ownAt env a = some xs) (hb : ∃ ys, ownAt env b = some ys)
    (k : wE f env fun r e1 => ∃ (j : Int) (s : Nat), r = .d (.int j) ∧ ((j = 0 ∧ s = a) ∨ (j = 1 ∧ s = b)) ∧ (∃ zs, ownAt (e1.set x .un) s = some zs) ∧ wE h (e1.set x .un) fun r2 e2 => ∃ xs, ownAt e2 s = some xs ∧ xs.length < sizeLine ∧ PS .nx (putOwn e2 s (xs ++ [r2.toD]))) :
    wS (mAlIx x a b f h) env PS := by
  obtain ⟨xs0, ha⟩ := ha
  obtain ⟨ys0, hb⟩ := hb
  obtain ⟨r, e1, h1, j, s, rfl, hj, ⟨zs, hz⟩, r2, e2, h2, xs, hx, hlt, hp⟩ := k
  refine ⟨_, _, ?_, hp⟩
  unfold mAlIx
  rw [if_neg (by omega), ha, hb, h1]
  simp only
  have ap : appAt x s h e1 = some (.nx, putOwn e2 s (xs ++ [r2.toD])) := by
    unfold appAt
    rw [hz, h2]
    simp only [hx, if_pos hlt]
  rcases hj with ⟨rfl, rfl⟩ | ⟨rfl, rfl⟩
  · rw [if_pos rfl]; exact ap
  · rw [if_neg (by decide), if_pos rfl]; exact ap
end
end Mir

/-! Mir 31: text * int; x *= e. -/
namespace Mir
open PySem PySem.Spec PyProof.Rows L2
section
variable {X : Cx}
/-- text * int, else as * -/
def mulSD : D → D → Option Rv
  | .str z, .int k => if 0 ≤ k ∧ k ≤ 1000 ∧ z.length ≤ 1000 then some (.d (.str (Txt.mul z k))) else none
  | d, e => mulD d e
theorem mul_ok {z : PySem.Str} {k : Int} (h : 0 ≤ k ∧ k ≤ 1000 ∧ z.length ≤ 1000) : MulOk z k := by
  obtain ⟨h0, h1, h2⟩ := h
  refine ⟨?_, fun hk _ => ?_, fun hk _ => ?_⟩
  · rw [decide_eq_false (by omega), decide_eq_false (by omega)]; rfl
  · have h3 : (1000 : Int) ≤ (2 ^ 63 - 1) / k := by
      rw [Int.le_ediv_iff_mul_le (by omega)]
      omega
    omega
  · unfold PySem.Builtin.Str.tooLong
    have : z.length * k.toNat ≤ 1000 * 1000 := Nat.mul_le_mul h2 (by omega)
    simp only [gt_iff_lt, decide_eq_false_iff_not, Nat.not_lt]
    exact Nat.le_trans this (by decide)
theorem op_mulSD : OpR X (binaryOp .Mult) (rD2 X.K mulSD) := by
  intro pins s σ H x y v u Q I rx ry h
  obtain ⟨m, d, e, r, al, hd, he, hz, q⟩ := h
  unfold mulSD at hz
  split at hz
  · split at hz
    · rename_i hk
      cases hz; cases hd; cases he
      obtain ⟨t, rfl⟩ := rx
      obtain ⟨t', rfl⟩ := ry
      exact PySem.SB.mul (mul_ok hk) fun t2 k => ⟨.str _, H, I.tok _, ⟨_, rfl⟩, q _ H (Same.refl _) (.str _)⟩
    · cases hz
  · exact op_mulD pins s σ H x y v u Q I rx ry ⟨m, d, e, r, al, hd, he, hz, q⟩
def imulD : D → D → Option Rv
  | .int a, .int b => if (-(2 ^ 64) < a ∧ a < 2 ^ 64) then some (.d (.int (a * b))) else none
  | _, _ => none
theorem ip_mulD : PIp X .Mult (rD2 X.K imulD) := by
  intro pins s σ H x y v u Q I rx ry h
  obtain ⟨m, d, e, r, al, hd, he, hz, q⟩ := h
  unfold imulD at hz
  split at hz
  · split at hz
    · rename_i hk
      cases hz; cases hd; cases he
      exact iop_mul pins s σ H _ _ v u Q I rx ry ⟨_, _, rfl, rfl, .inl hk, q _ H (Same.refl _) (.int _)⟩
    · cases hz
  · cases hz
theorem imul_i {a b : Int} : imulD (.int a) (.int b) = if (-(2 ^ 64) < a ∧ a < 2 ^ 64) then some (.d (.int (a * b))) else none := rfl
theorem mulS_i {a b : Int} : mulSD (.int a) (.int b) = mulD (.int a) (.int b) := rfl
theorem mulS_l {a : List D} {b : Int} : mulSD (.list a) (.int b) = mulD (.list a) (.int b) := rfl
end
end Mir

/-! Mir 32: x = [new lists ..]; looks at x; x[k].append(..), x[k].reverse(): lists that nobody else knows, inside a list. -/
namespace Mir
open PySem L2
abbrev Hs2 := Addr → Option (List V)
def hput (S : Hs2) (p : Addr) (us : List V) : Hs2 := fun a => if a = p then some us else S a
/-- the lists of S are hidden -/
def Ctx.hid (C : Ctx) (S : Hs2) : Ctx := { C with M := fun a => C.M a ∨ ∃ us, S a = some us, HM := fun a => match S a with | some us => some (.lst us) | none => C.HM a }
theorem hid_add {C : Ctx} {S : Hs2} {p : Addr} {us : List V} : (C.hid S).add p (.lst us) = C.hid (hput S p us) := by
  have e1 : (fun a => (C.M a ∨ ∃ us, S a = some us) ∨ a = p) = (fun a => C.M a ∨ ∃ vs, hput S p us a = some vs) := by
    funext a
    apply propext
    unfold hput
    by_cases h : a = p
    · simp [h]
    · simp [h]
  have e2 : upd (C.hid S).HM p (.lst us) = (C.hid (hput S p us)).HM := by
    funext a
    by_cases h : a = p
    · subst h
      rw [upd_same]
      show _ = (match hput S a us a with | some us => some (HO.lst us) | none => C.HM a)
      unfold hput; rw [if_pos rfl]
    · rw [upd_ne h]
      show (match S a with | some us => some (HO.lst us) | none => C.HM a) = (match hput S p us a with | some us => some (HO.lst us) | none => C.HM a)
      unfold hput; rw [if_neg h]
  show ({ C with M := fun a => (C.M a ∨ ∃ us, S a = some us) ∨ a = p, HM := upd (C.hid S).HM p (.lst us) } : Ctx) = { C with M := fun a => C.M a ∨ ∃ vs, hput S p us a = some vs, HM := (C.hid (hput S p us)).HM }
  rw [e1, e2]
theorem add_hid {C : Ctx} {S : Hs2} {p : Addr} {us : List V} (hp : S p = none) : (C.add p (.lst us)).hid S = C.hid (hput S p us) := by
  have e1 : (fun a => (C.M a ∨ a = p) ∨ ∃ us, S a = some us) = (fun a => C.M a ∨ ∃ vs, hput S p us a = some vs) := by
    funext a
    apply propext
    unfold hput
    by_cases h : a = p
    · subst h; simp [hp]
    · simp [h]
  have e2 : ((C.add p (.lst us)).hid S).HM = (C.hid (hput S p us)).HM := by
    funext a
    show (match S a with | some us => some (HO.lst us) | none => upd C.HM p (.lst us) a) = (match hput S p us a with | some us => some (HO.lst us) | none => C.HM a)
    unfold hput
    by_cases h : a = p
    · subst h
      rw [if_pos rfl, hp]
      exact upd_same
    · rw [if_neg h]
      cases S a with
      | none => exact upd_ne h
      | some us => rfl
  show ({ C with M := fun a => (C.M a ∨ a = p) ∨ ∃ us, S a = some us, HM := ((C.add p (.lst us)).hid S).HM } : Ctx) = { C with M := fun a => C.M a ∨ ∃ vs, hput S p us a = some vs, HM := (C.hid (hput S p us)).HM }
  rw [e1, e2]
section
variable {K : Fr} {C : Ctx} {env : MEnv} {σ : L2.St} {H H' : Hp} {O : Ow} {S : Hs2}
theorem Rep.hgot (R : Rep K (C.hid S) env σ H O) {a : Addr} {us : List V} (h : S a = some us) : H a = some (.lst us) := by
  have := (R.frn a (.inr ⟨us, h⟩)).1
  rw [this]
  show (match S a with | some us => some (HO.lst us) | none => C.HM a) = _
  rw [h]
theorem Rep.unhid (R : Rep K (C.hid S) env σ H O) (n : ∀ a us, S a = some us → ¬ C.M a) : Rep K C env σ H O := by
  refine Rep.step0 R (msk_anti fun a z => ?_) (fun _ _ _ => rfl) (fun j q hq z => (R.out j q hq).1 (.inl z)) rfl rfl (fun a ha => ?_)
  · rcases z with z | z
    · exact .inl (.inl z)
    · exact .inr z
  · obtain ⟨h1, h2⟩ := R.frn a (.inl ha)
    refine ⟨?_, h2⟩
    rw [h1]
    show (match S a with | some us => some (HO.lst us) | none => C.HM a) = _
    cases q : S a with
    | none => rfl
    | some us => exact absurd ha (n a us q)
theorem Rep.hchange (R : Rep K (C.hid S) env σ H O) {p : Addr} {us us' : List V} (h : S p = some us) : Rep K (C.hid (hput S p us')) env σ (upd H p (.lst us')) O := by
  have np : ∀ j q, O j = some q → q ≠ p := fun j q hq e => (R.out j q hq).1 (.inr ⟨us, by rw [e]; exact h⟩)
  have eM : ∀ a, (C.hid (hput S p us')).M a ↔ (C.hid S).M a := fun a => by
    show (C.M a ∨ ∃ vs, hput S p us' a = some vs) ↔ (C.M a ∨ ∃ us, S a = some us)
    unfold hput
    by_cases e : a = p
    · subst e; simp [h]
    · simp [e]
  refine Rep.step0 R ?_ (fun j q hq => upd_ne (np j q hq)) (fun j q hq z => (R.out j q hq).1 ((eM q).mp z)) rfl rfl (fun a ha => ?_)
  · intro a o e
    obtain ⟨h1, h2⟩ := msk_some e
    have na : a ≠ p := fun z => h1 (.inl (.inr ⟨us, by rw [z]; exact h⟩))
    rw [msk_no fun z => h1 ?_, upd_ne na]
    · exact h2
    · rcases z with z | z
      · exact .inl ((eM a).mp z)
      · exact .inr z
  · by_cases e : a = p
    · subst e
      rw [upd_same]
      refine ⟨?_, _, rfl⟩
      show _ = (match hput S a us' a with | some us => some (HO.lst us) | none => C.HM a)
      unfold hput; rw [if_pos rfl]
    · obtain ⟨h1, h2⟩ := R.frn a ((eM a).mp ha)
      rw [upd_ne e]
      refine ⟨h1.trans ?_, h2⟩
      show (match S a with | some us => some (HO.lst us) | none => C.HM a) = (match hput S p us' a with | some us => some (HO.lst us) | none => C.HM a)
      unfold hput; rw [if_neg e]
end
inductive All2 {α β : Type} (P : α → β → Prop) : List α → List β → Prop
  | nil : All2 P [] []
  | cons {a : α} {b : β} {as : List α} {bs : List β} (h : P a b) (t : All2 P as bs) : All2 P (a :: as) (b :: bs)
theorem All2.imp {α β : Type} {P Q : α → β → Prop} {as : List α} {bs : List β} (h : All2 P as bs) (i : ∀ a b, P a b → Q a b) : All2 Q as bs := by
  induction h with
  | nil => exact .nil
  | cons h _ ih => exact .cons (i _ _ h) ih
theorem All2.mem {α β : Type} {P : α → β → Prop} {as : List α} {bs : List β} (h : All2 P as bs) {a : α} (ha : a ∈ as) : ∃ b ∈ bs, P a b := by
  induction h with
  | nil => cases ha
  | cons h _ ih =>
    rcases List.mem_cons.mp ha with e | e
    · subst e; exact ⟨_, List.mem_cons_self, h⟩
    · obtain ⟨b, h1, h2⟩ := ih e; exact ⟨b, List.mem_cons_of_mem _ h1, h2⟩
theorem All2.len {α β : Type} {P : α → β → Prop} {as : List α} {bs : List β} (h : All2 P as bs) : as.length = bs.length := by
  induction h with
  | nil => rfl
  | cons _ _ ih => rw [List.length_cons, List.length_cons, ih]
/-- new lists, one by one -/
abbrev FL := MEnv → Option (List (List D) × MEnv)
def lsNil : FL := fun env => some ([], env)
def lsCons (f : FE) (g : FL) : FL := fun env => match f env with
  | some (.l xs, e) => (match g e with | some (xss, e') => some (xs :: xss, e') | none => none)
  | _ => none
def LsOk (K : Fr) (m : Addr → Prop) (H : Hp) (S : Hs2) (q : Addr) (xs : List D) : Prop := ∃ us, S q = some us ∧ DpAll K (msk m H) us xs
def PostL (K : Fr) (C : Ctx) (O : Ow) (σ : L2.St) (env : MEnv) (H : Hp) (vs : List V) (xss : List (List D)) : Prop :=
  ∃ (S : Hs2) (qs : List Addr), vs = qs.map V.ref ∧ (∀ a us, S a = some us → ¬ C.M a) ∧ Rep K (C.hid S) env σ H O ∧ All2 (LsOk K ((C.hid S).m O) H S) qs xss
def tlOf (K : Fr) (f : FL) : TA := fun σ H Q => ∃ (C : Ctx) (env : MEnv) (O : Ow) (xss : List (List D)) (env' : MEnv), Rep K C env σ H O ∧ f env = some (xss, env') ∧ ∀ vs H' O', PostL K C O' σ env' H' vs xss → Q vs H'
section
variable {X : Cx}
theorem sl_nil : PA X [] (tlOf X.K lsNil) := PA.imp pa_nil fun σ H Q q => by
  obtain ⟨C, env, O, xss, env', R, e, q⟩ := q
  cases e
  refine q [] H O ⟨fun _ => none, [], rfl, (fun _ _ h => by cases h), ?_, .nil⟩
  have : C.hid (fun _ => none) = C := by
    show ({ C with M := fun a => C.M a ∨ ∃ us, (none : Option (List V)) = some us, HM := fun a => C.HM a } : Ctx) = C
    have : (fun a => C.M a ∨ ∃ us, (none : Option (List V)) = some us) = C.M := by funext a; apply propext; simp
    rw [this]
  rw [this]; exact R
theorem sl_cons {e : Expr} {es : List Expr} {f : FE} {g : FL} (ha : SE X e f) (hr : PA X es (tlOf X.K g)) (hs : starEach (e :: es) X.env = (false, eval e X.env) :: starEach es X.env := by rfl) : PA X (e :: es) (tlOf X.K (lsCons f g)) := PA.imp (pa_cons ha hr hs) fun σ H Q q => by
  obtain ⟨C, env, O, xss, env', R, e, q⟩ := q
  unfold lsCons at e
  split at e
  · rename_i xs e1 h1
    split at e
    · rename_i xss' e2 h2
      cases e
      refine ⟨C, env, O, _, e1, R, h1, fun v H1 O1 p1 => ?_⟩
      obtain ⟨p, us, rfl, nm, ns, hp, R1, a1⟩ := p1
      refine ⟨(C.add p (.lst us)).pinAt (msk ((C.add p (.lst us)).m O1) H1), e1, O1, xss', _, R1.pinned, h2, fun vs H2 O2 p2 => ?_⟩
      obtain ⟨S, qs, rfl, n2, R2, l2⟩ := p2
      have Sp : S p = none := by
        cases z : S p with
        | none => rfl
        | some ws => exact absurd (Or.inr rfl) (n2 p ws z)
      have a2 : DpAll X.K (msk ((((C.add p (.lst us)).pinAt (msk ((C.add p (.lst us)).m O1) H1)).hid S).m O2) H2) us xs := dps_mono R2.pin a1
      have R3 : Rep X.K ((C.add p (.lst us)).hid S) _ σ H2 O2 := Rep.unpin (C := (C.add p (.lst us)).hid S) (Hs := msk ((C.add p (.lst us)).m O1) H1) R2 R1.pin
      have em : ((((C.add p (.lst us)).pinAt (msk ((C.add p (.lst us)).m O1) H1)).hid S).m O2) = ((C.hid (hput S p us)).m O2) := by
        rw [← add_hid Sp]; rfl
      rw [em] at a2 l2
      rw [add_hid Sp] at R3
      refine q _ H2 O2 ⟨hput S p us, p :: qs, rfl, fun a ws h => ?_, R3, .cons ⟨us, by unfold hput; rw [if_pos rfl], a2⟩ (l2.imp fun q xs h => ?_)⟩
      · unfold hput at h
        by_cases z : a = p
        · subst z; exact nm
        · rw [if_neg z] at h
          exact fun w => n2 a ws h (.inl w)
      · obtain ⟨ws, h1, h2⟩ := h
        refine ⟨ws, ?_, h2⟩
        unfold hput
        rw [if_neg fun z => by rw [z, Sp] at h1; cases h1]
        exact h1
    · cases e
  · cases e
/-! ### the two stretches: looks, then turns -/
abbrev FN := List (List D) → FS
abbrev FM := Nat → Nat → FS
def Hd (K : Fr) (C : Ctx) (env : MEnv) (σ : L2.St) (H : Hp) (O : Ow) (i : Nat) (xss : List (List D)) : Prop :=
  ∃ (S : Hs2) (p : Addr) (qs : List Addr), Rep K (C.hid S) env σ H O ∧ (∀ a us, S a = some us → ¬ C.M a) ∧ σ[i]? = some (some (.ref p)) ∧ S p = some (qs.map V.ref) ∧ p ∉ qs ∧ All2 (LsOk K ((C.hid S).m O) H S) qs xss
def Hm (K : Fr) (C : Ctx) (env : MEnv) (σ : L2.St) (H : Hp) (O : Ow) (i m n : Nat) : Prop :=
  ∃ (S : Hs2) (p : Addr) (qs : List Addr), Rep K (C.hid S) env σ H O ∧ (∀ a us, S a = some us → ¬ C.M a) ∧ σ[i]? = some (some (.ref p)) ∧ S p = some (qs.map V.ref) ∧ p ∉ qs ∧ qs.length = m ∧ ∀ q ∈ qs, ∃ us, S q = some us ∧ us.length ≤ n
def tnOf (K : Fr) (i : Nat) (g : FN) : TS := fun Dn σ H => ∃ (C : Ctx) (env : MEnv) (O : Ow) (xss : List (List D)) (fl : Fl) (env' : MEnv), Hd K C env σ H O i xss ∧ g xss env = some (fl, env') ∧ PostS K C Dn env' fl
def tmOf (K : Fr) (i : Nat) (g : FM) : TS := fun Dn σ H => ∃ (C : Ctx) (env : MEnv) (O : Ow) (m n : Nat) (fl : Fl) (env' : MEnv), Hm K C env σ H O i m n ∧ g m n env = some (fl, env') ∧ PostS K C Dn env' fl
/-- x = [f1, .., fn]; .. -/
def mNest (i : Nat) (F : FL) (g : FN) : FS := fun env => match F env with
  | some (xss, e1) => if i < e1.length ∧ xss.length ≤ 1000 then g xss (e1.set i .un) else none
  | none => none
def nestE (i : Nat) (xss : List (List D)) (env : MEnv) : MEnv := lookE (env.set i (.dt (.list (xss.map PyData.list))))
noncomputable def nGuard (i : Nat) (t : FT) (f : FS) (g : FN) : FN := fun xss env => match t (nestE i xss env) with
  | some (b, e1) => open Classical in if e1 = nestE i xss env then (if b = true then (match f env with | some (.rt r, e2) => some (.rt r, e2) | _ => none) else g xss env) else none
  | none => none
def nTurn (g : FM) : FN := fun xss env => if (∀ xs ∈ xss, xs.length ≤ 1000) then g xss.length 1000 env else none
def nApp (k : Nat) (f : FE) (g : FM) : FM := fun m n env => if k < m ∧ n < sizeLine then (match f env with | some (_, e1) => g m (n + 1) e1 | none => none) else none
def nRev (k : Nat) (g : FM) : FM := fun m n env => if k < m then g m n env else none
def nEnd (k : FS) : FM := fun _ _ env => k env
theorem nb_entry {i : Nat} {s : Stmt} {rest : List Stmt} {F : FL} {g : FN} (h1 : PS X s (tAsg (tLst (tlOf X.K F)) (gName i))) (h2 : PSs X rest (tnOf X.K i g)) : SSs X (s :: rest) (mNest i F g) := PSs.imp (pss_cons h1 h2) fun Dn σ H q => by
  obtain ⟨C, env, O, fl, env', R, e, q⟩ := q
  unfold mNest at e
  split at e
  · rename_i xss e1 h1
    split at e
    · rename_i hl
      refine ⟨C, env, O, xss, e1, R, h1, fun vs H1 O1 p1 => ?_⟩
      obtain ⟨S, qs, rfl, n1, R1, l1⟩ := p1
      refine ⟨by rw [List.length_map, l1.len, sizeLine_eq]; omega, fun p hp => ?_⟩
      have Sp : S p = none := by
        cases z : S p with
        | none => rfl
        | some ws => have := R1.hgot z; rw [hp] at this; cases this
      have nC : ¬ C.M p := fun z => by
        obtain ⟨_, o, z⟩ := R1.frn p (.inl z)
        rw [hp] at z; cases z
      have nq : p ∉ qs := fun z => by
        obtain ⟨xs, _, us, h, _⟩ := l1.mem z
        rw [Sp] at h; cases h
      have R2 := Rep.hide (o := .lst (qs.map V.ref)) R1 hp (same_new hp) upd_same
      rw [hid_add] at R2
      have R3 : Rep X.K (C.hid (hput S p (qs.map V.ref))) (e1.set i .un) (σ.set i (some (.ref p))) (upd H1 p (.lst (qs.map V.ref))) (O1.put i none) := R2.setU
      refine ⟨C, e1.set i .un, O1.put i none, xss, fl, env', ⟨hput S p (qs.map V.ref), p, qs, R3, fun a us h => ?_, List.getElem?_set_self (by rw [← R1.len]; exact hl.1), by unfold hput; rw [if_pos rfl], nq, l1.imp fun q xs h => ?_⟩, e, q⟩
      · unfold hput at h
        by_cases z : a = p
        · subst z; exact nC
        · rw [if_neg z] at h; exact n1 a us h
      · obtain ⟨us, h1, h2⟩ := h
        have nqp : q ≠ p := fun z => by rw [z, Sp] at h1; cases h1
        refine ⟨us, by unfold hput; rw [if_neg nqp]; exact h1, dps_mono (msk_new (same_new hp) fun a z => ?_) h2⟩
        rcases z with (z | ⟨ws, z⟩) | ⟨j, z⟩
        · exact .inl (.inl (.inl z))
        · unfold hput at z
          by_cases w : a = p
          · subst w; exact .inr hp
          · rw [if_neg w] at z; exact .inl (.inl (.inr ⟨ws, z⟩))
        · by_cases w : j = i
          · subst w; rw [put_same] at z; cases z
          · rw [put_ne w] at z; exact .inl (.inr ⟨j, z⟩)
    · cases e
  · cases e
section
variable {K : Fr} {C : Ctx} {env : MEnv} {σ : L2.St} {H : Hp} {O : Ow} {i : Nat} {xss : List (List D)}
/-- the lists seen as data -/
theorem Hd.data (h : Hd K C env σ H O i xss) : Rep K C (env.set i (.dt (.list (xss.map PyData.list)))) σ H (O.put i none) ∧ Rep K C env σ H O := by
  obtain ⟨S, p, qs, R, n, hσ, hp, nq, l⟩ := h
  have R1 : Rep K C env σ H O := R.unhid n
  have hm : ∀ a us, S a = some us → ¬ C.m O a := fun a us h z => by
    rcases z with z | ⟨j, z⟩
    · exact n a us h z
    · exact (R.out j a z).1 (.inr ⟨us, h⟩)
  have Sm : Same (msk ((C.hid S).m O) H) (msk (C.m O) H) := msk_anti fun a z => by
    rcases z with z | z
    · exact .inl (.inl z)
    · exact .inr z
  have lst : ∀ a us ds, S a = some us → DpAll K (msk (C.m O) H) us ds → Dp K (msk (C.m O) H) (.ref a) (.list ds) := fun a us ds h d => by
    refine Dp.lst (.inl (.inl ?_)) d
    rw [msk_no (hm a us h)]
    exact R.hgot h
  have all : ∀ {qs : List Addr} {xss : List (List D)}, All2 (LsOk K ((C.hid S).m O) H S) qs xss → DpAll K (msk (C.m O) H) (qs.map V.ref) (xss.map PyData.list) := fun {qs xss} l => by
    induction l with
    | nil => exact .nil
    | cons h _ ih =>
      obtain ⟨us, h1, h2⟩ := h
      exact .cons (lst _ us _ h1 (dps_mono Sm h2)) ih
  have d := lst p _ _ hp (all l)
  have es : σ.set i (some (.ref p)) = σ := by
    apply List.ext_getElem?
    intro j
    by_cases hj : j = i
    · subst hj
      rw [List.getElem?_set_self (List.getElem?_eq_some_iff.mp hσ).1, hσ]
    · rw [get_set_ne hj]
  refine ⟨?_, R1⟩
  have := R1.setD (i := i) d
  rw [es] at this
  exact this
theorem Hd.grow {H' : Hp} (h : Hd K C env σ H O i xss) (s : Same H H') : Hd K C env σ H' O i xss := by
  obtain ⟨S, p, qs, R, n, hσ, hp, nq, l⟩ := h
  exact ⟨S, p, qs, R.grow s, n, hσ, hp, nq, l.imp fun q xs ⟨us, h1, h2⟩ => ⟨us, h1, dps_mono (msk_mono s) h2⟩⟩
end
theorem nb_guard {i : Nat} {c : Expr} {a : List Stmt} {rest : List Stmt} {pos : Pos} {t : FT} {f : FS} {g : FN} (hc : ST X c t) (ha : SSs X a f) (h2 : PSs X rest (tnOf X.K i g)) : PSs X (.If c a [] pos :: rest) (tnOf X.K i (nGuard i t f g)) := PSs.imp (pss_cons (ps_if hc ha pss_nil) h2) fun Dn σ H q => by
  obtain ⟨C, env, O, xss, fl, env', hd, e, q⟩ := q
  obtain ⟨Rd, R0⟩ := hd.data
  unfold nGuard at e
  split at e
  · rename_i b e1 h1
    split at e
    · rename_i hc
      have grow : ∀ H' O', Rep X.K (C.pinAt (msk (C.m (fun _ => none)) H)) e1 σ H' O' → Same H H' := fun H' O' R' a o h => by
        by_cases hm : C.M a
        · rw [(R'.frn a hm).1]
          have := (R0.frn a hm).1
          rw [h] at this
          exact this.symm
        · have : msk (C.m (fun _ => none)) H a = some o := by
            rw [msk_no fun z => z.elim hm fun ⟨_, z⟩ => nomatch z]
            exact h
          exact msk_sub _ _ (R'.pin a o this)
      refine ⟨C.pinAt (msk (C.m (fun _ => none)) H), nestE i xss env, _, b, e1, Rd.look.pinned, h1, fun H' O' R' => ?_⟩
      have s := grow H' O' R'
      cases b with
      | true =>
        rw [if_pos rfl] at e
        show tsOf X.K f _ σ H'
        split at e
        · rename_i r e2 hf
          cases e
          exact ⟨C, env, O, _, _, R0.grow s, hf, q⟩
        · cases e
      | false =>
        rw [if_neg (by decide)] at e
        exact ⟨C, env, O, xss, fl, env', hd.grow s, e, q⟩
    · cases e
  · cases e
theorem nb_turn {i : Nat} {rest : List Stmt} {g : FM} (h : PSs X rest (tmOf X.K i g)) : PSs X rest (tnOf X.K i (nTurn g)) := PSs.imp h fun Dn σ H q => by
  obtain ⟨C, env, O, xss, fl, env', ⟨S, p, qs, R, n, hσ, hp, nq, l⟩, e, q⟩ := q
  unfold nTurn at e
  split at e
  · rename_i hx
    refine ⟨C, env, O, _, _, fl, env', ⟨S, p, qs, R, n, hσ, hp, nq, l.len, fun q hq => ?_⟩, e, q⟩
    obtain ⟨xs, h1, us, h2, h3⟩ := l.mem hq
    exact ⟨us, h2, by rw [dps_len h3]; exact hx xs h1⟩
  · cases e
theorem nb_end {i : Nat} {rest : List Stmt} {k : FS} (h : SSs X rest k) : PSs X rest (tmOf X.K i (nEnd k)) := PSs.imp h fun Dn σ H q => by
  obtain ⟨C, env, O, m, n, fl, env', ⟨S, p, qs, R, n, hσ, hp, nq, l, _⟩, e, q⟩ := q
  exact ⟨C, env, O, fl, env', R.unhid n, e, q⟩
theorem ix_nat {us : List V} {k : Nat} {v : V} (h : us[k]? = some v) : atI us k = some v := by
  have hk : k < us.length := (List.getElem?_eq_some_iff.mp h).1
  unfold atI ixN
  rw [if_pos (by omega), if_pos (by omega)]
  exact h
theorem nb_app {i k : Nat} {s : Stmt} {rest : List Stmt} {f : FE} {g : FM} (h1 : PS X s (tDrop (tBM X.K "list" rAppend (tOp (rIx X.K) (tVar i) (tC (.int k))) (tCons (teOf X.K f) tNil)))) (h2 : PSs X rest (tmOf X.K i g)) : PSs X (s :: rest) (tmOf X.K i (nApp k f g)) := PSs.imp (pss_cons h1 h2) fun Dn σ H q => by
  obtain ⟨C, env, O, m, n, fl, env', ⟨S, p, qs, R, nM, hσ, hp, nq, hl, hb⟩, e, q⟩ := q
  unfold nApp at e
  split at e
  · rename_i hc
    split at e
    · rename_i r e1 h1
      subst hl
      have hk : qs[k]? = some qs[k] := List.getElem?_eq_getElem hc.1
      obtain ⟨us, hu1, hu2⟩ := hb qs[k] (List.getElem_mem hc.1)
      refine ⟨_, hσ, .inl ⟨p, _, k, .ref qs[k], rfl, rfl, .inl (.inl (R.hgot hp)), ix_nat (by rw [List.getElem?_map, hk]; rfl), .inl ⟨rfl, us, .inl (.inl (R.hgot hu1))⟩, te_run R h1 fun w H2 O2 _ R2 d2 => ?_⟩⟩
      refine ⟨qs[k], us, w, rfl, rfl, R2.hgot hu1, by have := hc.2; omega, ?_⟩
      refine ⟨C, e1, O2, qs.length, n + 1, fl, env', ⟨hput S qs[k] (us ++ [w]), p, qs, R2.hchange hu1, fun a ws h => ?_, hσ, ?_, nq, rfl, fun q hq => ?_⟩, e, q⟩
      · unfold hput at h
        by_cases z : a = qs[k]
        · subst z; exact nM _ us hu1
        · rw [if_neg z] at h; exact nM a ws h
      · unfold hput
        rw [if_neg fun z => nq (by rw [z]; exact List.getElem_mem hc.1)]
        exact hp
      · by_cases z : q = qs[k]
        · subst z
          exact ⟨us ++ [w], by unfold hput; rw [if_pos rfl], by rw [List.length_append]; exact Nat.add_le_add_right hu2 1⟩
        · obtain ⟨ws, g1, g2⟩ := hb q hq
          exact ⟨ws, by unfold hput; rw [if_neg z]; exact g1, by omega⟩
    · cases e
  · cases e
theorem nb_rev {i k : Nat} {s : Stmt} {rest : List Stmt} {g : FM} (h1 : PS X s (tDrop (tBM0 X.K "list" rReverse (tOp (rIx X.K) (tVar i) (tC (.int k)))))) (h2 : PSs X rest (tmOf X.K i g)) : PSs X (s :: rest) (tmOf X.K i (nRev k g)) := PSs.imp (pss_cons h1 h2) fun Dn σ H q => by
  obtain ⟨C, env, O, m, n, fl, env', ⟨S, p, qs, R, nM, hσ, hp, nq, hl, hb⟩, e, q⟩ := q
  unfold nRev at e
  split at e
  · rename_i hc
    subst hl
    have hk : qs[k]? = some qs[k] := List.getElem?_eq_getElem hc
    obtain ⟨us, hu1, hu2⟩ := hb qs[k] (List.getElem_mem hc)
    refine ⟨_, hσ, .inl ⟨p, _, k, .ref qs[k], rfl, rfl, .inl (.inl (R.hgot hp)), ix_nat (by rw [List.getElem?_map, hk]; rfl), .inl ⟨rfl, us, .inl (.inl (R.hgot hu1))⟩, ?_⟩⟩
    refine ⟨qs[k], us, rfl, rfl, R.hgot hu1, ?_⟩
    refine ⟨C, env, O, qs.length, n, fl, env', ⟨hput S qs[k] us.reverse, p, qs, R.hchange hu1, fun a ws h => ?_, hσ, ?_, nq, rfl, fun q hq => ?_⟩, e, q⟩
    · unfold hput at h
      by_cases z : a = qs[k]
      · subst z; exact nM _ us hu1
      · rw [if_neg z] at h; exact nM a ws h
    · unfold hput
      rw [if_neg fun z => nq (by rw [z]; exact List.getElem_mem hc)]
      exact hp
    · by_cases z : q = qs[k]
      · subst z
        exact ⟨us.reverse, by unfold hput; rw [if_pos rfl], by rw [List.length_reverse]; exact hu2⟩
      · obtain ⟨ws, g1, g2⟩ := hb q hq
        exact ⟨ws, by unfold hput; rw [if_neg z]; exact g1, g2⟩
  · cases e
end
/-! ### what they give -/
def wL (f : FL) (env : MEnv) (P : List (List D) → MEnv → Prop) : Prop := wX (f env) P
section
variable {env : MEnv} {PS : Fl → MEnv → Prop} {PL : List (List D) → MEnv → Prop}
theorem wL_nil (h : PL [] env) : wL lsNil env PL := ⟨_, _, rfl, h⟩
theorem wL_cons {f : FE} {g : FL} (h : wE f env fun r e => ∃ xs, r = .l xs ∧ wL g e fun xss e' => PL (xs :: xss) e') : wL (lsCons f g) env PL := by
  obtain ⟨r, e, h1, xs, rfl, xss, e', h2, h3⟩ := h
  refine ⟨_, _, ?_, h3⟩
  unfold lsCons
  rw [h1]; simp only; rw [h2]
theorem wS_nest {i : Nat} {F : FL} {g : FN} (h : wL F env fun xss e1 => i < e1.length ∧ xss.length ≤ 1000 ∧ wS (g xss) (e1.set i .un) PS) : wS (mNest i F g) env PS := by
  obtain ⟨xss, e1, h1, h2, h3, fl, e2, h4, h5⟩ := h
  refine ⟨_, _, ?_, h5⟩
  unfold mNest
  rw [h1]; simp only; rw [if_pos ⟨h2, h3⟩]; exact h4
theorem wS_nGuard {i : Nat} {t : FT} {f : FS} {g : FN} {xss : List (List D)} (h : wT t (nestE i xss env) fun b e => b = false ∧ e = nestE i xss env) (k : wS (g xss) env PS) : wS (nGuard i t f g xss) env PS := by
  obtain ⟨b, e, h1, rfl, rfl⟩ := h
  obtain ⟨fl, e2, k1, k2⟩ := k
  refine ⟨_, _, ?_, k2⟩
  unfold nGuard
  rw [h1]
  simp [k1]
theorem wS_nTurn {g : FM} {xss : List (List D)} (h : ∀ xs ∈ xss, xs.length ≤ 1000) (k : wS (g xss.length 1000) env PS) : wS (nTurn g xss) env PS := by
  obtain ⟨fl, e2, k1, k2⟩ := k
  refine ⟨_, _, ?_, k2⟩
  unfold nTurn
  rw [if_pos h]; exact k1
theorem wS_nApp {k m n : Nat} {f : FE} {g : FM} (h : k < m ∧ n < sizeLine) (q : wE f env fun _ e1 => wS (g m (n + 1)) e1 PS) : wS (nApp k f g m n) env PS := by
  obtain ⟨r, e1, h1, fl, e2, k1, k2⟩ := q
  refine ⟨_, _, ?_, k2⟩
  unfold nApp
  rw [if_pos h, h1]; exact k1
theorem wS_nRev {k m n : Nat} {g : FM} (h : k < m) (q : wS (g m n) env PS) : wS (nRev k g m n) env PS := by
  obtain ⟨fl, e2, k1, k2⟩ := q
  refine ⟨_, _, ?_, k2⟩
  unfold nRev
  rw [if_pos h]; exact k1
theorem wS_nEnd {m n : Nat} {k : FS} (q : wS k env PS) : wS (nEnd k m n) env PS := q
end
end Mir

/-! Mir 33: code that raises, by a function of the frame's data: the exception, and the frame where it flies up. -/
namespace Mir
open PySem L2

abbrev FX := MEnv → Option (Exn × MEnv)
def txOf (K : Fr) (W : WX) (f : FX) (σ : L2.St) (H : Hp) : Prop := ∃ (C : Ctx) (env : MEnv) (O : Ow) (x : Exn) (env' : MEnv), Rep K C env σ H O ∧ f env = some (x, env') ∧ ∀ cls d σ' H' O', Rep K C env' σ' H' O' → XnOk K (msk (C.m O') H') cls d x → W cls d σ' H'
abbrev XE1 (X : Cx) (W : WX) (e : Expr) (f : FX) : Prop := PE X e (fun σ H _ => txOf X.K W f σ H)
abbrev XA1 (X : Cx) (W : WX) (es : List Expr) (f : FX) : Prop := PA X es (fun σ H _ => txOf X.K W f σ H)
abbrev XS1 (X : Cx) (W : WX) (s : Stmt) (f : FX) : Prop := PS X s (fun _ σ H => txOf X.K W f σ H)
abbrev XSs (X : Cx) (W : WX) (s : List Stmt) (f : FX) : Prop := PSs X s (fun _ σ H => txOf X.K W f σ H)
abbrev XI1 (X : Cx) (W : WX) (tg e : Expr) (f : FX) : Prop := PI X tg e (fun σ H _ => txOf X.K W f σ H)

def xNo : FX := fun _ => none
def xOr (f g : FX) : FX := fun env => match f env with | some r => some r | none => g env
def xSeq (g : FS) (f : FX) : FX := fun env => match g env with | some (.nx, e) => f e | _ => none
def xIf (t : FT) (f g : FX) : FX := fun env => match t env with | some (true, e) => f e | some (false, e) => g e | none => none
def xArg (g : FE) (f : FX) : FX := fun env => match g env with | some (_, e) => f e | none => none
def xCall (R : List D → Option Exn) (fs : FA) : FX := fun env => match fs env with
  | some (ds, e1) => (match R ds with | some x => some (x, e1) | none => none)
  | none => none
def loopX (u : UG) (g : FS) (f : FX) : List D → MEnv → Option (Exn × MEnv)
  | [], _ => none
  | d :: ds, env => match u d env with
    | none => none
    | some e1 => match f e1 with
      | some r => some r
      | none => match g e1 with
        | some (.nx, e2) => loopX u g f ds e2
        | some (.ct, e2) => loopX u g f ds e2
        | _ => none
def xFor (src : FA) (u : UG) (g : FS) (f : FX) : FX := fun env => match src env with | some (ds, e) => loopX u g f ds e | none => none

section
variable {X : Cx} {W : WX}
theorem tx_or {K : Fr} {f g : FX} {σ : L2.St} {H : Hp} (q : txOf K W (xOr f g) σ H) : txOf K W f σ H ∨ txOf K W g σ H := by
  obtain ⟨C, env, O, x, e', R, e, q⟩ := q
  unfold xOr at e
  split at e
  · rename_i r h1
    cases e
    exact .inl ⟨C, env, O, x, e', R, h1, q⟩
  · exact .inr ⟨C, env, O, x, e', R, e, q⟩
theorem tx_no {K : Fr} {σ : L2.St} {H : Hp} (q : txOf K W xNo σ H) : False := by
  obtain ⟨C, env, O, x, e', R, e, q⟩ := q
  cases e
theorem xe_or {e : Expr} {f g : FX} (h1 : XE1 X W e f) (h2 : XE1 X W e g) : XE1 X W e (xOr f g) :=
  ⟨fun pins s σ H Q I q => (tx_or q).elim (h1.run pins s σ H Q I) (h2.run pins s σ H Q I)⟩
theorem xa_or {e : List Expr} {f g : FX} (h1 : XA1 X W e f) (h2 : XA1 X W e g) : XA1 X W e (xOr f g) :=
  ⟨fun pos pins s σ H Q I q => (tx_or q).elim (h1.run pos pins s σ H Q I) (h2.run pos pins s σ H Q I)⟩
theorem xs_or {e : Stmt} {f g : FX} (h1 : XS1 X W e f) (h2 : XS1 X W e g) : XS1 X W e (xOr f g) :=
  ⟨fun pins s σ H Q I q => (tx_or q).elim (h1.run pins s σ H Q I) (h2.run pins s σ H Q I)⟩
theorem xss_or {e : List Stmt} {f g : FX} (h1 : XSs X W e f) (h2 : XSs X W e g) : XSs X W e (xOr f g) :=
  ⟨fun pins s σ H Q I q => (tx_or q).elim (h1.run pins s σ H Q I) (h2.run pins s σ H Q I)⟩
theorem xss_no {ss : List Stmt} : XSs X W ss xNo := ⟨fun _ _ _ _ _ _ q => (tx_no q).elim⟩
theorem PS.nox {st : Stmt} {t : TS} (h : PS X.nox st t) : PS X st t := ⟨fun pins s σ H D I hw =>
  wpAny_mono (h.run pins s σ H D (I.wish _) hw) (fun _ _ q => q.unwish) fun _ _ z => z.elim⟩
theorem PA.nox {es : List Expr} {t : TA} (h : PA X.nox es t) : PA X es t := ⟨fun pos pins s σ H Q I hw =>
  wpAny_mono (h.run pos pins s σ H Q (I.wish _) hw) (fun _ _ ⟨v, H', I', r, q⟩ => ⟨v, H', I'.unwish, r, q⟩) fun _ _ z => z.elim⟩
theorem pa_never {es : List Expr} : PA X es (fun _ _ _ => False) := ⟨fun _ _ _ _ _ _ _ h => h.elim⟩
/-! statements -/
theorem xs_expr {e : Expr} {f : FX} {pos : Pos} (h : XE1 X W e f) (hs : swapsWith e none pos.line X.env = pure false := by rfl) : XS1 X W (.Expr e pos) f := PS.imp (ps_expr h hs) fun _ _ _ q => q
theorem xs_ret {e : Expr} {f : FX} {pos : Pos} (h : XE1 X W e f) : XS1 X W (.Return (some e) pos) f := PS.imp (ps_ret h) fun _ _ _ q => q
theorem xs_asg {st : Stmt} {f : FX} {g : TG} (h : PS X st (tAsg (fun σ H _ => txOf X.K W f σ H) g)) : XS1 X W st f := PS.imp h fun _ _ _ q => q
theorem xs_head {s : Stmt} {ss : List Stmt} {f : FX} (h : XS1 X W s f) : XSs X W (s :: ss) f := PSs.imp (pss_cons h pss_never) fun _ _ _ q => q
theorem xs_tail {s : Stmt} {ss : List Stmt} {g : FS} {f : FX} (h : SS X.nox s g) (h2 : XSs X W ss f) : XSs X W (s :: ss) (xSeq g f) := PSs.imp (pss_cons (PS.nox h) h2) fun Dn σ H q => by
  obtain ⟨C, env, O, x, e', R, e, q⟩ := q
  unfold xSeq at e
  split at e
  · rename_i e1 h1
    exact ⟨C, env, O, .nx, e1, R, h1, fun σ' H' O' R' => ⟨C, e1, O', x, e', R', e, q⟩⟩
  · cases e
theorem xs_if {c : Expr} {a b : List Stmt} {pos : Pos} {t : FT} {f g : FX} (hc : ST X.nox c t) (ha : XSs X W a f) (hb : XSs X W b g) : XS1 X W (.If c a b pos) (xIf t f g) := PS.imp (ps_if (PT.nox hc) ha hb) fun Dn σ H q => by
  obtain ⟨C, env, O, x, e', R, e, q⟩ := q
  unfold xIf at e
  split at e
  · rename_i e1 h1
    refine ⟨C, env, O, _, _, R, h1, fun H' O' p => ?_⟩
    exact iteT ⟨C, _, O', _, _, p, e, q⟩
  · rename_i e1 h1
    refine ⟨C, env, O, _, _, R, h1, fun H' O' p => ?_⟩
    exact iteF ⟨C, _, O', _, _, p, e, q⟩
  · cases e
theorem pss_or {st : List Stmt} {t t' : TS} (h : PSs X st t) (h' : PSs X st t') : PSs X st fun D σ H => t D σ H ∨ t' D σ H :=
  ⟨fun pins s σ H D I q => q.elim (h.run pins s σ H D I) (h'.run pins s σ H D I)⟩
theorem ps_or {st : Stmt} {t t' : TS} (h : PS X st t) (h' : PS X st t') : PS X st fun D σ H => t D σ H ∨ t' D σ H :=
  ⟨fun pins s σ H D I q => q.elim (h.run pins s σ H D I) (h'.run pins s σ H D I)⟩
theorem PI.nox {tg e : Expr} {t : TI} (h : PI X.nox tg e t) : PI X tg e t := ⟨fun pins s σ H R I hw =>
  wpAny_mono (h.run pins s σ H R (I.wish _) hw) (fun v s1 h1 => wpAny_mono h1 (fun itv s2 ⟨it, fp, tn, J, H', e1, I', T, t0, fo, r⟩ => ⟨it, fp, tn, J, H', e1, I'.unwish, T, t0, fo, r⟩) fun _ _ z => z.elim) fun _ _ z => z.elim⟩
theorem xi_any {tg e : Expr} {f : FX} (h : XE1 X W e f) : XI1 X W tg e f := PI.imp (pi_any h) fun _ _ _ q => q
theorem xe_lc {elt tg iter : Expr} {ifs : List Expr} {scope : Scope} {own : List (Str × Nat)} {pos : Pos} {f : FX} (hc : X.calm = true) (hN : X.N.Nodup) (hi : XI1 X W tg iter f) (ok : BlkOk X.N X.env.scope scope own)
    (hs : ∀ x, foldedSetIterable iter X.env x = pure x := by intro _; rfl) : XE1 X W (.ListComp elt [⟨tg, iter, ifs, 0⟩] scope pos) f :=
  PE.imp (pe_lc (g := fun _ _ _ _ => False) (tt := fun _ _ _ => False) (te := fun _ _ _ => False) hc hN hi ok (fun _ _ _ _ _ => ⟨fun _ _ _ _ _ _ _ _ _ h => h.elim⟩) (fun _ _ _ _ _ => ⟨fun _ _ _ _ _ _ h => h.elim⟩) (fun _ _ _ _ _ => ⟨fun _ _ _ _ _ _ h => h.elim⟩) hs) fun _ _ _ q => q
theorem tx_for {K : Fr} {src : FA} {u : UG} {ts : List Nat} {g : FS} {f : FX} : ∀ Dn σ H, txOf K W (xFor src u g f) σ H → tFor (tiOf K src) (tgOf K ts u) (fun D σ H => tsOf K g D σ H ∨ txOf K W f σ H) Dn σ H := fun Dn σ H q => by
  obtain ⟨C, env, O, x, e', R, e, q⟩ := q
  unfold xFor at e
  split at e
  · rename_i ds e0 h0
    refine ⟨C, env, O, ds, e0, R, h0, fun J H1 O R1 wk => ?_⟩
    refine ⟨fun i m σ' H' => i ≤ ds.length ∧ m = ds.length - i ∧ ∃ env1 O1, Rep K (C.pinAt (msk (C.m O) H1)) env1 σ' H' O1 ∧ loopX u g f (ds.drop i) env1 = some (x, e'), ⟨ds.length, Nat.zero_le _, rfl, e0, O, R1.pinned, e⟩, ?_⟩
    rintro i m σ' H' ⟨hi, rfl, env1, O1, R', el⟩
    obtain ⟨wstop, wgo⟩ := wk (C.m O1) H' R'.pin R'.al
    by_cases hlt : i < ds.length
    · right
      obtain ⟨go, yl⟩ := wgo i ds[i] (List.getElem?_eq_getElem hlt)
      rw [List.drop_eq_getElem_cons hlt] at el
      unfold loopX at el
      split at el
      · cases el
      · rename_i e1 h1
        refine ⟨go, fun σ2 H2 => ∃ env2 O2, Rep K (C.pinAt (msk (C.m O) H1)) env2 σ2 H2 O2 ∧ loopX u g f (ds.drop (i + 1)) env2 = some (x, e'), fun σ2 H2 hN => ⟨ds.length - (i + 1), by omega, hlt, rfl, hN⟩, fun y H3 yy => ?_⟩
        obtain ⟨s3, d3⟩ := yl y H3 yy
        refine ⟨C.pinAt (msk (C.m O) H1), env1, O1, ds[i], e1, R'.grow s3, d3, h1, fun σ4 O4 R4 _ _ => ?_⟩
        split at el
        · rename_i r h2
          cases el
          exact .inr ⟨_, e1, O4, _, _, R4, h2, fun cls d σ5 H5 O5 R5 xn => q cls d σ5 H5 O5 (R5.unpin R1.pin) xn⟩
        · split at el
          · rename_i e2 h2
            exact .inl ⟨_, e1, O4, .nx, e2, R4, h2, fun σ5 H5 O5 R5 => ⟨e2, O5, R5, el⟩⟩
          · rename_i e2 h2
            exact .inl ⟨_, e1, O4, .ct, e2, R4, h2, fun σ5 H5 O5 R5 => ⟨e2, O5, R5, el⟩⟩
          · cases el
    · have hie : i = ds.length := by omega
      subst hie
      rw [List.drop_length] at el
      cases el
  · cases e
theorem xs_for {tg iter : Expr} {body : List Stmt} {src : FA} {u : UG} {ts : List Nat} {g : FS} {f : FX} {pos : Pos} (hp : PassesOwn (model X.prog X.w) X.A X.env X.xe) (hc : X.calm = true) (hi : SI X.nox tg iter src) (hg : SG X tg ts u) (hb : SSs X.nox body g) (hx : XSs X W body f)
    (hs : ∀ x, foldedSetIterable iter X.env x = pure x := by intro _; rfl) : XS1 X W (.For tg iter body [] pos) (xFor src u g f) := PS.imp (ps_for hp hc (PI.nox hi) hg (pss_or (PSs.nox hb) hx) hs) tx_for
/-! arguments -/
theorem xa_head {e : Expr} {es : List Expr} {f : FX} (h : XE1 X W e f) (hs : starEach (e :: es) X.env = (false, eval e X.env) :: starEach es X.env := by rfl) : XA1 X W (e :: es) f := PA.imp (pa_cons h pa_never hs) fun _ _ _ q => q
theorem xa_tail {e : Expr} {es : List Expr} {g : FE} {f : FX} (h : SE X.nox e g) (h2 : XA1 X W es f) (hs : starEach (e :: es) X.env = (false, eval e X.env) :: starEach es X.env := by rfl) : XA1 X W (e :: es) (xArg g f) := PA.imp (pa_cons (PE.nox h) h2 hs) fun σ H Q q => by
  obtain ⟨C, env, O, x, e', R, e, q⟩ := q
  unfold xArg at e
  split at e
  · rename_i r e1 h1
    exact ⟨C, env, O, r, e1, R, h1, fun v H' O' p => ⟨C, e1, O', x, e', p.rep, e, q⟩⟩
  · cases e
/-! calls -/
def spX (K : Fr) (n : Nat) (R : List D → Option Exn) : Sp := fun vs H _ E => vs.length = n ∧ ∃ (m : Addr → Prop) (ds : List D) (x : Exn), Al m H ∧ DpAll K (msk m H) vs ds ∧ R ds = some x ∧ ∀ cls d H', Same H H' → XnOk K (msk m H') cls d x → E cls d H'
/-- a call whose exception is wanted with the frame's slots -/
theorem pe_callX {k : Nat} {f : Addr} {fd : FuncData} {ps : List Str} {sp : Sp} {x : Str} {p pos : Pos} {e : Expr} {es : List Expr} {t : TA} (F : FnOk X.prog X.w X.K X.mg X.base (L2.CX X.prog X.w) k f fd ps sp) (tk : Takes X W) (hr : Room k X.A) (hg : Gl X x) (hm : X.mg x = some (.ref f)) (hk : PySem.W.keepIn X.K (.ref f) = true) (hb : Binds X.K fd ps [])
    (ha : PA X (e :: es) t) (hdb : (x == ("__debug__" : Str)) = false := by decide) (he : starEach (e :: es) X.env = (false, eval e X.env) :: starEach es X.env := by rfl) (hpl : (backTo pos (starEach es X.env)).any (·.1) = false := by rfl) :
    PE X (.Call (.Name x p) (e :: es) [] pos) (fun σ H Q => t σ H fun vs H1 => sp vs H1 Q fun cls d H' => W cls d σ H') := by
  constructor
  intro pins s σ H Q I h
  apply PySem.wpAny_Call_Name_kw
  apply ld_glob I hg hm _ hdb
  refine PySem.W.callWith_K (h₀ := X.base) I.ok.mod.kin hk ?_ he hpl
  refine thn (ha.run pos pins s σ H _ I h) ?_
  rintro us s1 ⟨vs, H1, I1, r1, q1⟩
  refine ⟨I1.kIn, ?_⟩
  have hl : (us ++ []).length = ps.length := by
    rw [List.append_nil, ← r1.length]
    exact F.len _ _ _ _ q1
  have hbt := hb s1 us I1.kIn hl
  rw [List.append_nil] at hbt
  apply wpAny_call
  refine codeAny_mono (F.run X.A X.stack s1 H1 ⟨us, []⟩ us vs Q _ hr I1.env0 hbt r1 q1) ?_
  intro r s' hq
  match r, hq with
  | .error er, hq => exact tk _ _ (XE.of_call I1 (fun _ _ _ z => z) hq)
  | .ok (.ret u), hq => exact I1.after hq
  | .ok .next, hq => exact hq.elim
  | .ok .brk, hq => exact hq.elim
  | .ok .cont, hq => exact hq.elim
theorem xe_call {k n : Nat} {f : Addr} {fd : FuncData} {ps : List Str} {x : Str} {p pos : Pos} {e : Expr} {es : List Expr} {g : FA} {R : List D → Option Exn} (F : FnOk X.prog X.w X.K X.mg X.base (L2.CX X.prog X.w) k f fd ps (spX X.K n R)) (tk : Takes X W) (hr : Room k X.A) (hg : Gl X x) (hm : X.mg x = some (.ref f)) (hk : PySem.W.keepIn X.K (.ref f) = true) (hb : Binds X.K fd ps [])
    (ha : SA X.nox (e :: es) g) (hz : ∀ ds r, R ds = some r → ds.length = n) (hdb : (x == ("__debug__" : Str)) = false := by decide) (he : starEach (e :: es) X.env = (false, eval e X.env) :: starEach es X.env := by rfl) (hpl : (backTo pos (starEach es X.env)).any (·.1) = false := by rfl) :
    XE1 X W (.Call (.Name x p) (e :: es) [] pos) (xCall R g) := PE.imp (pe_callX F tk hr hg hm hk hb (PA.nox ha) hdb he hpl) fun σ H Q q => by
  obtain ⟨C, env, O, x, e', R', e, q⟩ := q
  unfold xCall at e
  split at e
  · rename_i ds e1 h1
    split at e
    · rename_i y h2
      cases e
      refine ⟨C, env, O, ds, _, R', h1, fun vs H1 O1 R1 a1 => ?_⟩
      refine ⟨by rw [dps_len a1]; exact hz _ _ h2, C.m O1, ds, _, R1.al, a1, h2, fun cls d H' s xn => ?_⟩
      exact q cls d σ H' O1 (R1.grow s) xn
    · cases e
  · cases e
end
/-! ### a def that raises -/
def runX (np n : Nat) (f : FX) : List D → Option Exn := fun ds => if ds.length = np then (match f (startE n ds) with | some (x, _) => some x | none => none) else none
theorem runX_len {np n : Nat} {f : FX} : ∀ ds r, runX np n f ds = some r → ds.length = np := fun ds r h => by
  unfold runX at h
  split at h
  · assumption
  · cases h
section
variable {P : Program} {w : World} {K : Fr} {mg : Str → Option Value} {base : Heap}
theorem raise_start {st : Stmt} {N ps : List Str} {f : FX} {vs : List V} {H : Hp} {Q : VK} {E : XK} (S : FnScope N ps (defScope st)) (h : spX K ps.length (runX ps.length N.length f) vs H Q E) :
    txOf K (fun cls d _ H' => E cls d H') f (L2.start N vs) H := by
  obtain ⟨hl, m, ds, x, al, a, e, q⟩ := h
  unfold runX at e
  split at e
  · rename_i hds
    have hnl : ps.length ≤ N.length := by
      have := congrArg List.length S.pre
      rw [List.length_take] at this
      omega
    have hvd : vs.length = ds.length := dps_len a
    have R0 : Rep K { M := m, HM := H, Hs := msk (fun a => m a ∨ False) H, bo := fun _ => none } (startE N.length ds) (L2.start N vs) H (fun _ => none) := by
      have E1 : Same (msk m H) (msk (Ctx.m { M := m, HM := H, Hs := msk (fun a => m a ∨ False) H, bo := fun _ => none } (fun _ => none)) H) := msk_anti fun a z => z.elim id fun ⟨_, z⟩ => nomatch z
      refine ⟨by rw [startE_len, start_len, hvd], fun i d h => ?_, fun i xs h => ?_, fun i xs h => ?_, (fun i j p h => by cases h), (fun i p h => by cases h), Same.trans (msk_anti fun a z => .inl z) E1, fun a h => ⟨rfl, al a h⟩, fun i x h => by rcases startE_get h with ⟨d', h1, h2⟩ | h2 <;> cases h2⟩
      · rcases startE_get h with ⟨d', h1, h2⟩ | h2
        · cases h2
          obtain ⟨v, g1, g2⟩ := dps_get a h1
          refine ⟨v, ?_, dp_mono E1 g2⟩
          rw [start_get (List.getElem?_eq_some_iff.mp g1).1, g1]
          rfl
        · cases h2
      · rcases startE_get h with ⟨d', h1, h2⟩ | h2 <;> cases h2
      · rcases startE_get h with ⟨d', h1, h2⟩ | h2 <;> cases h2
    split at e
    · rename_i y env' hg
      cases e
      exact ⟨_, _, _, _, _, R0, hg, fun cls d σ' H' O' R' xn => q cls d H' (fun a o h => R'.stood (B := fun _ => False) a o (fun z => z) h) (xn.mono (msk_anti fun a z => .inl z))⟩
    · cases e
  · cases e
theorem fn_raise {x qual : Str} {st : Stmt} {f : Addr} {fd : FuncData} {N ps : List Str} {k : Nat} {g : FX} (F : Fun K x qual st f fd) (S : FnScope N ps (defScope st))
    (body : ∀ (cdv : Value) (A : Around) (outer : List PySem.Env) (s : Shared) (H : Hp) (E : XK), Room k (A.deeper (PyProof.Rows.envOfC qual (defScope st) s.heap.objs.size f cdv)) →
      Takes (cxOf (L2.CX P w) P w K mg base N qual (defScope st) f cdv A outer s H E) (fun cls d _ H' => E cls d H') →
      PassesOwn (model (cxOf (L2.CX P w) P w K mg base N qual (defScope st) f cdv A outer s H E).prog (cxOf (L2.CX P w) P w K mg base N qual (defScope st) f cdv A outer s H E).w) (cxOf (L2.CX P w) P w K mg base N qual (defScope st) f cdv A outer s H E).A (cxOf (L2.CX P w) P w K mg base N qual (defScope st) f cdv A outer s H E).env (cxOf (L2.CX P w) P w K mg base N qual (defScope st) f cdv A outer s H E).xe →
      XSs (cxOf (L2.CX P w) P w K mg base N qual (defScope st) f cdv A outer s H E) (fun cls d _ H' => E cls d H') (defBody st) g) : FnOk P w K mg base (L2.CX P w) (k + 1) f fd ps (spX K ps.length (runX ps.length N.length g)) := by
  refine F.okX S (fun vs H Q E h => h.1) fun cdv A outer s H vs Q E hr h => ?_
  refine ⟨_, body cdv A outer s H E hr (takes_of rfl rfl rfl rfl) (passes_of rfl), raise_start S h⟩
end
end Mir

set_option maxHeartbeats 4000000
/-! Mir 34: own exception classes straight over a built-in one (ValueError, LookupError, OverflowError): made, raised. -/
namespace Mir
open PySem L2 PyProof.Rows

/-- what is told of a built-in base -/
structure Bse (B newId initId : String) (tl : List Value) : Prop where
  eb : ExcBaseFacts B newId initId tl
  ps : ∀ self : Value, refuseLoop self "__setattr__" tl = pure ()
  ob : tl.contains (.type "object") = true
  ty : typeOf (.type B) = pure (.type "type")
abbrev tlV : List Value := [.type "ValueError", .type "Exception", .type "BaseException", .type "object"]
abbrev tlL : List Value := [.type "LookupError", .type "Exception", .type "BaseException", .type "object"]
abbrev tlO : List Value := [.type "OverflowError", .type "ArithmeticError", .type "Exception", .type "BaseException", .type "object"]
theorem bseV : Bse "ValueError" "ValueError.__new__" "ValueError.__init__" tlV := ⟨F.excBase_ValueError, F.store_ValueError.passes, by decide +kernel, by kernel_rfl⟩
theorem bseL : Bse "LookupError" "LookupError.__new__" "LookupError.__init__" tlL := ⟨F.excBase_LookupError, F.store_LookupError.passes, by decide +kernel, by kernel_rfl⟩
theorem bseO : Bse "OverflowError" "OverflowError.__new__" "OverflowError.__init__" tlO := ⟨F.excBase_OverflowError, F.store_OverflowError.passes, by decide +kernel, by kernel_rfl⟩
/-- what the top wrote of such a class -/
structure Oxc (K : Fr) (C : Addr) (newId : String) (tl : List Value) : Prop where
  cls : ∃ nm q N bs sn sub ab col dd k0 k1 k2 k3 k5, K.lookup C = some (excClassObj nm q C N bs tl true sn sub ab col dd k0 k1 k2 k3 k5 newId)
  sa : PySem.W.findIn K (.ref C) "__setattr__" = some (some (.builtin "object.__setattr__"))
  ex : PySem.W.subIn K (.ref C) (.type "BaseException") = some true
  ty : PySem.W.typeIn K (.ref C) = some (.type "type")
  kp : PySem.W.keepIn K (.ref C) = true

section
open Builtin Builtin.ObjectAttr
variable {prog : Program} {w : World} {A : Around} {R : Result → Shared → Prop} {h0 : Heap} {g : Array GenState} {d : Drawn} {t : Nat} {os : OsState}
/-- the first field of an exception -/
theorem fld_first {B newId initId : String} {tl : List Value} (bf : Bse B newId initId tl) {K : Fr} {nm : Str} {tk : Tok} {v : Value} {x C : Addr} {fv : Array Value} {cd : ClassData}
    (kin : K.In h0) (hx : h0.get? x = some { cls := .ref C, data := .fields fv }) (hcd : PySem.W.clsIn K C = some cd) (hm : cd.mro = .ref C :: tl) (hh : cd.hasDict = true) (ha : PySem.W.findIn K (.ref C) nm = some none)
    (hq : ∀ h1 tk1 dx, (∀ b o, b ≠ x → h0.get? b = some o → h1.get? b = some o) → h0.objs.size ≤ dx → dx ≠ x → h1.get? x = some { cls := .ref C, dict := some dx, data := .fields fv } →
      h1.Ns1 dx (fun y => if y = nm then some v else none) → R (.ok (.ret .none)) ⟨h1, g, d, tk1, os⟩) :
    codeAny (model prog w) A (.call (.builtin "object.__setattr__") ⟨[.ref x, .str nm tk, v], []⟩) R ⟨h0, g, d, t, os⟩ := by
  have ia : PySem.W.InstAt h0 x { cls := .ref C, data := .fields fv } C none := ⟨hx, rfl, rfl, trivial⟩
  have so := F.store_object
  have nz : cd.mro.isEmpty = false := by rw [hm]; rfl
  have mo : cd.mro.contains (.type "object") = true := by
    rw [hm, List.contains_cons, bf.ob, Bool.or_true]
  have hlt := Heap.lt_size hx
  have isO : PySem.W.Looks (model prog w) h0 (isInstance (.ref x) (.type "object")) true := by
    refine ia.type.andThen (PySem.W.looks_mroIn kin ?_)
    unfold PySem.W.mroIn
    rw [hcd, Option.bind_some, if_neg (by rw [nz]; decide), mo]
  have lm : PySem.W.Looks (model prog w) h0 (mroOf (.ref C)) cd.mro := (PySem.W.looks_clsIn kin hcd).andThen .now
  have lt : PySem.W.Looks (model prog w) h0 (storeTaker? none) none := .now
  have lc : PySem.W.Looks (model prog w) h0 (classData C) cd := PySem.W.looks_clsIn kin hcd
  refine codeAny_call_builtin so.slot.plain so.entry ?_
  refine @PySem.W.check_slot (model prog w) _ _ ⟨h0, g, d, t, os⟩ "object.__setattr__" "object" "__setattr__" (.ref x) [.str nm tk, v] [] _ so.kind so.split isO (so.args (.ref x) (.str nm tk) v) ?_
  rw [PySem.W.osa_eq, refuse_eq]
  refine wpAny_bind (wpAny_bind (ia.type.at (wpAny_bind (lm.at ?_))))
  rw [hm, refuseLoop_ref, bf.ps]
  refine wpAny_pure (wpAny_bind (ia.type.at (wpAny_bind ?_)))
  refine (PySem.W.looks_findIn kin ha).at (wpAny_bind (lt.at ?_))
  show wpAny _ _ (storeInOwnDict (.ref x) (.ref C) (.str nm tk) nm v false) _ _ _
  obtain ⟨n1, n2, n3, n4, n5, n6, n7, n8, n9, n10, n11⟩ := cd
  dsimp only at hh
  subst hh
  unfold storeInOwnDict ownDictForStores
  repeat (first
    | with_reducible refine PySem.HandSPX.store_in_new ?_ ?_
    | with_reducible refine wpAny_loadPart_at hx ?_
    | with_reducible refine lc.at ?_
    | wp_step)
  · exact ⟨{ cls := .type "dict", data := .dict #[] }, #[], _, (Heap.get?_update_ne _ _ _ _ (Nat.ne_of_gt hlt)).trans (Heap.get?_push_at rfl rfl), rfl, fun e he => absurd he (by simp), fun _ => rfl⟩
  · intro h1 tk1 hn1 hs1
    have hx1 : (h0.push { cls := .type "dict", data := .dict #[] }).get? x = some { cls := .ref C, data := .fields fv } := Heap.get?_push_of_some _ hx
    refine hq h1 tk1 h0.objs.size (fun b o hb ho => ?_) (Nat.le_refl _) (Nat.ne_of_gt hlt) ?_ hn1
    · rw [hs1.2 b (Nat.ne_of_lt (Heap.lt_size ho)), Heap.get?_update_ne _ _ _ _ hb]
      exact Heap.get?_push_of_some _ ho
    · rw [hs1.2 x (Nat.ne_of_lt hlt)]
      exact Heap.get?_update_self _ hx1 rfl
end

section
variable {X : Cx} {pins : List (Addr × Obj)} {σ : L2.St} {H : Hp} {s : Shared} {a C : Addr} {f : Str} {y : V} {u : Value} {E : Value → Shared → Prop} {A : Around} {B newId initId : String} {tl : List Value}
theorem Oxc.cl {K : Fr} (T : Oxc K C newId tl) : ∃ cd, PySem.W.clsIn K C = some cd ∧ cd.mro = .ref C :: tl ∧ cd.hasDict = true := by
  obtain ⟨nm, q, N, bs, sn, sub, ab, col, dd, k0, k1, k2, k3, k5, hC⟩ := T.cls
  refine ⟨{ name := nm, bases := bs, mro := .ref C :: tl, ns := N, qualname := q, hasDict := true, slotNames := sn, subclasses := sub, abstract := ab, collection := col, hasDel := false }, ?_, rfl, rfl⟩
  unfold PySem.W.clsIn
  rw [hC] <;> rfl
theorem fld_put {Q : Unit → Shared → Prop} (bf : Bse B newId initId tl) (T : Oxc X.K C newId tl) (I : Inv X pins σ H s) (e : H a = some (exo a C none)) (hno : PySem.W.findIn X.K (.ref C) f = some none) (ry : RelV y u)
    (h : ∀ dx s', H dx = none → dx ≠ a → Inv X pins σ (upd (upd H dx (exd dx [(f, y)])) a (exo a C (some dx))) s' → Q () s') : wpAny (model X.prog X.w) A (setAttr (.ref a) f u) Q E s := by
  obtain ⟨cd, c1, c2, c3⟩ := T.cl
  obtain ⟨t1, ho⟩ := exo_at I.hok e
  obtain ⟨h0, g, d, t, os⟩ := s
  refine PySem.W.set_plain I.kIn (od := none) ⟨ho, rfl, rfl, trivial⟩ T.sa ?_
  refine fld_first bf I.kIn ho c1 c2 c3 hno ?_
  intro h1 tk1 dx k dn dne hx hn
  have fresh : H dx = none := I.hok.fresh dn
  have old : ∀ {b : Addr} {o : Obj}, h0.get? b = some o → b ≠ dx := fun q => Nat.ne_of_lt (Nat.lt_of_lt_of_le (Heap.lt_size q) dn)
  have nota : ∀ {b : Addr}, H b = none → b ≠ a := fun n z => by
    rw [z, e] at n
    cases n
  have un : Un X.fs [] H (upd (upd H dx (exd dx [(f, y)])) a (exo a C (some dx))) h0 h1 := {
    keep := fun b o q n _ _ => k b o (nota n) q
    slot := fun b o q n _ _ => ⟨o.slots, k b o (nota n) q⟩
    free := fun b o q n _ => by
      rw [upd_ne (nota n), upd_ne (old q)]
      exact n
    there := fun b o q _ => by
      by_cases hb : b = a
      · subst hb
        exact ⟨_, hx⟩
      · exact ⟨o, k b o hb q⟩
    tups := fun b xs q => by
      rw [upd_ne (at_ne e q exo_tup), upd_ne (ne_of_none q fresh)]
      exact q
    frzs := fun b o v q => by
      rw [upd_ne (at_ne e q exo_frz), upd_ne (ne_of_none q fresh)]
      exact q
    tbls := fun b ps q => ⟨#[], by
      rw [upd_ne (at_ne e q exo_tbl), upd_ne (ne_of_none q fresh), q]
      simp⟩ }
  refine h dx _ fresh dne (I.un (t' := tk1) un ?_)
  intro b o q
  by_cases hb : b = a
  · subst hb
    rw [upd_same] at q
    cases q
    exact exo_ok hx
  rw [upd_ne hb] at q
  by_cases hd : b = dx
  · subst hd
    rw [upd_same] at q
    cases q
    exact exd_ok hn (relO_put (fs := []) ry fun _ => True.intro)
  rw [upd_ne hd] at q
  have na : ∀ {c : Addr}, c = b ∨ H c = some (.own b) → c ≠ a := fun hc => by
    rcases hc with rfl | hc
    · exact hb
    · exact at_ne e hc exo_own
  refine (I.hok b o q).stay (fun c v hc z => k c v (na hc) z) (fun c hc => ?_) (fun c xs hc => ?_)
  · rw [upd_ne (at_ne e hc exo_own), upd_ne (ne_of_none hc fresh)]
    exact hc
  · rw [upd_ne (at_ne e hc exo_tup), upd_ne (ne_of_none hc fresh)]
    exact hc
/-- Base.__init__(self, ..) -/
theorem base_init {us : List Value} {Q : Value → Shared → Prop} (bf : Bse B newId initId tl) (T : Oxc X.K C newId tl) (I : Inv X pins σ H s) (e : H a = some (exo a C none)) (hl : us.length ≤ sizeLine) (h : ∀ s', Inv X pins σ H s' → Q .none s') :
    wpAny (model X.prog X.w) A (call (.builtin initId) (.ref a :: us)) Q E s := by
  obtain ⟨nm, q, N, bs, sn, sub, ab, col, dd, k0, k1, k2, k3, k5, hC⟩ := T.cls
  obtain ⟨t1, ho⟩ := exo_at I.hok e
  obtain ⟨h0, g, d, t, os⟩ := s
  apply wpAny_call
  refine PySem.HandSPX.init_base bf.eb (fun _ => rfl) (I.kIn _ _ hC) ho hl ?_
  intro h1 t2 k hx
  have J := I.write (t' := t) (x := a) (e := a) (o := exo a C none) (by rw [e]; exact True.intro) (.inl rfl) k ⟨_, hx⟩ (exo_ok hx)
  have eu : upd H a (exo a C none) = H := by
    funext b
    by_cases hb : b = a
    · subst hb; rw [upd_same, e]
    · exact upd_ne hb
  rw [eu] at J
  exact h _ J
end
/-! readings -/
def tBaseI (K : Fr) (newId : String) (tl : List Value) (ta : TA) : TE := fun σ H Q => ta σ H fun vs H1 => ∃ (a C : Addr) (ws : List V), vs = .ref a :: ws ∧ ws.length ≤ 1000 ∧ Oxc K C newId tl ∧ H1 a = some (exo a C none) ∧ Q .non H1
def tFldP (K : Fr) (newId : String) (tl : List Value) (f : Str) (to te : TE) : TS := fun D σ H => te σ H fun y H1 => to σ H1 fun x H2 => ∃ a C : Addr, x = .ref a ∧ Oxc K C newId tl ∧ PySem.W.findIn K (.ref C) f = some none ∧
  H2 a = some (exo a C none) ∧ ∀ dx, H2 dx = none → dx ≠ a → D.nx σ (upd (upd H2 dx (exd dx [(f, y)])) a (exo a C (some dx)))
section
variable {X : Cx} {o e : Expr} {es : List Expr} {to te : TE} {ta : TA} {f : Str} {p p' p1 p2 pos : Pos} {B newId initId : String} {tl : List Value} {bn : Str}
theorem pe_baseI {pl : Sem Bool} (bf : Bse B newId initId tl) (hg : Gl X bn) (hm : X.mg bn = none) (hbt : bootBuiltins bn = some (.type B)) (hn : bn ≠ "__name__") (hdb : (bn == ("__debug__" : Str)) = false) (hsp : Manifest.isStub B = false)
    (vV : PySem.W.findCls X.K (.type B) (.type "type") "__init__" = some (.val (.builtin initId))) (hbk : PySem.W.handedIn (Value.builtin initId) = true) (ha : PA X (e :: es) ta)
    (hc : eval (.Call (.Attribute (.Name bn p1) "__init__" p2) (e :: es) [] pos) X.env = (do
      let ov ← eval (.Name bn p1) X.env
      standAt p2.atName
      let (f, first) ← holding [ov] (getMethod ov "__init__" pl)
      callWith pos f first (backTo pos (starEach (e :: es) X.env)) (backToKw pos (keywordEach [] X.env))) := by rfl)
    (he : starEach (e :: es) X.env = (false, eval e X.env) :: starEach es X.env := by rfl) (hpl : (backTo pos (starEach es X.env)).any (·.1) = false := by rfl) :
    PE X (.Call (.Attribute (.Name bn p1) "__init__" p2) (e :: es) [] pos) (tBaseI X.K newId tl ta) := by
  constructor
  intro pins s σ H Q I h
  refine PySem.W.methodCall_KW (ld_blt I hg hm hbt ?_ hn hdb) hc
  obtain ⟨m, fr⟩ := I.fr
  refine PySem.W.method_type fr I.ok.mod.kin bf.ty hsp vV hbk ?_
  show wpAny _ _ (callWith pos (Value.builtin initId) [] (backTo pos (starEach (e :: es) X.env)) []) _ _ _
  refine PyProof.Rows.callWith_method1 (thn (ha.run pos pins _ σ H _ (I.tok _) h) ?_) he hpl
  rintro us s1 ⟨vs, H1, I1, r1, a, C, ws, rfl, hl, T, ea, q⟩
  cases r1 with
  | @cons _ u0 _ ur ra rr =>
    obtain rfl : u0 = Value.ref a := ra
    refine base_init bf T I1 ea ?_ fun s' J => ⟨.non, H1, J, rfl, q⟩
    rw [← Paired.length rr, sizeLine_eq]
    omega
theorem ps_fldP (bf : Bse B newId initId tl) (ho : PE X o to) (he : PE X e te) (hs : swapsWith e (some (.Attribute o f p')) pos.line X.env = pure false := by rfl) : PS X (.Assign [.Attribute o f p'] e pos) (tFldP X.K newId tl f to te) := by
  constructor
  intro pins s σ H D I h
  refine plainObj_wpAny_Assign_Attribute (thn (he.run pins s σ H _ I h) ?_) hs
  rintro v s1 ⟨y, H1, I1, r1, q1⟩
  refine thn (ho.run pins s1 σ H1 _ I1 q1) ?_
  rintro u s2 ⟨x, H2, I2, r2, a, C, rfl, T, hno, ea, q⟩
  obtain rfl : u = Value.ref a := r2
  exact fld_put bf T I2 ea hno r1 fun dx s' n ne J => ⟨σ, _, J, q dx n ne⟩
end
/-! C(..) -/
def tMkX (C : Addr) (sp : Sp) (ta : TA) : L2.St → Hp → XK → Prop := fun σ H Q => ta σ H fun vs H1 => vs.length ≤ 1000 ∧ ∀ a, H1 a = none → sp (.ref a :: vs) (upd H1 a (exo a C none))
  (fun v H2 => v = .non ∧ ((∃ (d : Addr) (fs : List (Str × V)), H2 a = some (exo a C (some d)) ∧ H2 d = some (exd d fs) ∧ H1 d = none ∧ Q (.ref C) (some d) (upd (del H2 a) d (.xd fs))) ∨
    (H2 = upd H1 a (exo a C none) ∧ Q (.ref C) none H1))) (fun _ _ _ => False)
section
variable {X : Cx} {e : Expr} {es : List Expr} {ta : TA} {p pos : Pos} {B newId initId : String} {tl : List Value}
/-- the end of C(..) where no field was laid -/
theorem mk_none {pins : List (Addr × Obj)} {σ : L2.St} {H1 : Hp} {Q : XK} {hp hp2 h2 : Heap} {g1 g2 : Array GenState} {d1 d2 : Drawn} {t1 t2 : Nat} {os1 os2 : OsState} {a C : Addr} (T : Raises X (.ref C)) (I1 : Inv X pins σ H1 ⟨hp, g1, d1, t1, os1⟩)
    (ha : hp.objs.size ≤ a) (k : ∀ b o, hp.get? b = some o → hp2.get? b = some o) (un : Un (frs X.stack) [] (upd H1 a (exo a C none)) (upd H1 a (exo a C none)) hp2 h2) (hok : HOk X.prog X.w (upd H1 a (exo a C none)) h2) (ho : os2 = os1) (hb : AllBare g2)
    (q : Q (.ref C) none H1) : MkP X pins σ Q (.ref a) ⟨h2, g2, d2, t2, os2⟩ := by
  have ea : (upd H1 a (exo a C none)) a = some (exo a C none) := upd_same
  obtain ⟨t0, hoe⟩ := exo_at hok ea
  have hn : H1 a = none := I1.hok.fresh ha
  obtain ⟨G, ga, gb⟩ := restrict h2 fun b => decide (b ≠ a)
  have gk : ∀ b, b ≠ a → G.get? b = h2.get? b := fun b hb => ga b (decide_eq_true hb)
  have ge : G.get? a = none := gb a (by simp)
  have old : ∀ {b : Addr} {o : Obj}, hp.get? b = some o → b ≠ a := fun z => Nat.ne_of_lt (Nat.lt_of_lt_of_le (Heap.lt_size z) ha)
  have up : ∀ {b : Addr}, b ≠ a → upd H1 a (exo a C none) b = H1 b := fun hb => upd_ne hb
  have U : Un (frs X.stack) [] H1 H1 hp G := {
    keep := fun b o z n hf hx => by
      rw [gk b (old z)]
      exact un.keep b o (k b o z) ((up (old z)).trans n) hf hx
    slot := fun b o z n hf hx => by
      rw [gk b (old z)]
      exact un.slot b o (k b o z) ((up (old z)).trans n) hf hx
    free := fun b o z n hx => n
    there := fun b o z hx => by
      rw [gk b (old z)]
      exact un.there b o (k b o z) hx
    tups := fun b xs z => z
    frzs := fun b o v z => z
    tbls := fun b ps z => ⟨#[], by rw [z]; simp⟩ }
  have hok3 : HOk X.prog X.w H1 G := fun b o z => by
    have hba : b ≠ a := fun e => by rw [e, hn] at z; cases z
    have y := hok b o ((up hba).trans z)
    refine y.stay (fun c v hc w => ?_) (fun c hc => ?_) (fun c xs hc => ?_)
    · rw [gk c]
      · exact w
      · rintro rfl
        rcases hc with hc | hc
        · exact hba hc.symm
        · rw [upd_same] at hc
          exact exo_own (Option.some.inj hc)
    · by_cases hca : c = a
      · subst hca
        rw [upd_same] at hc
        exact absurd (Option.some.inj hc) exo_own
      · rw [up hca] at hc; exact hc
    · by_cases hca : c = a
      · subst hca
        rw [upd_same] at hc
        exact absurd (Option.some.inj hc) exo_tup
      · rw [up hca] at hc; exact hc
  have J : Inv X pins σ H1 ⟨G, g2, d2, t2, os2⟩ := I1.call' (ch := []) ho U hok3 hb (fun b z => absurd z (by simp))
  refine ⟨a, _, _, ⟨G, g2, d2, t2, os2⟩, H1, .ref C, none, rfl, J, fun b o z => ?_, ge, hoe, ⟨rfl, rfl⟩, rfl, rfl, hn, rfl, hb, T, q⟩
  by_cases hba : b = a
  · subst hba
    rw [ge] at z; cases z
  · rw [gk b hba] at z; exact z
theorem mk_run {CX : CXT} {C fI : Addr} {k : Nat} {fd : FuncData} {ps : List Str} {sp : Sp} {pins : List (Addr × Obj)} {σ : L2.St} {H1 : Hp} {Q : XK} {s1 : Shared} {us : List Value} {vs : List V} (bf : Bse B newId initId tl) (T : Oxc X.K C newId tl) (iC : PySem.W.findIn X.K (.ref C) "__init__" = some (some (.ref fI))) (tI : PySem.W.typeIn X.K (.ref fI) = some (.type "function"))
    (F1 : FnOk X.prog X.w X.K X.mg X.base CX0 k fI fd ps sp) (hr : Room (k + 1) X.A) (hb : Binds X.K fd ps []) (I1 : Inv X pins σ H1 s1) (r1 : Vals vs us) (hz : vs.length ≤ 1000)
    (q1 : ∀ a, H1 a = none → sp (.ref a :: vs) (upd H1 a (exo a C none)) (fun v H2 => v = .non ∧ ((∃ (d : Addr) (fs : List (Str × V)), H2 a = some (exo a C (some d)) ∧ H2 d = some (exd d fs) ∧ H1 d = none ∧ Q (.ref C) (some d) (upd (del H2 a) d (.xd fs))) ∨
      (H2 = upd H1 a (exo a C none) ∧ Q (.ref C) none H1))) (fun _ _ _ => False)) : wpAny (model X.prog X.w) X.A (call (.ref C) us) (MkP X pins σ Q) X.xe s1 := by
  obtain ⟨nm, q, N, bs, sn, sub, ab, col, dd, k0, k1, k2, k3, k5, hC⟩ := T.cls
  obtain ⟨hp, g, dr, tk, os⟩ := s1
  have up1 : hp.objs.size ≤ hp.objs.size + 1 := Nat.le_succ _
  have new1 : H1 (hp.objs.size + 1) = none := I1.hok.fresh up1
  have hq := q1 (hp.objs.size + 1) new1
  have kk : ∀ b o, hp.get? b = some o → ((hp.push (PySem.W.kdv_tup us)).push (PySem.HandSPX.excO C hp.objs.size)).get? b = some o := fun b o e => Heap.get?_push_of_some _ (Heap.get?_push_of_some _ e)
  have at1 : ((hp.push (PySem.W.kdv_tup us)).push (PySem.HandSPX.excO C hp.objs.size)).get? (hp.objs.size + 1) = some (PySem.HandSPX.excO C hp.objs.size) := by heap_get
  have I2 := I1.laid (t' := tk) (a := hp.objs.size + 1) (o := exo (hp.objs.size + 1) C none) (h' := (hp.push (PySem.W.kdv_tup us)).push (PySem.HandSPX.excO C hp.objs.size)) kk up1 (exo_ok at1)
  have r2 : Vals (V.ref (hp.objs.size + 1) :: vs) (Value.ref (hp.objs.size + 1) :: us) := .cons rfl r1
  have hl : (Value.ref (hp.objs.size + 1) :: us ++ []).length = ps.length := by
    rw [List.append_nil, ← r2.length]
    exact F1.len _ _ _ _ hq
  have hbt := hb _ (Value.ref (hp.objs.size + 1) :: us) I2.kIn hl
  rw [List.append_nil] at hbt
  have hus : us.length ≤ sizeLine := by
    rw [← Paired.length r1, sizeLine_eq]
    omega
  apply wpAny_call
  refine PySem.HandSPX.call_own bf.eb (fun _ => rfl) (I1.kIn _ _ hC) (PySem.W.looks_findIn I1.kIn iC) (fun self => PySem.W.bind_fn I1.kIn self tI) hus ?_
  refine codeAny_mono (F1.run _ X.stack _ _ ⟨Value.ref (hp.objs.size + 1) :: us, []⟩ (Value.ref (hp.objs.size + 1) :: us) _ _ (fun _ _ _ => False) (hr.make C us []) (I2.env0.make C us []) hbt r2 hq) ?_
  intro r s' hq'
  match r, hq' with
  | .error er, hq' => exact (hq' : False).elim
  | .ok .next, hq' => exact hq'.elim
  | .ok .brk, hq' => exact hq'.elim
  | .ok .cont, hq' => exact hq'.elim
  | .ok (.ret u), hq' =>
    obtain ⟨v, H2, os2, bare2, un2, hok2, rv, ev, q2⟩ := hq'
    subst ev
    obtain ⟨h2, g2, d2, t2, os'⟩ := s'
    refine ⟨rv, ?_⟩
    rcases q2 with ⟨d, fs, ea, ed, hd1, q2⟩ | ⟨rfl, q2⟩
    · exact mk_end (raises_own T.ex T.ty) I1 up1 kk un2 hok2 os2 bare2 ea ed hd1 q2
    · exact mk_none (raises_own T.ex T.ty) I1 up1 kk un2 hok2 os2 bare2 q2
theorem pmk_x {C fI : Addr} {k : Nat} {fd : FuncData} {ps : List Str} {sp : Sp} {x : Str} (bf : Bse B newId initId tl) (T : Oxc X.K C newId tl) (iC : PySem.W.findIn X.K (.ref C) "__init__" = some (some (.ref fI))) (tI : PySem.W.typeIn X.K (.ref fI) = some (.type "function"))
    (F1 : FnOk X.prog X.w X.K X.mg X.base CX0 k fI fd ps sp) (hr : Room (k + 1) X.A) (hb : Binds X.K fd ps []) (hg : Gl X x) (hm : X.mg x = some (.ref C)) (ha : PA X (e :: es) ta)
    (hdb : (x == ("__debug__" : Str)) = false := by decide) (he : starEach (e :: es) X.env = (false, eval e X.env) :: starEach es X.env := by rfl) (hpl : (backTo pos (starEach es X.env)).any (·.1) = false := by rfl) :
    PMk X (.Call (.Name x p) (e :: es) [] pos) (tMkX C sp ta) := by
  intro pins s σ H Q I h
  apply PySem.wpAny_Call_Name_kw
  apply ld_glob I hg hm _ hdb
  refine PySem.W.callWith_K (h₀ := X.base) I.ok.mod.kin T.kp (thn (ha.run pos pins s σ H _ I h) ?_) he hpl
  rintro us s1 ⟨vs, H1, I1, r1, hz, q1⟩
  exact ⟨I1.kIn, mk_run (CX := CX0) bf T iC tI F1 hr hb I1 r1 hz q1⟩
theorem pmk_x0 {C fI : Addr} {k : Nat} {fd : FuncData} {ps : List Str} {sp : Sp} {x : Str} (bf : Bse B newId initId tl) (T : Oxc X.K C newId tl) (iC : PySem.W.findIn X.K (.ref C) "__init__" = some (some (.ref fI))) (tI : PySem.W.typeIn X.K (.ref fI) = some (.type "function"))
    (F1 : FnOk X.prog X.w X.K X.mg X.base CX0 k fI fd ps sp) (hr : Room (k + 1) X.A) (hb : Binds X.K fd ps []) (hg : Gl X x) (hm : X.mg x = some (.ref C)) (hdb : (x == ("__debug__" : Str)) = false := by decide) :
    PMk X (.Call (.Name x p) [] [] pos) (tMkX C sp tNil) := by
  intro pins s σ H Q I h
  apply PySem.wpAny_Call_Name_kw
  apply ld_glob I hg hm _ hdb
  exact PySem.W.callWith_K0 I.kIn T.kp (mk_run (CX := CX0) bf T iC tI F1 hr hb I .nil h.1 h.2)
end
end Mir

set_option maxHeartbeats 4000000
/-! Mir 35: __init__ of such classes, raise C(..), try .. except .. as error: caught = error, what is asked of the caught one. -/
namespace Mir
open PySem L2

/-! ### __init__ -/
def spIn1 (K : Fr) (newId : String) (tl : List Value) (f : Str) : Sp := fun vs H Q _ => ∃ (a C : Addr) (y : V), vs = [.ref a, y] ∧ Oxc K C newId tl ∧ PySem.W.findIn K (.ref C) f = some none ∧ H a = some (exo a C none) ∧
  ∀ dx, H dx = none → dx ≠ a → Q .non (upd (upd H dx (exd dx [(f, y)])) a (exo a C (some dx)))
def spIn0 (K : Fr) (newId : String) (tl : List Value) : Sp := fun vs H Q _ => ∃ (a C : Addr), vs = [.ref a] ∧ Oxc K C newId tl ∧ H a = some (exo a C none) ∧ Q .non H
section
variable {P : Program} {w : World} {K : Fr} {mg : Str → Option Value} {base : Heap} {newId : String} {tl : List Value}
theorem fn_xin1 {x qual : Str} {st : Stmt} {f : Addr} {fd : FuncData} {N ps : List Str} {k : Nat} {f1 z : Str} (F : Fun K x qual st f fd) (S : FnScope N ps (defScope st)) (hp : ps.length = 2) (hN : N.length = 2)
    (body : ∀ (cdv : Value) (A : Around) (outer : List PySem.Env) (s : Shared) (H : Hp) (E : XK),
      PSs (cxOf CX0 P w K mg base N qual (defScope st) f cdv A outer s H E).nox (defBody st) (tSeq (tDrop (tBaseI K newId tl (tCons (tVar 0) (tCons (tC (.str z)) tNil)))) (tFldP K newId tl f1 (tVar 0) (tVar 1)))) :
    FnOk P w K mg base CX0 (k + 1) f fd ps (spIn1 K newId tl f1) := by
  refine F.ok S (fun vs H Q E h => ?_) (fun cdv A outer s H vs Q E hr h => ⟨_, body cdv A outer s H E, ?_⟩)
  · obtain ⟨a, C, y, rfl, _⟩ := h
    exact hp.symm
  obtain ⟨a, C, y, rfl, T, hno, ea, q⟩ := h
  have g0 : (L2.start N [V.ref a, y])[0]? = some (some (V.ref a)) := by rw [start_get (by simp)]; rfl
  have g1 : (L2.start N [V.ref a, y])[1]? = some (some y) := by rw [start_get (by simp)]; rfl
  refine ⟨_, g0, a, C, [.str z], rfl, by simp, T, ea, y, g1, _, g0, a, C, rfl, T, hno, ea, fun dx n ne => q dx n ne⟩
theorem fn_xin0 {x qual : Str} {st : Stmt} {f : Addr} {fd : FuncData} {N ps : List Str} {k : Nat} {z : Str} (F : Fun K x qual st f fd) (S : FnScope N ps (defScope st)) (hp : ps.length = 1) (hN : N.length = 1)
    (body : ∀ (cdv : Value) (A : Around) (outer : List PySem.Env) (s : Shared) (H : Hp) (E : XK),
      PSs (cxOf CX0 P w K mg base N qual (defScope st) f cdv A outer s H E).nox (defBody st) (tDrop (tBaseI K newId tl (tCons (tVar 0) (tCons (tC (.str z)) tNil))))) :
    FnOk P w K mg base CX0 (k + 1) f fd ps (spIn0 K newId tl) := by
  refine F.ok S (fun vs H Q E h => ?_) (fun cdv A outer s H vs Q E hr h => ⟨_, body cdv A outer s H E, ?_⟩)
  · obtain ⟨a, C, rfl, _⟩ := h
    exact hp.symm
  obtain ⟨a, C, rfl, T, ea, q⟩ := h
  have g0 : (L2.start N [V.ref a])[0]? = some (some (V.ref a)) := by rw [start_get (by simp)]; rfl
  exact ⟨_, g0, a, C, [.str z], rfl, by simp, T, ea, q⟩
end
/-! ### raise C(e), raise C() -/
def xRaise (c f : Str) (fe : FE) : FX := fun env => match fe env with | some (r, e1) => some (⟨c, [(f, r.toD)]⟩, e1) | none => none
def xRaise0 (c : Str) : FX := fun env => some (⟨c, []⟩, env)
section
variable {X : Cx} {W : WX} {B newId initId : String} {tl : List Value}
theorem xs_raise {C fI : Addr} {k : Nat} {fd : FuncData} {ps : List Str} {x f : Str} {e : Expr} {fe : FE} {p pos pos' : Pos} (hc : X.calm = true) (tk : Takes X W) (bf : Bse B newId initId tl) (T : Oxc X.K C newId tl) (iC : PySem.W.findIn X.K (.ref C) "__init__" = some (some (.ref fI))) (tI : PySem.W.typeIn X.K (.ref fI) = some (.type "function"))
    (hno : PySem.W.findIn X.K (.ref C) f = some none) (F1 : FnOk X.prog X.w X.K X.mg X.base CX0 k fI fd ps (spIn1 X.K newId tl f)) (hr : Room (k + 1) X.A) (hb : Binds X.K fd ps []) (hg : Gl X x) (hm : X.mg x = some (.ref C)) (hns : PySem.W.nsIn X.K mainGlobals x = some (some (.ref C))) (he : SE X.nox e fe)
    (hdb : (x == ("__debug__" : Str)) = false := by decide) (hse : starEach [e] X.env = (false, eval e X.env) :: starEach [] X.env := by rfl) (hpl : (backTo pos (starEach [] X.env)).any (·.1) = false := by rfl) :
    XS1 X W (.Raise (some (.Call (.Name x p) [e] [] pos)) none pos') (xRaise x f fe) := PS.imp (ps_raise hc tk (pmk_x bf T iC tI F1 hr hb hg hm (pa_cons (PE.nox he) pa_nil hse) hdb hse hpl)) fun Dn σ H q => by
  obtain ⟨C', env, O, y, e', R, e, q⟩ := q
  unfold xRaise at e
  split at e
  · rename_i r e1 h1
    cases e
    refine te_run R h1 fun v H1 O1 _ R1 d1 => ?_
    refine ⟨by simp, fun a na => ⟨a, C, v, rfl, T, hno, upd_same, fun dx nd ne => ⟨rfl, .inl ⟨dx, [(f, v)], upd_same, ?_, ?_, ?_⟩⟩⟩⟩
    · rw [upd_ne ne, upd_same]
    · rw [upd_ne ne] at nd; exact nd
    have nd1 : H1 dx = none := by rw [upd_ne ne] at nd; exact nd
    have E3 : upd (del (upd (upd (upd H1 a (exo a C none)) dx (exd dx [(f, v)])) a (exo a C (some dx))) a) dx (.xd [(f, v)]) = upd H1 dx (.xd [(f, v)]) := by
      funext b
      by_cases hb : b = dx
      · subst hb; rw [upd_same, upd_same]
      · rw [upd_ne hb, upd_ne hb]
        by_cases ha : b = a
        · subst ha; rw [del_same, na]
        · rw [del_ne ha, upd_ne ha, upd_ne hb, upd_ne ha]
    rw [E3]
    have S : Same H1 (upd H1 dx (.xd [(f, v)])) := same_new nd1
    have nm : ¬ C'.m O1 dx := fun z => by obtain ⟨o, z⟩ := R1.al dx z; rw [nd1] at z; cases z
    refine q _ _ _ _ O1 (R1.grow S) ⟨⟨C, hns, rfl⟩, .inr ⟨dx, [(f, v)], rfl, ?_, rfl, ?_⟩⟩
    · rw [msk_no nm]; exact upd_same
    · exact .cons (dp_mono (msk_mono S) d1) .nil
  · cases e
theorem xs_raise0 {C fI : Addr} {k : Nat} {fd : FuncData} {ps : List Str} {x : Str} {p pos pos' : Pos} (hc : X.calm = true) (tk : Takes X W) (bf : Bse B newId initId tl) (T : Oxc X.K C newId tl) (iC : PySem.W.findIn X.K (.ref C) "__init__" = some (some (.ref fI))) (tI : PySem.W.typeIn X.K (.ref fI) = some (.type "function"))
    (F1 : FnOk X.prog X.w X.K X.mg X.base CX0 k fI fd ps (spIn0 X.K newId tl)) (hr : Room (k + 1) X.A) (hb : Binds X.K fd ps []) (hg : Gl X x) (hm : X.mg x = some (.ref C)) (hns : PySem.W.nsIn X.K mainGlobals x = some (some (.ref C))) (hdb : (x == ("__debug__" : Str)) = false := by decide) :
    XS1 X W (.Raise (some (.Call (.Name x p) [] [] pos)) none pos') (xRaise0 x) := PS.imp (ps_raise hc tk (pmk_x0 bf T iC tI F1 hr hb hg hm hdb)) fun Dn σ H q => by
  obtain ⟨C', env, O, y, e', R, e, q⟩ := q
  cases e
  refine ⟨by decide, fun a na => ⟨a, C, rfl, T, upd_same, rfl, .inr ⟨rfl, ?_⟩⟩⟩
  exact q _ _ _ _ O R ⟨⟨C, hns, rfl⟩, .inl ⟨rfl, rfl⟩⟩
end
/-! ### try -/
section
variable {K : Fr} {C : Ctx} {env : MEnv} {σ : L2.St} {H : Hp} {O : Ow}
theorem Rep.setN {i : Nat} {v : V} {x : Xt} (R : Rep K C env σ H O) (h : XtOk K C.sp (msk (C.m O) H) i (some (some v)) x) :
    Rep K C (env.set i (.xt x)) (σ.set i (some v)) H (O.put i none) := by
  have R' := R.setU (i := i) (v := some v)
  have A : ∀ a, C.m (O.put i none) a → C.m O a := fun a z => by
    rcases z with z | ⟨j, z⟩
    · exact .inl z
    · by_cases hj : j = i
      · subst hj; rw [put_same] at z; cases z
      · rw [put_ne hj] at z; exact .inr ⟨j, z⟩
  have S : Same (msk (C.m O) H) (msk (C.m (O.put i none)) H) := msk_anti A
  have ne : ∀ {j : Nat} {s : Sl}, (env.set i (.xt x))[j]? = some s → (∀ y, s ≠ .xt y) → (env.set i Sl.un)[j]? = some s := fun {j s} he hs => by
    by_cases hj : j = i
    · subst hj
      obtain ⟨e1, _⟩ := get_set_eq he
      exact absurd e1.symm (hs x)
    · rw [get_set_ne hj] at he ⊢; exact he
  refine ⟨by rw [List.length_set, List.length_set]; exact R.len, fun j d he => R'.dt j d (ne he fun _ z => by cases z), fun j xs he => R'.ow j xs (ne he fun _ z => by cases z), fun j xs he => R'.bo j xs (ne he fun _ z => by cases z), R'.inj, R'.out, R'.pin, R'.frn, fun j y he => ?_⟩
  by_cases hj : j = i
  · subst hj
    obtain ⟨e1, hl⟩ := get_set_eq he
    cases e1
    rw [List.getElem?_set_self (by rw [← R.len]; exact hl)]
    exact h.mono S
  · rw [get_set_ne hj] at he ⊢
    exact (R.xt j y he).mono S
end
theorem fly_keeps {B h h' : Heap} {l : List PySem.Env} {e : Addr} {Z : Obj → Prop} (k : ∀ b o, h.get? b = some o → h'.get? b = some o) (f : PySem.HandSPX.FlyingZ B l e Z h) : PySem.HandSPX.FlyingZ B l e Z h' := by
  obtain ⟨f1, f2, f3, oe, vs, T, oT, ts, g1, g2, g3, g4, g5, g6, g7, g8, g9⟩ := f
  exact ⟨fun b o z => k b o (f1 b o z), f2, f3.of_keeps fun b o z _ => ⟨o, k b o z, rfl⟩, oe, vs, T, oT, ts, k _ _ g1, g2, g3, g4, g5, g6, k _ _ g7, g8, g9⟩
/-- an except clause's test says yes -/
def TestOk (X : Cx) (cls : Value) (te : Expr) : Prop := ∀ (a : Addr) (pn pins : List (Addr × Obj)) (σ : L2.St) (H : Hp) (s : Shared) (E : Value → Shared → Prop) (Q : Bool → Shared → Prop), Inv (X.suite a pn) pins σ H s → PySem.W.Looks (model X.prog X.w) s.heap (typeOf (.ref a)) cls →
  (∀ h', (∀ q o, s.heap.get? q = some o → h'.get? q = some o) → Q true { s with heap := h' }) → wpAny (model X.prog X.w) (X.A.mark (some (.ref a))) (eval te X.env) (fun c s1 => wpAny (model X.prog X.w) (X.A.mark (some (.ref a))) (excMatches (.ref a) c) Q E s1) E s
section
variable {X : Cx} {cls : Value}
theorem nm_at {x : Str} {c : Value} {np : Pos} {a : Addr} {pn pins : List (Addr × Obj)} {σ : L2.St} {H : Hp} {s : Shared} {E : Value → Shared → Prop} {Q : Value → Shared → Prop} (hc : Names X x c) (I : Inv (X.suite a pn) pins σ H s) (q : Q c s) : wpAny (model X.prog X.w) (X.A.mark (some (.ref a))) (eval (.Name x np) X.env) Q E s := by
  obtain ⟨hg, hdb, hm | ⟨hm, hv, hn⟩⟩ := hc
  · exact ld_glob (X := X.suite a pn) I hg hm q hdb
  · exact ld_blt (X := X.suite a pn) I hg hm hv q hn hdb
theorem test1 {x : Str} {c : Value} {np : Pos} (hc : Names X x c) (hx : PySem.W.exmOne X.K cls c = some true) : TestOk X cls (.Name x np) := fun a pn pins σ H s E Q I LT q =>
  nm_at hc I ((PySem.W.exm_one I.kIn LT hx).here (q s.heap fun _ _ z => z))
theorem test2 {x1 x2 : Str} {c1 c2 : Value} {p1 p2 tp : Pos} {kk : Nat} (n1 : Names X x1 c1) (n2 : Names X x2 c2) (hx : PySem.W.exmAny X.K cls [c1, c2] = some true) : TestOk X cls (.Tuple [.Name x1 p1, .Name x2 p2] kk tp) := fun a pn pins σ H s E Q I LT q => by
  apply wpAny_Tuple
  apply wpAny_items_cons (nm_at n1 I _)
  apply wpAny_items_cons (nm_at n2 I _)
  refine wpAny_items_nil ⟨by size_fits, ?_⟩
  have kp : ∀ b o, s.heap.get? b = some o → (s.heap.push { cls := .type "tuple", data := .seq [c1, c2].toArray }).get? b = some o := fun _ _ z => Heap.get?_push_of_some _ z
  exact (PySem.W.exm_tup2 (I.kIn.keeps kp) (LT.keeps kp) (Heap.get?_push_size s.heap rfl) hx).here (q _ kp)
theorem test3 {x1 x2 x3 : Str} {c1 c2 c3 : Value} {p1 p2 p3 tp : Pos} {kk : Nat} (n1 : Names X x1 c1) (n2 : Names X x2 c2) (n3 : Names X x3 c3) (hx : PySem.W.exmAny X.K cls [c1, c2, c3] = some true) : TestOk X cls (.Tuple [.Name x1 p1, .Name x2 p2, .Name x3 p3] kk tp) := fun a pn pins σ H s E Q I LT q => by
  apply wpAny_Tuple
  apply wpAny_items_cons (nm_at n1 I _)
  apply wpAny_items_cons (nm_at n2 I _)
  apply wpAny_items_cons (nm_at n3 I _)
  refine wpAny_items_nil ⟨by size_fits, ?_⟩
  have kp : ∀ b o, s.heap.get? b = some o → (s.heap.push { cls := .type "tuple", data := .seq [c1, c2, c3].toArray }).get? b = some o := fun _ _ z => Heap.get?_push_of_some _ z
  exact (PySem.W.exm_tup3 (I.kIn.keeps kp) (LT.keeps kp) (Heap.get?_push_size s.heap rfl) hx).here (q _ kp)
theorem test4 {x1 x2 x3 x4 : Str} {c1 c2 c3 c4 : Value} {p1 p2 p3 p4 tp : Pos} {kk : Nat} (n1 : Names X x1 c1) (n2 : Names X x2 c2) (n3 : Names X x3 c3) (n4 : Names X x4 c4) (hx : PySem.W.exmAny X.K cls [c1, c2, c3, c4] = some true) : TestOk X cls (.Tuple [.Name x1 p1, .Name x2 p2, .Name x3 p3, .Name x4 p4] kk tp) := fun a pn pins σ H s E Q I LT q => by
  apply wpAny_Tuple
  apply wpAny_items_cons (nm_at n1 I _)
  apply wpAny_items_cons (nm_at n2 I _)
  apply wpAny_items_cons (nm_at n3 I _)
  apply wpAny_items_cons (nm_at n4 I _)
  refine wpAny_items_nil ⟨by size_fits, ?_⟩
  have kp : ∀ b o, s.heap.get? b = some o → (s.heap.push { cls := .type "tuple", data := .seq [c1, c2, c3, c4].toArray }).get? b = some o := fun _ _ z => Heap.get?_push_of_some _ z
  exact (PySem.W.exm_tup4 (I.kIn.keeps kp) (LT.keeps kp) (Heap.get?_push_size s.heap rfl) hx).here (q _ kp)
end
/-- what is wished of an exception: it is caught and kept in slot j; slot i's name goes -/
def wCa (Ok : Value → Prop) (i j : Nat) (D : Ends) : WX := fun cls d σ H => Ok cls ∧ ∀ a, H a = none → D.nx (((σ.set i (some (.ref a))).set j (some (.ref a))).set i none) (upd H a (ExT cls d a))
section
variable {X : Cx}
/-- an object that is none of the frame's is tracked from here on -/
theorem Inv.track {pins : List (Addr × Obj)} {σ : L2.St} {H : Hp} {s : Shared} {a : Addr} {φ : Heap → Prop} (I : Inv X pins σ H s) (na : H a = none) (n0 : X.s_0.heap.get? a = none) (hL : a ≠ X.env.locals) (hc : ∀ x c, X.env.cells.lookup x = some c → c ≠ a) (hpn : ∀ p ∈ X.pn ++ pins, p.1 ≠ a) (ok : ObjOk X.prog X.w (upd H a (.ext φ)) s.heap a (.ext φ)) : Inv X pins σ (upd H a (.ext φ)) s := by
  have ne0 : ∀ {b : Addr} {o : Obj}, X.s_0.heap.get? b = some o → b ≠ a := fun q z => by rw [z, n0] at q; cases q
  refine ⟨I.ok, I.os, I.bare, ⟨fun b o q n hb hx => I.base.keep b o q n hb hx, fun b o q n hb hx => I.base.slot b o q n hb hx, fun b o q n hx => ?_, fun b o q hx => I.base.there b o q hx, fun b xs q => ?_, fun b o u q => ?_, fun b ps q => ?_⟩, I.loc, I.cell, ?_, fun x c q => ?_, fun p hp => ?_, fun b o q => ?_, I.len⟩
  · rw [upd_ne (ne0 q)]; exact I.base.free b o q n hx
  · have z := I.base.tups b xs q
    rw [upd_ne (ne_of_none z na)]; exact z
  · have z := I.base.frzs b o u q
    rw [upd_ne (ne_of_none z na)]; exact z
  · obtain ⟨m, z⟩ := I.base.tbls b ps q
    exact ⟨m, by rw [upd_ne (ne_of_none z na)]; exact z⟩
  · rw [upd_ne (Ne.symm hL)]; exact I.free
  · rw [upd_ne (hc x c q)]; exact I.freeC x c q
  · obtain ⟨h1, h2, h3⟩ := I.pin p hp
    exact ⟨h1, by rw [upd_ne (hpn p hp)]; exact h2, h3⟩
  · by_cases hb : b = a
    · subst hb; rw [upd_same] at q; cases q; exact ok
    · rw [upd_ne hb] at q
      exact (I.hok b o q).stay (fun _ _ _ z => z) (fun c z => by rw [upd_ne (ne_of_none z na)]; exact z) fun c xs z => by rw [upd_ne (ne_of_none z na)]; exact z
theorem ps_catch {te : Expr} {n y : Str} {i j : Nat} {body : List Stmt} {pn' py pa pos pos' : Pos} {tb : WX → TS} {Ok : Value → Prop} (hs : X.stack = X.env :: X.outer) (hf : X.env.frame = some X.env.locals) (hex : X.ex = []) (hN : X.N.Nodup) (hi : X.N[i]? = some n) (hj : X.N[j]? = some y) (hln : X.env.kindOf n = some .local) (hly : X.env.kindOf y = some .local) (hdb : (n == ("__debug__" : Str)) = false) (hdc : (n == ("__classdict__" : Str)) = false)
    (hT : ∀ cls, Ok cls → TestOk X cls te)
    (hb : ∀ (W : WX) (pn : List (Addr × Obj)) (xe : Value → Shared → Prop), Takes (X.tr pn xe) W → PassesOwn (model X.prog X.w) X.A X.env xe → PSs (X.tr pn xe) body (tb W)) :
    PS X (.Try body [.ExceptHandler (some te) (some n) [.Assign [.Name y py] (.Name n pn') pa] pos'] [] [] pos) (fun D σ H => tb (wCa Ok i j D) D σ H) := by
  constructor
  intro pins s σ H D I h
  have ok := I.ok
  have fr : X.A.frames = some (X.env :: X.outer) := by rw [ok.frames, hs]
  apply wpAny_Try_except
  refine wpAny_mono ((hb (wCa Ok i j D) (X.pn ++ pins) _ ?_ PassesOwn.looking).run [] s σ H D (I.toTry _) h) ?_ (fun e s1 he => he)
  rotate_left
  · intro f s1 hsp
    match f, hsp with
    | .next, ⟨σ', H', J', q⟩ => exact wpAny_execs_nil ⟨σ', H', J'.ofTry ok, q⟩
    | .brk, ⟨σ', H', J', q⟩ => exact ⟨σ', H', J'.ofTry ok, q⟩
    | .cont, ⟨σ', H', J', q⟩ => exact ⟨σ', H', J'.ofTry ok, q⟩
    | .ret u, ⟨v, σ', H', J', r, q⟩ => exact ⟨v, σ', H', J'.ofTry ok, r, q⟩
  rintro u s' ⟨a, B, sI, pins', σ', H', cls, d, rfl, J', nb, up, sky, na, os, ag, hOk, hyes⟩
  have J : Inv X pins σ' H' sI := J'.ofTry ok
  have sky' : Sky B (X.env :: X.outer) a (Zc cls d) X.env.locals s'.heap := by
    rw [← hs]; exact sky
  refine Sky.land Zc.steady fr hf sky' ?_
  intro h3 fl3 up3
  have J3 : Inv X pins σ' H' { s' with heap := h3 } := J.landed nb fl3.1 (up.trans up3) os ag
  obtain ⟨oe3, vs3, he3, hz3, hd3⟩ := fl3.there
  have nfr : a ∉ frs (X.env :: X.outer) := fun hm => by
    obtain ⟨_, o', e', hnf⟩ := fl3.2.2.1.mem hm
    rw [he3] at e'; cases e'
    exact hnf _ hd3
  have nL : a ≠ X.env.locals := fun z => nfr (List.mem_filterMap.mpr ⟨X.env, List.mem_cons_self, by rw [hf, z]⟩)
  have nF : a ∉ X.fs := fun hm => by
    obtain ⟨e, he, q⟩ := List.mem_filterMap.mp hm
    exact nfr (List.mem_filterMap.mpr ⟨e, List.mem_cons_of_mem _ he, q⟩)
  have nB : B.get? a = none := fl3.2.1
  have n0 : X.s_0.heap.get? a = none := by
    cases q : X.s_0.heap.get? a with
    | none => rfl
    | some o =>
      obtain ⟨o', z⟩ := J.base.there a o q (by rw [hex]; exact fun z => nomatch z)
      have := nb a o' z (by rw [hs]; exact nfr)
      rw [nB] at this; cases this
  have npn : ∀ p ∈ X.pn ++ pins, p.1 ≠ a := fun p hp z => by
    obtain ⟨g1, g2, g3, g4, g5⟩ := J.pin p hp
    have nf : p.1 ∉ frs X.stack := by rw [hs, z]; exact nfr
    have := nb _ _ g1 nf
    rw [z, nB] at this; cases this
  have S3 := J3.suite he3 hd3 na nL nF
  have LT : PySem.W.Looks (model X.prog X.w) h3 (typeOf (.ref a)) cls := fun A Q E s k q => wpAny_typeOf_ref (k _ _ he3) (by rw [hz3.1]; exact q)
  refine wpAny_handleBy_cons (codeAny_handlers_test ?_) (by intro q; cases q)
  refine hT cls hOk a _ [] σ' H' _ _ _ S3 LT ?_
  intro h4 k4
  have fl4 := fly_keeps k4 fl3
  refine codeAny_handlers_suite_as ?_
  refine PySem.HandSPX.lands_againZ fl4 ?_
  intro h5 fl5 up5
  have J5 : Inv X pins σ' H' { s' with heap := h5 } := J.landed nb fl5.1 (((up.trans up3).trans (Heap.UpToSlots.of_keeps k4)).trans up5) os ag
  obtain ⟨oe5, vs5, he5, hz5, hd5⟩ := fl5.there
  have S5 := J5.suite he5 hd5 na nL nF
  refine store_ok (X := X.suite a ((a, oe5) :: (X.pn ++ pins))) (v := .ref a) S5 hN hi (.inl hln) rfl ?_ (.inr hln)
  intro s6 S6
  have hiσ : i < σ'.length := by
    rw [J.len]; exact (List.getElem?_eq_some_iff.mp hi).1
  have run := (pss_one (ps_set (X := X.suite a ((a, oe5) :: (X.pn ++ pins))) (i := j) (x := y) (pos' := py) (pos := pa) hN hj (.inl hly) (pe_var (pos := pn') hi (.inl hln) hdb hdc) (by rfl) (.inr hly))).run [] s6 _ H' { nx := fun σ7 H7 => σ7 = (σ'.set i (some (.ref a))).set j (some (.ref a)) ∧ H7 = H', rt := fun _ _ => False } S6 ⟨.ref a, List.getElem?_set_self hiσ, rfl, rfl⟩
  refine wpAny_mono run ?_ (fun _ _ z => False.elim z)
  intro f s7 hsp
  match f, hsp with
  | .brk, ⟨_, _, _, z⟩ => exact z.elim
  | .cont, ⟨_, _, _, z⟩ => exact z.elim
  | .ret u, ⟨_, _, _, _, _, z⟩ => exact z.elim
  | .next, ⟨σ7, H7, S7, e1, e2⟩ =>
    subst e1; subst e2
    obtain ⟨ha7, _⟩ := S7.pin (a, oe5) (List.mem_append_left _ List.mem_cons_self)
    have J7 : Inv X pins _ H7 s7 := S7.unsuite ok
    have hob : ObjOk X.prog X.w (upd H7 a (ExT cls d a)) s7.heap a (ExT cls d a) := ⟨⟨oe5, vs5, ha7, hz5.1, hz5.2, hd5⟩, ⟨oe5, ha7⟩, fun h1 h2 ⟨o, v, q, r⟩ k => ⟨o, v, k o q, r⟩⟩
    have J8 : Inv X pins _ (upd H7 a (ExT cls d a)) s7 := Inv.track J7 na n0 nL (fun x c e z => by
      obtain ⟨w, o, g1, g2⟩ := J7.cell x c e
      rw [z, ha7] at g1
      cases g1
      rw [hd5] at g2; cases g2) npn hob
    exact gone_ok J8 hN hi hln fun s8 J9 => ⟨_, _, J9, hyes a na⟩
end
/-! ### by data -/
def mTry (g : FS) (f : FX) (ok : Str → Bool) (i j : Nat) : FS := fun env => match f env with
  | some (x, e1) => if ok x.c = true then some (.nx, ((e1.set i .un).set j (.xt (.exn x))).set i .un) else none
  | none => g env
section
variable {X : Cx}
theorem ss_try {te : Expr} {n y : Str} {i j : Nat} {body : List Stmt} {pn' py pa pos pos' : Pos} {g : FS} {f : FX} {ok : Str → Bool} (hs : X.stack = X.env :: X.outer) (hf : X.env.frame = some X.env.locals) (hex : X.ex = []) (hN : X.N.Nodup) (hi : X.N[i]? = some n) (hj : X.N[j]? = some y) (hln : X.env.kindOf n = some .local) (hly : X.env.kindOf y = some .local) (hdb : (n == ("__debug__" : Str)) = false) (hdc : (n == ("__classdict__" : Str)) = false)
    (hT : ∀ c C, ok c = true → PySem.W.nsIn X.K mainGlobals c = some (some (.ref C)) → TestOk X (.ref C) te) (hg : SSs X.nox body g)
    (hb : ∀ (W : WX) (pn : List (Addr × Obj)) (xe : Value → Shared → Prop), Takes (X.tr pn xe) W → PassesOwn (model X.prog X.w) X.A X.env xe → XSs (X.tr pn xe) W body f) :
    SS X (.Try body [.ExceptHandler (some te) (some n) [.Assign [.Name y py] (.Name n pn') pa] pos'] [] [] pos) (mTry g f ok i j) :=
  PS.imp (ps_or (ps_try_thru0 hg) (ps_catch (Ok := fun cls => ∃ c C, ok c = true ∧ PySem.W.nsIn X.K mainGlobals c = some (some (.ref C)) ∧ cls = .ref C) (tb := fun W _ σ H => txOf X.K W f σ H) hs hf hex hN hi hj hln hly hdb hdc (fun cls ⟨c, C, h1, h2, h3⟩ => by subst h3; exact hT c C h1 h2) hb)) fun Dn σ H q => by
  obtain ⟨C, env, O, fl, env', R, e, q⟩ := q
  unfold mTry at e
  split at e
  · rename_i x e1 h1
    split at e
    · rename_i hok
      cases e
      refine .inr ⟨C, env, O, x, e1, R, h1, fun cls d σ' H' O' R' xn => ⟨?_, fun a na => ?_⟩⟩
      · obtain ⟨⟨C1, h2, h3⟩, _⟩ := xn
        exact ⟨x.c, C1, hok, h2, h3⟩
      have S : Same H' (upd H' a (ExT cls d a)) := same_new na
      have R1 := (R'.grow S).setU (i := i) (v := some (.ref a))
      have nm : ¬ C.m (O'.put i none) a := fun z => by
        rcases z with z | ⟨k, z⟩
        · obtain ⟨o, z⟩ := R'.al a (.inl z); rw [na] at z; cases z
        · by_cases hk : k = i
          · subst hk; rw [put_same] at z; cases z
          · rw [put_ne hk] at z
            obtain ⟨o, z⟩ := R'.al a (.inr ⟨k, z⟩); rw [na] at z; cases z
      have A : ∀ b, C.m (O'.put i none) b → C.m O' b := fun b z => by
        rcases z with z | ⟨k, z⟩
        · exact .inl z
        · by_cases hk : k = i
          · subst hk; rw [put_same] at z; cases z
          · rw [put_ne hk] at z; exact .inr ⟨k, z⟩
      have R2 := R1.setN (i := j) (v := .ref a) (x := .exn x) ⟨a, cls, d, rfl, by rw [msk_no nm]; exact upd_same, xn.mono ((msk_mono S).trans (msk_anti A))⟩
      exact q _ _ _ (R2.setU (i := i) (v := none))
    · cases e
  · exact .inl ⟨C, env, O, fl, env', R, e, q⟩
/-- caught is None -/
def mXNone (i : Nat) (b : Bool) : FE := fun env => match env[i]? with
  | some (.xt (.exn _)) => some (.d (.bool b), env)
  | some (.dt .none) => some (.d (.bool (!b)), env)
  | _ => none
theorem tx_xnone {K : Fr} {C : Ctx} {env : MEnv} {σ : L2.St} {H : Hp} {O : Ow} {i : Nat} {b : Bool} {r : Rv} {env' : MEnv} (R : Rep K C env σ H O) (e : mXNone i b env = some (r, env')) : ∃ v, σ[i]? = some (some v) ∧ env' = env ∧ r = .d (.bool (decide (v = .non) != b)) := by
  unfold mXNone at e
  split at e
  · rename_i x hx
    cases e
    obtain ⟨a, cls, d, h1, _⟩ := R.xt i _ hx
    exact ⟨_, h1, rfl, by rw [decide_eq_false (by intro z; cases z)]; cases b <;> rfl⟩
  · rename_i hx
    cases e
    obtain ⟨v, h1, h2⟩ := R.dt i _ hx
    cases h2
    exact ⟨_, h1, rfl, by cases b <;> rfl⟩
  · cases e
theorem se_xisN {i : Nat} {x : Str} {p2 pos pos' : Pos} {j} (h : PE X (.Name x p2) (tVar i)) : SE X (.Compare (.Name x p2) [.Is] [.Constant .none j pos'] pos) (mXNone i false) := PE.imp (pe_cmp (pc_isN h)) fun σ H Q q => by
  obtain ⟨C, env, O, r, env', R, e, q⟩ := q
  obtain ⟨v, h1, rfl, rfl⟩ := tx_xnone R e
  exact ⟨v, h1, q _ H O ⟨R, by rw [Bool.bne_false]; exact .bl _⟩⟩
theorem se_xnotN {i : Nat} {x : Str} {p2 pos pos' : Pos} {j} (h : PE X (.Name x p2) (tVar i)) : SE X (.Compare (.Name x p2) [.IsNot] [.Constant .none j pos'] pos) (mXNone i true) := PE.imp (pe_cmp (pc_notN h)) fun σ H Q q => by
  obtain ⟨C, env, O, r, env', R, e, q⟩ := q
  obtain ⟨v, h1, rfl, rfl⟩ := tx_xnone R e
  exact ⟨v, h1, q _ H O ⟨R, by rw [Bool.bne_true]; exact .bl _⟩⟩
/-- caught.f -/
def mXFld (i : Nat) (cs : List Str) (f : Str) : FE := fun env => match env[i]? with
  | some (.xt (.exn x)) => if x.c ∈ cs then (match x.fs.lookup f with | some d => some (.d d, env) | none => none) else none
  | _ => none
/-- isinstance(caught, ..), by a table of classes -/
def mXIs (i : Nat) (tb : List (Str × Bool)) : FE := fun env => match env[i]? with
  | some (.xt (.exn x)) => (match tb.lookup x.c with | some b => some (.d (.bool b), env) | none => none)
  | _ => none
/-- what is told of a class whose instances are asked -/
structure XCl (K : Fr) (c : Str) (C : Addr) : Prop where
  ns : PySem.W.nsIn K mainGlobals c = some (some (.ref C))
  ga : PySem.W.findIn K (.ref C) "__getattribute__" = some (some (.builtin "BaseException.__getattribute__"))
  gg : PySem.W.findIn K (.ref C) "__getattr__" = some none
  ex : PySem.W.subIn K (.ref C) (.type "BaseException") = some true
  hd : PySem.W.hasDictIn K C = true
  hc : PySem.W.findIn K (.ref C) "__class__" = some (some (.builtin "object.__class__"))
  hn : PySem.W.specialIn K (.builtin "object.__class__") "__get__" = some (some (.builtin "getset_descriptor.__get__"))
  ht : PySem.W.takesIn K (.builtin "object.__class__") = some true
  hm : PySem.W.mroIn K C (.type "object") = some true
theorem lookup_mem {tb : List (Str × Bool)} {c : Str} {b : Bool} (h : tb.lookup c = some b) : (c, b) ∈ tb := by
  induction tb with
  | nil => cases h
  | cons p t ih =>
    obtain ⟨c', b'⟩ := p
    rw [List.lookup_cons] at h
    split at h
    · rename_i z
      cases h
      rw [beq_iff_eq.mp z]; exact List.mem_cons_self
    · exact List.mem_cons_of_mem _ (ih h)
def rExT (x : V) (C : Addr) (H : Hp) (fs : List (Str × V)) : Prop := ∃ (a : Addr) (d : Option Addr), x = .ref a ∧ H a = some (ExT (.ref C) d a) ∧ ((fs = [] ∧ d = none) ∨ ∃ dd, d = some dd ∧ H dd = some (.xd fs))
theorem ext_inst {pins : List (Addr × Obj)} {σ : L2.St} {H : Hp} {s : Shared} {x : V} {C : Addr} {fs : List (Str × V)} {u : Value} (I : Inv X pins σ H s) (r : RelV x u) (h : rExT x C H fs) :
    ∃ (a : Addr) (oe : Obj) (od : Option Obj), x = .ref a ∧ u = .ref a ∧ PySem.W.InstAt s.heap a oe C od ∧ ∀ f v, fs.lookup f = some v → ∃ mo u', od = some mo ∧ RelV v u' ∧ PySem.W.lookIn f mo = some (some u') := by
  obtain ⟨a, d, rfl, ha, hd⟩ := h
  obtain rfl : u = Value.ref a := r
  have hx : ObjOk X.prog X.w H s.heap a (.ext fun h => ∃ (oe : Obj) (vs : Array Value), h.get? a = some oe ∧ oe.cls = .ref C ∧ oe.dict = d ∧ oe.data = .fields vs) := I.hok a _ ha
  obtain ⟨⟨oe, vs, g1, g2, g3, g4⟩, _⟩ := hx
  have nc : PySem.W.notCls oe = true := by unfold PySem.W.notCls; rw [g4] <;> rfl
  rcases hd with ⟨rfl, rfl⟩ | ⟨dd, rfl, hdd⟩
  · exact ⟨a, oe, none, rfl, rfl, ⟨g1, g2, nc, by rw [g3]; trivial⟩, fun f v z => by cases z⟩
  · obtain ⟨mA, hns, hr⟩ := I.hok dd _ hdd
    obtain ⟨od, ho, hl⟩ := lookIn_ns hns
    refine ⟨a, oe, some od, rfl, rfl, ⟨g1, g2, nc, by rw [g3]; exact ho⟩, fun f v z => ?_⟩
    obtain ⟨u', hu, ru⟩ := RelO.some_of (v := v) (o := mA f) (by rw [← z]; exact hr f)
    exact ⟨od, u', rfl, ru, by rw [hl, hu]⟩
/-- e.f of a caught exception -/
def tXFld (K : Fr) (f : Str) (te : TE) : TE := fun σ H Q => te σ H fun x H1 => ∃ (c : Str) (C : Addr) (fs : List (Str × V)) (v : V), XCl K c C ∧ PySem.W.findIn K (.ref C) f = some none ∧ rExT x C H1 fs ∧ fs.lookup f = some v ∧ Q v H1
theorem pe_xfld {e : Expr} {te : TE} {pos : Pos} {f : Str} (he : PE X e te) (hb : attributeBase e f X.env (eval e X.env) = eval e X.env := by rfl) : PE X (.Attribute e f pos) (tXFld X.K f te) := by
  constructor
  intro pins s σ H Q I h
  refine attr_of hb (thn (he.run pins s σ H _ I h) ?_)
  rintro u s1 ⟨x, H1, I1, rx, c, C, fs, v, T, hno, hx, l, q⟩
  obtain ⟨a, oe, od, rfl, rfl, J, hl⟩ := ext_inst I1 rx hx
  obtain ⟨mo, u', rfl, ru, lk⟩ := hl f v l
  exact PySem.HandSPX.exc_get I1.kIn J T.ga T.gg T.ex (PySem.W.findObj_own T.hd hno rfl lk) (handed_of ru) ⟨v, H1, I1.tok _, ru, q⟩
theorem xn_rext {K : Fr} {H : Hp} {m : Addr → Prop} {a : Addr} {cls : Value} {d : Option Addr} {x : Exn} (h : msk m H a = some (ExT cls d a)) (n : XnOk K (msk m H) cls d x) : ∃ (C : Addr) (fs : List (Str × V)), PySem.W.nsIn K mainGlobals x.c = some (some (.ref C)) ∧ rExT (.ref a) C H fs ∧ FldOk K (msk m H) fs x.fs := by
  obtain ⟨⟨C, h1, rfl⟩, h2⟩ := n
  rcases h2 with ⟨e1, rfl⟩ | ⟨dd, vs, rfl, g1, g2⟩
  · exact ⟨C, [], h1, ⟨a, none, rfl, msk_sub _ _ h, .inl ⟨rfl, rfl⟩⟩, by rw [e1]; exact ⟨rfl, .nil⟩⟩
  · exact ⟨C, vs, h1, ⟨a, some dd, rfl, msk_sub _ _ h, .inr ⟨dd, rfl, msk_sub _ _ g1⟩⟩, g2⟩
theorem se_xfld {i : Nat} {x f : Str} {cs : List Str} {p2 pos : Pos} (h : PE X (.Name x p2) (tVar i)) (hc : ∀ c, c ∈ cs → ∃ C, XCl X.K c C ∧ PySem.W.findIn X.K (.ref C) f = some none)
    (hb : attributeBase (.Name x p2) f X.env (eval (.Name x p2) X.env) = eval (.Name x p2) X.env := by rfl) : SE X (.Attribute (.Name x p2) f pos) (mXFld i cs f) := PE.imp (pe_xfld h hb) fun σ H Q q => by
  obtain ⟨C', env, O, r, env', R, e, q⟩ := q
  unfold mXFld at e
  split at e
  · rename_i y hx
    split at e
    · rename_i hm
      split at e
      · rename_i d hd
        cases e
        obtain ⟨a, cls, dd, h1, h2, h3⟩ := R.xt i _ hx
        obtain ⟨C, fs, g1, g2, g3⟩ := xn_rext h2 h3
        obtain ⟨C1, k1, k2⟩ := hc _ hm
        have ec := k1.ns
        rw [g1] at ec
        cases ec
        obtain ⟨u, h5, h6⟩ := g3.get hd
        exact ⟨_, h1, _, C, fs, u, k1, k2, g2, h5, q _ _ O ⟨R, h6⟩⟩
      · cases e
    · cases e
  · cases e
/-! isinstance -/
def rXIs1 (K : Fr) (cv : Value) : List V → Hp → VK → Prop := fun xs H Q => ∃ (x y : V) (c : Str) (C : Addr) (fs : List (Str × V)) (b : Bool), xs = [x, y] ∧ (∀ u, RelV y u → u = cv) ∧ XCl K c C ∧ rExT x C H fs ∧ PySem.W.kitOne K (.ref C) cv = some b ∧ Q (.bl b) H
theorem cr_xis1 {cv : Value} : CallR X (.builtin "isinstance") (rXIs1 X.K cv) := by
  intro pins s σ H xs us Q I r h
  obtain ⟨x, y, c, C, fs, b, rfl, hcv, T, hx, e, q⟩ := h
  cases r with
  | cons rx rr =>
    cases rr with
    | cons ry rr =>
      cases rr
      obtain rfl := hcv _ ry
      obtain ⟨a, oe, od, rfl, rfl, J, _⟩ := ext_inst I rx hx
      have hcl : (PySem.W.clsIn X.K C).isSome = true := by
        obtain ⟨cd, z, _⟩ := PySem.W.any_some T.hd
        rw [z]; rfl
      exact PySem.W.kia_one (PySem.W.kitx_exc hcl T.ga T.gg T.ex T.hc T.hn T.ht T.hm) I.kIn J e (fun z => nomatch z) fun tk => ⟨.bl b, H, I.kept (t' := tk) fun _ _ z => z, rfl, q⟩
def rXIsT (K : Fr) (cvs : List Value) : List V → Hp → VK → Prop := fun xs H Q => ∃ (x : V) (t : Addr) (ys : List V) (c : Str) (C : Addr) (fs : List (Str × V)) (b : Bool), xs = [x, .ref t] ∧ H t = some (.tup ys) ∧ (∀ us, Vals ys us → us = cvs) ∧ XCl K c C ∧ rExT x C H fs ∧ PySem.W.kitAny K (.ref C) cvs = some b ∧ Q (.bl b) H
theorem cr_xisT {cvs : List Value} : CallR X (.builtin "isinstance") (rXIsT X.K cvs) := by
  intro pins s σ H xs us Q I r h
  obtain ⟨x, t, ys, c, C, fs, b, rfl, ht, hcv, T, hx, e, q⟩ := h
  cases r with
  | cons rx rr =>
    cases rr with
    | cons ry rr =>
      cases rr
      cases ry
      obtain ⟨a, oe, od, rfl, rfl, J, _⟩ := ext_inst I rx hx
      obtain ⟨_, its, rv, o, g1, g2, n, g3⟩ := I.hok t _ ht
      obtain rfl := hcv _ rv
      have hcl : (PySem.W.clsIn X.K C).isSome = true := by
        obtain ⟨cd, z, _⟩ := PySem.W.any_some T.hd
        rw [z]; rfl
      obtain ⟨oc, odd, oda, osl⟩ := o
      dsimp only at g2 g3
      subst g2 g3
      exact PySem.W.kia_tup (PySem.W.kitx_exc hcl T.ga T.gg T.ex T.hc T.hn T.ht T.hm) I.kIn J g1 e (fun z => nomatch z) fun tk => ⟨.bl b, H, I.kept (t' := tk) fun _ _ z => z, rfl, q⟩
theorem se_xis1 {i : Nat} {x : Str} {tb : List (Str × Bool)} {t2 : Expr} {y : V} {cv : Value} {p p2 pos : Pos} (hg : Gl X "isinstance") (hm : X.mg "isinstance" = none) (hbi : bootBuiltins "isinstance" = some (.builtin "isinstance")) (h : PE X (.Name x p2) (tVar i)) (ht : PE X t2 (tC y)) (hcv : ∀ u, RelV y u → u = cv) (hc : ∀ c b, (c, b) ∈ tb → ∃ C, XCl X.K c C ∧ PySem.W.kitOne X.K (.ref C) cv = some b)
    (he : starEach [.Name x p2, t2] X.env = (false, eval (.Name x p2) X.env) :: starEach [t2] X.env := by rfl) (he2 : starEach [t2] X.env = (false, eval t2 X.env) :: starEach [] X.env := by rfl) (hpl : (backTo pos (starEach [t2] X.env)).any (·.1) = false := by rfl) :
    SE X (.Call (.Name "isinstance" p) [.Name x p2, t2] [] pos) (mXIs i tb) := PE.imp (pe_callB (cr_xis1 (cv := cv)) hg hm hbi (pa_cons h (pa_cons ht pa_nil he2) he) (by decide) (by decide) he hpl) fun σ H Q q => by
  obtain ⟨C', env, O, r, env', R, e, q⟩ := q
  unfold mXIs at e
  split at e
  · rename_i z hx
    split at e
    · rename_i b hd
      cases e
      obtain ⟨a, cls, dd, h1, h2, h3⟩ := R.xt i _ hx
      obtain ⟨C, fs, g1, g2, g3⟩ := xn_rext h2 h3
      obtain ⟨C1, k1, k2⟩ := hc _ _ (lookup_mem hd)
      have ec := k1.ns
      rw [g1] at ec
      cases ec
      exact ⟨_, h1, _, _, _, C, fs, b, rfl, hcv, k1, g2, k2, q _ _ O ⟨R, .bl _⟩⟩
    · cases e
  · cases e
theorem se_xisT {i : Nat} {x : Str} {tb : List (Str × Bool)} {es : List Expr} {ta : TA} {ys : List V} {cvs : List Value} {kk : Nat} {p p2 tp pos : Pos} (hg : Gl X "isinstance") (hm : X.mg "isinstance" = none) (hbi : bootBuiltins "isinstance" = some (.builtin "isinstance")) (h : PE X (.Name x p2) (tVar i)) (ht : PA X es ta) (hta : ∀ σ H Q, Q ys H → ta σ H Q) (hl : ys.length ≤ 1000) (hcv : ∀ us, Vals ys us → us = cvs) (hc : ∀ c b, (c, b) ∈ tb → ∃ C, XCl X.K c C ∧ PySem.W.kitAny X.K (.ref C) cvs = some b)
    (he : starEach [.Name x p2, .Tuple es kk tp] X.env = (false, eval (.Name x p2) X.env) :: starEach [.Tuple es kk tp] X.env := by rfl) (he2 : starEach [.Tuple es kk tp] X.env = (false, eval (.Tuple es kk tp) X.env) :: starEach [] X.env := by rfl) (hpl : (backTo pos (starEach [.Tuple es kk tp] X.env)).any (·.1) = false := by rfl) :
    SE X (.Call (.Name "isinstance" p) [.Name x p2, .Tuple es kk tp] [] pos) (mXIs i tb) := PE.imp (pe_callB (cr_xisT (cvs := cvs)) hg hm hbi (pa_cons h (pa_cons (pe_tup ht) pa_nil he2) he) (by decide) (by decide) he hpl) fun σ H Q q => by
  obtain ⟨C', env, O, r, env', R, e, q⟩ := q
  unfold mXIs at e
  split at e
  · rename_i z hx
    split at e
    · rename_i b hd
      cases e
      obtain ⟨a, cls, dd, h1, h2, h3⟩ := R.xt i _ hx
      obtain ⟨C1, k1, k2⟩ := hc _ _ (lookup_mem hd)
      refine ⟨_, h1, hta _ _ _ ⟨by rw [sizeLine_eq]; omega, fun t nt => ?_⟩⟩
      have S : Same H (upd H t (.tup ys)) := same_new nt
      have R1 := R.grow S
      obtain ⟨a', cls', dd', h1', h2', h3'⟩ := R1.xt i _ hx
      rw [h1] at h1'
      cases h1'
      obtain ⟨C, fs, g1, g2, g3⟩ := xn_rext h2' h3'
      have ec := k1.ns
      rw [g1] at ec
      cases ec
      exact ⟨_, t, ys, _, _, fs, b, rfl, upd_same, hcv, k1, g2, k2, q _ _ O ⟨R1, .bl _⟩⟩
    · cases e
  · cases e
end
end Mir

/-! Mir 36: raising, by what must hold behind; what the printed text leans on. -/
namespace Mir
open PySem L2
def xW (f : FX) (env : MEnv) (P : Exn → MEnv → Prop) : Prop := wX (f env) P
def xK (f : FX) (P : Exn → MEnv → Prop) : Fl → MEnv → Prop
  | .nx, e => xW f e P
  | _, _ => False
section
variable {env : MEnv} {P : Exn → MEnv → Prop} {PS : Fl → MEnv → Prop} {PE : Rv → MEnv → Prop}
theorem xW_mono {f : FX} {Q : Exn → MEnv → Prop} (h : xW f env P) (i : ∀ x e, P x e → Q x e) : xW f env Q := let ⟨x, e, h1, h2⟩ := h; ⟨x, e, h1, i x e h2⟩
theorem xW_seq {g : FS} {f : FX} : xW (xSeq g f) env P ↔ wS g env (xK f P) := by
  unfold xW wS xSeq
  cases h : g env with
  | none => simp only [wX_none]
  | some p =>
    obtain ⟨r, e⟩ := p
    rw [wX_some]
    cases r <;> simp only [xK, wX_none] <;> rfl
theorem xW_if {t : FT} {f g : FX} : xW (xIf t f g) env P ↔ wT t env fun b e => (b = true → xW f e P) ∧ (b = false → xW g e P) := by
  unfold xW wT xIf
  cases t env with
  | none => simp only [wX_none]
  | some p => obtain ⟨b, e⟩ := p; cases b <;> simp [wX_some]
theorem xW_arg {g : FE} {f : FX} : xW (xArg g f) env P ↔ wE g env fun _ e => xW f e P := by
  unfold xW wE xArg
  cases g env with
  | none => simp only [wX_none]
  | some p => obtain ⟨b, e⟩ := p; simp only [wX_some]
theorem xW_call {R : List D → Option Exn} {fs : FA} : xW (xCall R fs) env P ↔ wA fs env fun ds e => ∃ x, R ds = some x ∧ P x e := by
  unfold xW wA xCall
  cases fs env with
  | none => simp only [wX_none]
  | some p =>
    obtain ⟨ds, e⟩ := p
    simp only [wX_some]
    cases R ds with
    | none => simp [wX_none]
    | some x => simp [wX_some]
theorem xW_raise {c f : Str} {fe : FE} : xW (xRaise c f fe) env P ↔ wE fe env fun r e => P ⟨c, [(f, r.toD)]⟩ e := by
  unfold xW wE xRaise
  cases fe env with
  | none => simp only [wX_none]
  | some p => obtain ⟨b, e⟩ := p; simp only [wX_some]
theorem xW_raise0 {c : Str} : xW (xRaise0 c) env P ↔ P ⟨c, []⟩ env := by unfold xW xRaise0; rw [wX_some]
theorem xW_orL {f g : FX} (h : xW f env P) : xW (xOr f g) env P := by
  obtain ⟨x, e, h1, h2⟩ := h
  exact ⟨x, e, by unfold xOr; rw [h1], h2⟩
theorem xW_orR {f g : FX} (n : f env = none) (h : xW g env P) : xW (xOr f g) env P := by
  obtain ⟨x, e, h1, h2⟩ := h
  exact ⟨x, e, by unfold xOr; rw [n]; exact h1, h2⟩
theorem xW_frz {f : FX} {i : Nat} : xW (fun env => f (frzE env i)) env P ↔ xW f (frzE env i) P := Iff.rfl
theorem runX_ok {np n : Nat} {f : FX} {ds : List D} {x : Exn} (hl : ds.length = np) (h : xW f (startE n ds) (fun y _ => y = x)) : runX np n f ds = some x := by
  obtain ⟨y, e, h1, rfl⟩ := h
  unfold runX
  rw [if_pos hl, h1]
theorem runX_no {np n : Nat} {f : FX} {ds : List D} (h : f (startE n ds) = none) : runX np n f ds = none := by
  unfold runX
  rw [h]
  split <;> rfl
theorem wS_tryX {g : FS} {f : FX} {ok : Str → Bool} {i j : Nat} (h : xW f env fun x e1 => ok x.c = true ∧ PS .nx (((e1.set i .un).set j (.xt (.exn x))).set i .un)) : wS (mTry g f ok i j) env PS := by
  obtain ⟨x, e, h1, h2, h3⟩ := h
  exact ⟨_, _, by unfold mTry; rw [h1]; exact if_pos h2, h3⟩
theorem wS_tryN {g : FS} {f : FX} {ok : Str → Bool} {i j : Nat} (n : f env = none) (h : wS g env PS) : wS (mTry g f ok i j) env PS := by
  obtain ⟨r, e, h1, h2⟩ := h
  exact ⟨r, e, by unfold mTry; rw [n]; exact h1, h2⟩
theorem wE_xnone {i : Nat} {b : Bool} : wE (mXNone i b) env PE ↔ (∃ x, env[i]? = some (.xt (.exn x)) ∧ PE (.d (.bool b)) env) ∨ (env[i]? = some (.dt .none) ∧ PE (.d (.bool (!b))) env) := by
  unfold wE mXNone
  constructor
  · rintro ⟨r, e, h, p⟩
    split at h
    · rename_i x hx; cases h; exact .inl ⟨x, hx, p⟩
    · rename_i hx; cases h; exact .inr ⟨hx, p⟩
    · cases h
  · rintro (⟨x, h, p⟩ | ⟨h, p⟩)
    · exact ⟨_, _, by rw [h], p⟩
    · exact ⟨_, _, by rw [h], p⟩
theorem wE_xfld {i : Nat} {cs : List Str} {f : Str} : wE (mXFld i cs f) env PE ↔ ∃ x d, env[i]? = some (.xt (.exn x)) ∧ x.c ∈ cs ∧ x.fs.lookup f = some d ∧ PE (.d d) env := by
  unfold wE mXFld
  constructor
  · rintro ⟨r, e, h, p⟩
    split at h
    · rename_i x hx
      split at h
      · split at h
        · cases h; exact ⟨x, _, hx, by assumption, by assumption, p⟩
        · cases h
      · cases h
    · cases h
  · rintro ⟨x, d, h, h1, h2, p⟩
    exact ⟨_, _, by rw [h]; dsimp only; rw [if_pos h1, h2], p⟩
theorem wE_xis {i : Nat} {tb : List (Str × Bool)} : wE (mXIs i tb) env PE ↔ ∃ x b, env[i]? = some (.xt (.exn x)) ∧ tb.lookup x.c = some b ∧ PE (.d (.bool b)) env := by
  unfold wE mXIs
  constructor
  · rintro ⟨r, e, h, p⟩
    split at h
    · rename_i x hx
      split at h
      · cases h; exact ⟨x, _, hx, by assumption, p⟩
      · cases h
    · cases h
  · rintro ⟨x, b, h, h2, p⟩
    exact ⟨_, _, by rw [h]; dsimp only; rw [h2], p⟩
end
/-! for the printed text -/
section
variable {K : Fr} {c C : Addr} {cls t : Value} {b d : Bool} {r : List Value}
theorem kit1_ref (hs : PySem.W.subIn K (.ref c) (.ref c) = some true) (hd : PySem.W.hasDictIn K C = true) (ht : PySem.W.typeIn K (.ref C) = some (.type "type")) (h : PySem.W.subIn K (.ref c) (.ref C) = some b) : PySem.W.kitOne K (.ref c) (.ref C) = some b := by
  obtain ⟨cd, hc, _⟩ := PySem.W.any_some hd
  unfold PySem.W.kitOne
  split
  · rename_i e
    have e := beq_iff_eq.mp e
    rw [← e, hs] at h
    exact h
  · show (if ((PySem.W.clsIn K C).isSome && PySem.W.typeIn K (.ref C) == some (.type "type")) = true then _ else _) = _
    rw [if_pos (by rw [hc, ht] <;> rfl)]
    exact h
theorem kit1_ty {T : String} (hm : PySem.W.kitMeta T = true) (h : PySem.W.subIn K (.ref c) (.type T) = some b) : PySem.W.kitOne K (.ref c) (.type T) = some b := by
  show (if (Value.ref c == Value.type T) = true then some true else (if PySem.W.kitMeta T = true then _ else _)) = _
  rw [if_neg (by simp), if_pos hm]
  exact h
theorem kitA_t (h : PySem.W.kitOne K t cls = some true) : PySem.W.kitAny K t (cls :: r) = some true := by
  unfold PySem.W.kitAny; rw [h]
theorem kitA_f (h : PySem.W.kitOne K t cls = some false) (g : PySem.W.kitAny K t r = some b) : PySem.W.kitAny K t (cls :: r) = some b := by
  unfold PySem.W.kitAny; rw [h]; exact g
theorem exm1_ref (hb : PySem.W.subIn K (.ref C) (.type "BaseException") = some true) (hd : PySem.W.hasDictIn K C = true) (ht : PySem.W.typeIn K (.ref C) = some (.type "type")) (h : PySem.W.subIn K cls (.ref C) = some b) : PySem.W.exmOne K cls (.ref C) = some b := by
  obtain ⟨cd, hc, _⟩ := PySem.W.any_some hd
  unfold PySem.W.exmOne
  rw [if_pos (by rw [hb] <;> rfl)]
  show (if ((PySem.W.clsIn K C).isSome && PySem.W.typeIn K (.ref C) == some (.type "type")) = true then _ else _) = _
  rw [if_pos (by rw [hc, ht] <;> rfl)]
  exact h
theorem exmA_cons (h : PySem.W.exmOne K cls t = some b) (g : PySem.W.exmAny K cls r = some d) : PySem.W.exmAny K cls (t :: r) = some (b || d) := by
  unfold PySem.W.exmAny; rw [h, g]
end
def inCs (cs : List Str) (c : Str) : Bool := cs.contains c
theorem allc_nil {α : Type} {P : α → Prop} : ∀ c, c ∈ ([] : List α) → P c := fun _ h => nomatch h
theorem allc_cons {α : Type} {P : α → Prop} {a : α} {l : List α} (h : P a) (t : ∀ c, c ∈ l → P c) : ∀ c, c ∈ a :: l → P c := fun c hc => by
  rcases List.mem_cons.mp hc with rfl | hc
  · exact h
  · exact t c hc
theorem alld {P : Str → Bool → Prop} {l : List (Str × Bool)} (h : ∀ p, p ∈ l → P p.1 p.2) : ∀ c b, (c, b) ∈ l → P c b := fun c b hm => h (c, b) hm
theorem lk_hd {β : Type} {c : Str} {b : β} {l : List (Str × β)} : List.lookup c ((c, b) :: l) = some b := by rw [List.lookup_cons, beq_self_eq_true]
theorem inCs_hd {c : Str} {l : List Str} : inCs (c :: l) c = true := by unfold inCs; simp
theorem mem_hd {c : Str} {l : List Str} : c ∈ c :: l ↔ True := by simp
def clsV : V → Option Value
  | .ref a => some (.ref a)
  | .ty n => some (.type n)
  | _ => none
theorem vals_cls : ∀ {ys : List V} {cvs : List Value}, ys.map clsV = cvs.map some → ∀ us, Vals ys us → us = cvs
  | [], [], _, _, .nil => rfl
  | [], _ :: _, h, _, _ => by cases h
  | _ :: _, [], h, _, _ => by cases h
  | y :: ys, c :: cvs, h, _, .cons r t => by
    rw [List.map_cons, List.map_cons] at h
    injection h with h1 h2
    rw [vals_cls h2 _ t]
    congr 1
    cases y <;> cases h1 <;> exact r
section
variable {X : Cx}
theorem tests_of {cs : List Str} {te : Expr} (h : ∀ c, c ∈ cs → ∃ C, PySem.W.nsIn X.K mainGlobals c = some (some (.ref C)) ∧ TestOk X (.ref C) te) : ∀ c C, inCs cs c = true → PySem.W.nsIn X.K mainGlobals c = some (some (.ref C)) → TestOk X (.ref C) te := fun c C hc hn => by
  obtain ⟨C1, h1, h2⟩ := h c (by unfold inCs at hc; simpa using hc)
  rw [hn] at h1
  cases h1
  exact h2
theorem st_xisN {i : Nat} {x : Str} {p2 pos pos' : Pos} {j} (h : PE X (.Name x p2) (tVar i)) : ST X (.Compare (.Name x p2) [.Is] [.Constant .none j pos'] pos) (tBool (mXNone i false)) := PT.imp (pt_cmp (pc_isN h)) fun σ H Q q => by
  obtain ⟨C, env, O, b, env', R, e, q⟩ := q
  unfold tBool at e
  split at e
  · rename_i b1 e1 h1
    cases e
    obtain ⟨v, g1, rfl, g2⟩ := tx_xnone R h1
    cases g2
    refine ⟨v, g1, _, rfl, ?_⟩
    rw [Bool.bne_false] at q
    exact q H O R
  · cases e
theorem st_xnotN {i : Nat} {x : Str} {p2 pos pos' : Pos} {j} (h : PE X (.Name x p2) (tVar i)) : ST X (.Compare (.Name x p2) [.IsNot] [.Constant .none j pos'] pos) (tBool (mXNone i true)) := PT.imp (pt_cmp (pc_notN h)) fun σ H Q q => by
  obtain ⟨C, env, O, b, env', R, e, q⟩ := q
  unfold tBool at e
  split at e
  · rename_i b1 e1 h1
    cases e
    obtain ⟨v, g1, rfl, g2⟩ := tx_xnone R h1
    cases g2
    refine ⟨v, g1, _, rfl, ?_⟩
    rw [Bool.bne_true] at q
    exact q H O R
  · cases e
theorem xe_imp {e : Expr} {W : WX} {f : FX} {t : TE} (h : PE X e t) (i : ∀ σ H Q, txOf X.K W f σ H → t σ H Q) : XE1 X W e f := PE.imp h i
theorem xs_imp {s : Stmt} {W : WX} {f : FX} {t : TS} (h : PS X s t) (i : ∀ D σ H, txOf X.K W f σ H → t D σ H) : XS1 X W s f := PS.imp h i
end
end Mir

set_option maxHeartbeats 2000000
namespace LW
open PySem Mir
/-! ### the defs as functions of data -/
noncomputable def B_steepest : FS := mRet (m2 maxDef (mLc (mZip2 (mCons (mVar 0) (mCons (mSl (mVar 0) (fPart (mC (.int 1))) (fNo)) (mNil)))) [1, 2] (uTup 2 (uCons (uName 1) (uCons (uName 2) (uNil)))) (tYes') (mA (f1 absD) (mCons (m2 subD (mVar 1) (mVar 2)) (mNil)))) (mC (.int 0)))
noncomputable def Z_steepest : List D → Option Rv := runP 1 3 B_steepest
theorem zl_steepest : ∀ ds r, Z_steepest ds = some r → ds.length = 1 := runP_len
noncomputable def B_sand : FS := mRet (mA (f1 sumTD) (mCons (mVar 0) (mNil)))
noncomputable def Z_sand : List D → Option Rv := runP 1 1 B_sand
theorem zl_sand : ∀ ds r, Z_sand ds = some r → ds.length = 1 := runP_len
noncomputable def B_raised : FS := mRet (mA (f1 tupleD) (mCons (mLc (mSeqIt (mVar 0)) [2] (uName 2) (tYes') (m2 addD (mVar 2) (mVar 1))) (mNil)))
noncomputable def Z_raised : List D → Option Rv := runP 2 3 B_raised
theorem zl_raised : ∀ ds r, Z_raised ds = some r → ds.length = 2 := runP_len
noncomputable def B_mirrored : FS := mRet (m1 revAD (mVar 0))
noncomputable def Z_mirrored : List D → Option Rv := runP 1 1 B_mirrored
theorem zl_mirrored : ∀ ds r, Z_mirrored ds = some r → ds.length = 1 := runP_len
noncomputable def B_upside : FS := mRet (mA (f1 tupleD) (mCons (mLc (mSeqIt (mVar 0)) [1] (uName 1) (tYes') (m1 negD (mVar 1))) (mNil)))
noncomputable def Z_upside : List D → Option Rv := runP 1 2 B_upside
theorem zl_upside : ∀ ds r, Z_upside ds = some r → ds.length = 1 := runP_len
noncomputable def B_look_post : FS := mIfS (tNot' (tBool (mChain leD ltD (mC (.int 0)) (mVar 1) (mA (f1 lenD) (mCons (mVar 0) (mNil)))))) ((fun _ => none)) (mNx)
noncomputable def Z_look_post : List D → Option Rv := runP 2 2 B_look_post
theorem zl_look_post : ∀ ds r, Z_look_post ds = some r → ds.length = 2 := runP_len
noncomputable def X_look_post : FX := xIf (tNot' (tBool (mChain leD ltD (mC (.int 0)) (mVar 1) (mA (f1 lenD) (mCons (mVar 0) (mNil)))))) (xRaise "NoPost" "post" (mVar 1)) (xNo)
noncomputable def R_look_post : List D → Option Exn := runX 2 2 X_look_post
theorem xl_look_post : ∀ ds r, R_look_post ds = some r → ds.length = 2 := runX_len
noncomputable def B_handed : FS := mSeq (mDrop (mA Z_look_post (mCons (mVar 0) (mCons (mVar 1) (mNil))))) (
    mRet (mA (f1 tupleD) (mCons (mLc (mEnum (mCons (mVar 0) (mNil))) [3, 4] (uTup 2 (uCons (uName 3) (uCons (uName 4) (uNil)))) (tYes') (mIf (tBool (m2 eqD (mVar 3) (mVar 1))) (m2 addD (mVar 4) (mVar 2)) (mVar 4))) (mNil))))
noncomputable def Z_handed : List D → Option Rv := runP 3 5 B_handed
theorem zl_handed : ∀ ds r, Z_handed ds = some r → ds.length = 3 := runP_len
noncomputable def X_handed : FX := xCall R_look_post (mCons (mVar 0) (mCons (mVar 1) (mNil)))
noncomputable def R_handed : List D → Option Exn := runX 3 5 X_handed
theorem xl_handed : ∀ ds r, R_handed ds = some r → ds.length = 3 := runX_len
noncomputable def B_l_cell_at : FS := mSeq (mIfS (tBool (m2 ltD (mVar 1) (mA (f1 lenD) (mCons (mVar 0) (mNil))))) (mRet (m2 ixD (mVar 0) (mVar 1))) (mNx)) (
    mRet (mC (.int 0)))
noncomputable def Z_l_cell_at : List D → Option Rv := runP 2 2 B_l_cell_at
theorem zl_l_cell_at : ∀ ds r, Z_l_cell_at ds = some r → ds.length = 2 := runP_len
noncomputable def B_l_box : FS := mSeq (mSet 2 (mA Z_l_cell_at (mCons (mVar 0) (mCons (mVar 1) (mNil))))) (
    mRet (mA dLst (mCons (m2 mulD (mA (f1 absD) (mCons (mVar 2) (mNil))) (mA (f1 intD) (mCons (m2 geD (mA (f1 absD) (mCons (mVar 2) (mNil))) (m2 powD (mC (.int 10)) (mC (.int 18)))) (mNil)))) (mCons (m2 addD (m2 addD (m2 modD (mVar 2) (mC (.int 2305843009213693951))) (m2 mulD (mC (.int 39373)) (mVar 1))) (mC (.int 17))) (mCons (mC (.int 0)) (mNil))))))
noncomputable def Z_l_box : List D → Option Rv := runP 2 3 B_l_box
theorem zl_l_box : ∀ ds r, Z_l_box ds = some r → ds.length = 2 := runP_len
noncomputable def B_l_take (Zn : ZB) : FS := mSeq (mIfS (tBool (m2 gtD (mOwnIx 0 (mC (.int 0))) (mC (.int 0)))) (mSeq (mSet 4 (m2 modD (mOwnIx 0 (mC (.int 0))) (mVar 1))) (
    mSeq (mPutIx 0 (m2 fdivD (mOwnIx 0 (mC (.int 0))) (mVar 1)) (mC (.int 0))) (
    mRet (mVar 4)))) (mNx)) (
    mSeq (mIfS (tBool (m2 gtD (mVar 1) (m2 powD (mC (.int 10)) (mC (.int 7))))) (mRet (m2 modD (m2 addD (mBox 0 (Zn) (mCons (m2 powD (mC (.int 10)) (mC (.int 7))) (mNil))) (m2 mulD (m2 powD (mC (.int 10)) (mC (.int 7))) (mBox 0 (Zn) (mCons (m2 addD (m2 fdivD (m2 subD (mVar 1) (mC (.int 1))) (m2 powD (mC (.int 10)) (mC (.int 7)))) (mC (.int 1))) (mNil))))) (mVar 1))) (mNx)) (
    mSeq (mPutIx 0 (m2 addD (mOwnIx 0 (mC (.int 2))) (mC (.int 1))) (mC (.int 2))) (
    mSeq (mSet 2 (m2 modD (m2 mulD (m2 addD (mOwnIx 0 (mC (.int 1))) (m2 mulD (mC (.int 48271)) (mOwnIx 0 (mC (.int 2))))) (m2 addD (mC (.int 39373)) (mOwnIx 0 (mC (.int 2))))) (mC (.int 2147483647)))) (
    mSeq (mSet 3 (m2 modD (m2 mulD (m2 addD (m2 addD (mVar 2) (mOwnIx 0 (mC (.int 2)))) (m2 fdivD (mOwnIx 0 (mC (.int 1))) (mC (.int 1000003)))) (m2 addD (m2 modD (mVar 2) (mC (.int 40009))) (mC (.int 7)))) (mC (.int 2147483629)))) (
    mRet (m2 modD (m2 fdivD (m2 modD (m2 addD (m2 mulD (mVar 3) (mC (.int 48271))) (mVar 2)) (mC (.int 2147483587))) (mC (.int 64))) (mVar 1)))))))
noncomputable def Z_l_take : Nat → ZB
  | 0 => (fun _ _ => none)
  | n + 1 => runB 2 5 (B_l_take (Z_l_take n))
theorem zl_l_take : ∀ {n : Nat} xs ds r, Z_l_take n xs ds = some r → ds.length + 1 = 2
  | 0, _, _, _, h => nomatch h
  | _ + 1, _, _, _, h => runB_len _ _ _ h
noncomputable def B_l_same (Zn : List D → Option Rv) : FS := mSeq (mIfS (tBool (mIsa isLT (mVar 1))) (mSeq (mIfS (tOr' (tBool (m2 neD (mIsa PyData.isList (mVar 0)) (mIsa PyData.isList (mVar 1)))) (tBool (m2 neD (mIsa PyData.isTuple (mVar 0)) (mIsa PyData.isTuple (mVar 1))))) (mRet (mC (.bool false))) (mNx)) (
    mRet (mAnd (m2 eqD (mA (f1 lenD) (mCons (mVar 0) (mNil))) (mA (f1 lenD) (mCons (mVar 1) (mNil)))) (mA (f1 allD) (mCons (mLc (mZip2 (mCons (mVar 0) (mCons (mVar 1) (mNil)))) [2, 3] (uTup 2 (uCons (uName 2) (uCons (uName 3) (uNil)))) (tYes') (mA (Zn) (mCons (mVar 2) (mCons (mVar 3) (mNil))))) (mNil)))))) (mNx)) (
    mSeq (mIfS (tOr' (tBool (m2 isD (mVar 1) (mC .none))) (tBool (mIsa isBS (mVar 1)))) (mRet (mAnd (m2 eqD (mVar 0) (mVar 1)) (mAnd (m2 eqD (mIsa PyData.isBool (mVar 0)) (mIsa PyData.isBool (mVar 1))) (m2 eqD (m2 isD (mVar 0) (mC .none)) (m2 isD (mVar 1) (mC .none)))))) (mNx)) (
    mRet (mAnd (mIsa PyData.isInt (mVar 0)) (mAnd (mNot (mIsa PyData.isBool (mVar 0))) (m2 eqD (mVar 0) (mVar 1))))))
noncomputable def Z_l_same : Nat → List D → Option Rv
  | 0 => (fun _ => none)
  | n + 1 => runP 2 4 (B_l_same (Z_l_same n))
theorem zl_l_same : ∀ {n : Nat} ds r, Z_l_same n ds = some r → ds.length = 2
  | 0, _, _, h => nomatch h
  | _ + 1, _, _, h => runP_len _ _ h
noncomputable def B_l_dune : FS := mSeq (mPar [(4, false, m2 addD (mC (.int 1)) (mBox 0 (Z_l_take 3) (mCons (mVar 1) (mNil)))), (5, false, m2 ixD (mA dLst (mCons (mC (.int 2)) (mCons (mC (.int 12)) (mCons (mC (.int 60)) (mCons (m2 powD (mC (.int 10)) (mC (.int 9))) (mNil)))))) (mBox 0 (Z_l_take 3) (mCons (mC (.int 4)) (mNil))))]) (
    mSeq (mOwn 2 (mA dLst (mNil))) (
    mSeq (mFor (mRange1 (mCons (mVar 4) (mNil))) (uName 3) (mDrop (mApp 2 (m2 ixD (mA dLst (mCons (mC (.int 0)) (mCons (mVar 5) (mCons (m2 subD (mBox 0 (Z_l_take 3) (mCons (m2 addD (m2 mulD (mC (.int 2)) (mVar 5)) (mC (.int 1))) (mNil))) (mVar 5)) (mCons (mBox 0 (Z_l_take 3) (mCons (m2 addD (mVar 5) (mC (.int 1))) (mNil))) (mNil)))))) (mBox 0 (Z_l_take 3) (mCons (mC (.int 4)) (mNil))))))) (
    mFrz 2 (mRet (mA (f1 tupleD) (mCons (mVar 2) (mNil)))))))
noncomputable def Z_l_dune : ZB := runB 2 6 B_l_dune
theorem zl_l_dune : ∀ xs ds r, Z_l_dune xs ds = some r → ds.length + 1 = 2 := runB_len
noncomputable def B_l_steep : FS := mRet (mA (f1 maxD1) (mCons (m2 addD (mLc (mZip2 (mCons (mVar 0) (mCons (mSl (mVar 0) (fPart (mC (.int 1))) (fNo)) (mNil)))) [1, 2] (uTup 2 (uCons (uName 1) (uCons (uName 2) (uNil)))) (tYes') (mA (f1 absD) (mCons (m2 subD (mVar 1) (mVar 2)) (mNil)))) (mA dLst (mCons (mC (.int 0)) (mNil)))) (mNil)))
noncomputable def Z_l_steep : List D → Option Rv := runP 1 3 B_l_steep
theorem zl_l_steep : ∀ ds r, Z_l_steep ds = some r → ds.length = 1 := runP_len
noncomputable def B_l_refused : FS := mSeq (mSet 2 (mC .none)) (
    mSeq (mTry (mDrop (mA Z_handed (mCons (mVar 0) (mCons (mVar 1) (mCons (mC (.int 1)) (mNil)))))) (xCall R_handed (mCons (mVar 0) (mCons (mVar 1) (mCons (mC (.int 1)) (mNil))))) (inCs ["NoPost"]) 3 2) (
    mSeq (mIfS (tOr' (tBool (mXNone 2 false)) (tOr' (tBool (mXIs 2 [("NoPost", false)])) (tNot' (tBool (mXIs 2 [("NoPost", true)]))))) (mRet (mC (.bool false))) (mNx)) (
    mRet (mA (Z_l_same 12) (mCons (mXFld 2 ["NoPost"] "post") (mCons (mVar 1) (mNil)))))))
noncomputable def Z_l_refused : List D → Option Rv := runP 2 4 B_l_refused
theorem zl_l_refused : ∀ ds r, Z_l_refused ds = some r → ds.length = 2 := runP_len
noncomputable def T_law_1 : FS := mGuard (tNot' (tBool (mA (f1 allD) (mCons (mLc (mSeqIt (mA dTup (mCons (m1 negD (mC (.int 1))) (mCons (mA (f1 lenD) (mCons (mVar 7) (mNil))) (mCons (m2 powD (mC (.int 10)) (mC (.int 20))) (mCons (m1 negD (mA (f1 lenD) (mCons (mVar 7) (mNil)))) (mNil))))))) [12] (uName 12) (tYes') (mA Z_l_refused (mCons (mVar 7) (mCons (mVar 12) (mNil))))) (mNil))))) (.bool false) mNx
noncomputable def T_law_2 : FS := mGuard (tNot' (tBool (mA (Z_l_same 12) (mCons (mVar 3) (mCons (mA dLst (mCons (mVar 6) (mCons (mVar 6) (mCons (mVar 7) (mNil))))) (mNil)))))) (.bool false) (
    T_law_1)
noncomputable def T_law_3 : FS := mSeq (mSet 3 (mA dLst (mCons (mA Z_handed (mCons (mVar 9) (mCons (mVar 10) (mCons (mVar 8) (mNil))))) (mCons (mA (zRev Z_handed) (mCons (mVar 8) (mCons (mVar 10) (mCons (mVar 7) (mNil))))) (mCons (mA Z_handed (mCons (mVar 6) (mCons (mVar 10) (mCons (m1 negD (mVar 8)) (mNil))))) (mNil)))))) (
    T_law_2)
noncomputable def T_law_4 : FS := mSeq (mSet 6 (m2 addD (m2 addD (mSl (mVar 7) (fNo) (fPart (mVar 10))) (mA dTup (mCons (m2 addD (m2 ixD (mVar 7) (mVar 10)) (mVar 8)) (mNil)))) (mSl (mVar 7) (fPart (m2 addD (mVar 10) (mC (.int 1)))) (fNo)))) (
    T_law_3)
noncomputable def T_law_5 : FS := mGuard (tOr' (tNot' (tBool (mA (Z_l_same 12) (mCons (mVar 3) (mCons (mA dLst (mCons (m1 revSD (mVar 7)) (mCons (m1 revSD (mVar 7)) (mCons (mVar 5) (mCons (mVar 5) (mCons (mVar 7) (mNil))))))) (mNil)))))) (tBool (m2 neD (mVar 9) (mA (f1 listD) (mCons (mVar 7) (mNil)))))) (.bool false) (
    T_law_4)
noncomputable def T_law_6 : FS := mSeq (mSet 5 (mA (f1 tupleD) (mCons (mLc (mSeqIt (mVar 7)) [11] (uName 11) (tYes') (m1 negD (mVar 11))) (mNil)))) (
    T_law_5)
noncomputable def T_law_7 : FS := mSeq (mSet 3 (mA dLst (mCons (mA Z_mirrored (mCons (mVar 9) (mNil))) (mCons (mA (zRev Z_mirrored) (mCons (mVar 7) (mNil))) (mCons (mA Z_upside (mCons (mVar 9) (mNil))) (mCons (mA (zRev Z_upside) (mCons (mVar 7) (mNil))) (mCons (mA Z_upside (mCons (mA Z_upside (mCons (mVar 7) (mNil))) (mNil))) (mNil)))))))) (
    T_law_6)
noncomputable def T_law_8 : FS := mGuard (tNot' (tBool (mA (Z_l_same 12) (mCons (mVar 3) (mCons (mA dLst (mCons (mVar 4) (mCons (mVar 4) (mCons (mVar 7) (mNil))))) (mNil)))))) (.bool false) (
    T_law_7)
noncomputable def T_law_9 : FS := mSeq (mSet 3 (mA dLst (mCons (mA Z_raised (mCons (mVar 9) (mCons (mVar 8) (mNil)))) (mCons (mA (zRev Z_raised) (mCons (mVar 8) (mCons (mVar 7) (mNil)))) (mCons (mA Z_raised (mCons (mVar 4) (mCons (m1 negD (mVar 8)) (mNil)))) (mNil)))))) (
    T_law_8)
noncomputable def T_law_10 : FS := mSeq (mSet 4 (mA (f1 tupleD) (mCons (mLc (mSeqIt (mVar 7)) [11] (uName 11) (tYes') (m2 addD (mVar 11) (mVar 8))) (mNil)))) (
    T_law_9)
noncomputable def T_law_11 : FS := mGuard (tNot' (tBool (mA (Z_l_same 12) (mCons (mVar 3) (mCons (m2 addD (m2 mulD (mA dLst (mCons (mA Z_l_steep (mCons (mVar 7) (mNil))) (mNil))) (mC (.int 2))) (m2 mulD (mA dLst (mCons (mA (f1 sumTD) (mCons (mVar 7) (mNil))) (mNil))) (mC (.int 2)))) (mNil)))))) (.bool false) (
    T_law_10)
noncomputable def T_law_12 : FS := mSeq (mSet 3 (mA dLst (mCons (mA Z_steepest (mCons (mVar 7) (mNil))) (mCons (mA (zRev Z_steepest) (mCons (mVar 9) (mNil))) (mCons (mA Z_sand (mCons (mVar 9) (mNil))) (mCons (mA (zRev Z_sand) (mCons (mVar 7) (mNil))) (mNil))))))) (
    T_law_11)
noncomputable def T_law_13 : FS := mSeq (mPar [(9, false, mA (f1 listD) (mCons (mVar 7) (mNil))), (10, false, mBox 2 (Z_l_take 3) (mCons (mA (f1 lenD) (mCons (mVar 7) (mNil))) (mNil)))]) (
    T_law_12)
noncomputable def T_law_14 : FS := mSeq (mPar [(7, false, mBox 2 Z_l_dune (mCons (mC (.int 40)) (mNil))), (8, false, m2 subD (mBox 2 (Z_l_take 3) (mCons (mC (.int 2001)) (mNil))) (mC (.int 1000)))]) (
    T_law_13)
noncomputable def T_law_15 : FS := mSeq (mOwn 2 (mA Z_l_box (mCons (mVar 0) (mCons (mVar 1) (mNil))))) (
    T_law_14)
noncomputable def T_law_16 : FS := mRet (mC (.bool true))
noncomputable def B_law : FS := mSeq (mFor (mRange1 (mCons (m2 addD (mC (.int 1)) (mA (f2 min2D) (mCons (mC (.int 2)) (mCons (mA (f1 lenD) (mCons (mVar 0) (mNil))) (mNil))))) (mNil))) (uName 1) (T_law_15)) (
    T_law_16)
noncomputable def Z_law : List D → Option Rv := runP 1 13 B_law
theorem zl_law : ∀ ds r, Z_law ds = some r → ds.length = 1 := runP_len
end LW

namespace LW
open PySem Mir L2
theorem sz3 : 3 ≤ sizeLine := by decide
theorem cell_ok (ns : List Int) (k : Int) (h0 : 0 ≤ k) : wR (Z_l_cell_at [.list (ns.map .int), .int k]) fun r => ∃ c : Int, r = .d (.int c) := by
  unfold Z_l_cell_at
  refine wR_run rfl ?_
  show wS _ [.dt _, .dt _] _
  unfold B_l_cell_at
  simp only [wE_var, wE_c, wE_1, wE_2, wA_nil, wA_cons, wE_A, wT_bool, wT_yes, wT_not, wT_and, wT_or, wE_ofT, wE_if, wE_chain, wO_no, wO_part, wE_sl, wE_isa, wE_ownLen, wE_ownIx, wE_app, wE_ext, wE_ins, wE_rg1, wE_rg2, wE_rev, wE_popAt, wE_pop, wS_putIx, wE_box, wE_boxNew, wS_seq, wS_nx, wS_ct, wS_bk, wS_set, wS_own, wS_ret, wS_drop, wS_if, wS_retO, wS_frz, wS_asg, wU_name, wUs_nil, wUs_cons, wU_tup2, wU_tup3, wPar_nil, wPar_cons, wS_par, wS_aug, wA_zip2, wA_zip3, wA_zipS, wA_seqIt, wA_range1, wA_range2, wA_enum, wS_for, seqK, lpK, rtK, rbK, wR_some, wB_some, wR_ite, mAnd, mOr, mNot, toD_d, toD_l, f1_one, f2_two, add_i, add_l, add_t, iadd_i, sub_i, mul_i, mul_l, mod_i, fdiv_w, fdOk_2, fdOk_64, fdOk_7, fdOk_m, na10, na2, at3_0, at3_1, at3_2, at2_0, at2_1, Mir.atI_last, ix3_0, ix3_1, ix3_2, pow_i, neg_i, len_l, len_t, abs_i, max2_i, min2_i, int_i, int_b, list_l, list_t, tuple_l, tuple_t, lt_i, le_i, gt_i, ge_i, eq_i, ne_i, eq_b, ne_b, eq_s, ne_s, sl_l, sl_t, src_l, src_t, revL_l, revT_l, slot_f, slot_l, wS_new, ix_l, ix_t, all_b, any_b, sum_l, dLst, dTup, setAll, ownAt, putOwn, frzE, boAt, wipeE, cut_map, cut_from1, cut_to1, List.getElem?_cons_zero, List.getElem?_cons_succ, List.set_cons_zero, List.set_cons_succ, Option.some.injEq, Sl.dt.injEq, Sl.ow.injEq, Sl.bo.injEq, Rv.d.injEq, Rv.l.injEq, PyData.int.injEq, PyData.bool.injEq, PyData.str.injEq, PyData.list.injEq, PyData.tuple.injEq, List.cons.injEq, exists_eq_left', exists_eq_left, exists_eq_right', exists_eq, exists_eq', exists_and_left, exists_const, and_true, true_and, and_assoc, Int.reduceLT, Int.reduceLE, Int.reducePow, Int.reduceToNat, Int.reduceNeg, Int.reduceMul, Int.reduceAdd, Int.reduceSub, Nat.reduceLT, Nat.reduceLeDiff, Nat.reducePow, Nat.reduceAdd, List.length_cons, List.length_nil, List.length_map, forall_const, decide_true, decide_false, Bool.not_true, Bool.not_false, Bool.false_eq_true, Bool.true_eq_false, false_implies, true_implies, reduceCtorEq, eq_self, eq_tI, ne_tI, eq_lI, ne_lI, all_T, wU_lst2, wU_lst3, sz_0, sz_1, sz_2, sz_3, sz_4, sz_5, sz_6, sz_7, sz_8, implies_true, revA_l, revA_t, isB_b, isntB_b, zRev_1, zRev_2, zRev_3, zRev_4, zRev_5, revS_l, revS_t, sumT_l, sumT_t, xW_seq, xW_if, xW_arg, xW_call, xW_raise, xW_raise0, xK, wE_xnone, wE_xfld, wE_xis, Sl.xt.injEq, Xt.exn.injEq, or_false, false_or, lk_hd, inCs_hd, mem_hd, false_and, and_false]
  refine fun h => ?_
  obtain ⟨x, h1, _⟩ := atI_nat (xs := ns) h0 (of_decide_eq_true h)
  exact ⟨_, by rw [atI_map, h1]; rfl, _, rfl⟩
theorem box_ok (ns : List Int) (k : Int) (h0 : 0 ≤ k) (h1 : k < 1000) : wR (Z_l_box [.list (ns.map .int), .int k]) fun r => ∃ a b : Int, r = .l [.int a, .int b, .int 0] ∧ 0 ≤ a ∧ 0 ≤ b ∧ b < 2 ^ 62 := by
  unfold Z_l_box
  refine wR_run rfl ?_
  show wS _ [.dt _, .dt _, .un] _
  unfold B_l_box
  simp only [wE_var, wE_c, wE_1, wE_2, wA_nil, wA_cons, wE_A, wT_bool, wT_yes, wT_not, wT_and, wT_or, wE_ofT, wE_if, wE_chain, wO_no, wO_part, wE_sl, wE_isa, wE_ownLen, wE_ownIx, wE_app, wE_ext, wE_ins, wE_rg1, wE_rg2, wE_rev, wE_popAt, wE_pop, wS_putIx, wE_box, wE_boxNew, wS_seq, wS_nx, wS_ct, wS_bk, wS_set, wS_own, wS_ret, wS_drop, wS_if, wS_retO, wS_frz, wS_asg, wU_name, wUs_nil, wUs_cons, wU_tup2, wU_tup3, wPar_nil, wPar_cons, wS_par, wS_aug, wA_zip2, wA_zip3, wA_zipS, wA_seqIt, wA_range1, wA_range2, wA_enum, wS_for, seqK, lpK, rtK, rbK, wR_some, wB_some, wR_ite, mAnd, mOr, mNot, toD_d, toD_l, f1_one, f2_two, add_i, add_l, add_t, iadd_i, sub_i, mul_i, mul_l, mod_i, fdiv_w, fdOk_2, fdOk_64, fdOk_7, fdOk_m, na10, na2, at3_0, at3_1, at3_2, at2_0, at2_1, Mir.atI_last, ix3_0, ix3_1, ix3_2, pow_i, neg_i, len_l, len_t, abs_i, max2_i, min2_i, int_i, int_b, list_l, list_t, tuple_l, tuple_t, lt_i, le_i, gt_i, ge_i, eq_i, ne_i, eq_b, ne_b, eq_s, ne_s, sl_l, sl_t, src_l, src_t, revL_l, revT_l, slot_f, slot_l, wS_new, ix_l, ix_t, all_b, any_b, sum_l, dLst, dTup, setAll, ownAt, putOwn, frzE, boAt, wipeE, cut_map, cut_from1, cut_to1, List.getElem?_cons_zero, List.getElem?_cons_succ, List.set_cons_zero, List.set_cons_succ, Option.some.injEq, Sl.dt.injEq, Sl.ow.injEq, Sl.bo.injEq, Rv.d.injEq, Rv.l.injEq, PyData.int.injEq, PyData.bool.injEq, PyData.str.injEq, PyData.list.injEq, PyData.tuple.injEq, List.cons.injEq, exists_eq_left', exists_eq_left, exists_eq_right', exists_eq, exists_eq', exists_and_left, exists_const, and_true, true_and, and_assoc, Int.reduceLT, Int.reduceLE, Int.reducePow, Int.reduceToNat, Int.reduceNeg, Int.reduceMul, Int.reduceAdd, Int.reduceSub, Nat.reduceLT, Nat.reduceLeDiff, Nat.reducePow, Nat.reduceAdd, List.length_cons, List.length_nil, List.length_map, forall_const, decide_true, decide_false, Bool.not_true, Bool.not_false, Bool.false_eq_true, Bool.true_eq_false, false_implies, true_implies, reduceCtorEq, eq_self, eq_tI, ne_tI, eq_lI, ne_lI, all_T, wU_lst2, wU_lst3, sz_0, sz_1, sz_2, sz_3, sz_4, sz_5, sz_6, sz_7, sz_8, implies_true, revA_l, revA_t, isB_b, isntB_b, zRev_1, zRev_2, zRev_3, zRev_4, zRev_5, revS_l, revS_t, sumT_l, sumT_t, xW_seq, xW_if, xW_arg, xW_call, xW_raise, xW_raise0, xK, wE_xnone, wE_xfld, wE_xis, Sl.xt.injEq, Xt.exn.injEq, or_false, false_or, lk_hd, inCs_hd, mem_hd, false_and, and_false]
  refine wR_mono (cell_ok ns k h0) ?_
  rintro _ ⟨c, rfl⟩
  simp only [wE_var, wE_c, wE_1, wE_2, wA_nil, wA_cons, wE_A, wT_bool, wT_yes, wT_not, wT_and, wT_or, wE_ofT, wE_if, wE_chain, wO_no, wO_part, wE_sl, wE_isa, wE_ownLen, wE_ownIx, wE_app, wE_ext, wE_ins, wE_rg1, wE_rg2, wE_rev, wE_popAt, wE_pop, wS_putIx, wE_box, wE_boxNew, wS_seq, wS_nx, wS_ct, wS_bk, wS_set, wS_own, wS_ret, wS_drop, wS_if, wS_retO, wS_frz, wS_asg, wU_name, wUs_nil, wUs_cons, wU_tup2, wU_tup3, wPar_nil, wPar_cons, wS_par, wS_aug, wA_zip2, wA_zip3, wA_zipS, wA_seqIt, wA_range1, wA_range2, wA_enum, wS_for, seqK, lpK, rtK, rbK, wR_some, wB_some, wR_ite, mAnd, mOr, mNot, toD_d, toD_l, f1_one, f2_two, add_i, add_l, add_t, iadd_i, sub_i, mul_i, mul_l, mod_i, fdiv_w, fdOk_2, fdOk_64, fdOk_7, fdOk_m, na10, na2, at3_0, at3_1, at3_2, at2_0, at2_1, Mir.atI_last, ix3_0, ix3_1, ix3_2, pow_i, neg_i, len_l, len_t, abs_i, max2_i, min2_i, int_i, int_b, list_l, list_t, tuple_l, tuple_t, lt_i, le_i, gt_i, ge_i, eq_i, ne_i, eq_b, ne_b, eq_s, ne_s, sl_l, sl_t, src_l, src_t, revL_l, revT_l, slot_f, slot_l, wS_new, ix_l, ix_t, all_b, any_b, sum_l, dLst, dTup, setAll, ownAt, putOwn, frzE, boAt, wipeE, cut_map, cut_from1, cut_to1, List.getElem?_cons_zero, List.getElem?_cons_succ, List.set_cons_zero, List.set_cons_succ, Option.some.injEq, Sl.dt.injEq, Sl.ow.injEq, Sl.bo.injEq, Rv.d.injEq, Rv.l.injEq, PyData.int.injEq, PyData.bool.injEq, PyData.str.injEq, PyData.list.injEq, PyData.tuple.injEq, List.cons.injEq, exists_eq_left', exists_eq_left, exists_eq_right', exists_eq, exists_eq', exists_and_left, exists_const, and_true, true_and, and_assoc, Int.reduceLT, Int.reduceLE, Int.reducePow, Int.reduceToNat, Int.reduceNeg, Int.reduceMul, Int.reduceAdd, Int.reduceSub, Nat.reduceLT, Nat.reduceLeDiff, Nat.reducePow, Nat.reduceAdd, List.length_cons, List.length_nil, List.length_map, forall_const, decide_true, decide_false, Bool.not_true, Bool.not_false, Bool.false_eq_true, Bool.true_eq_false, false_implies, true_implies, reduceCtorEq, eq_self, eq_tI, ne_tI, eq_lI, ne_lI, all_T, wU_lst2, wU_lst3, sz_0, sz_1, sz_2, sz_3, sz_4, sz_5, sz_6, sz_7, sz_8, implies_true, revA_l, revA_t, isB_b, isntB_b, zRev_1, zRev_2, zRev_3, zRev_4, zRev_5, revS_l, revS_t, sumT_l, sumT_t, xW_seq, xW_if, xW_arg, xW_call, xW_raise, xW_raise0, xK, wE_xnone, wE_xfld, wE_xis, Sl.xt.injEq, Xt.exn.injEq, or_false, false_or, lk_hd, inCs_hd, mem_hd, false_and, and_false]
  have m1 : ∀ p : Prop, ∀ [Decidable p], mulOk (if c < 0 then -c else c) (if p then 1 else 0) = true := fun p _ => mulOk_r (by split <;> decide)
  have m2 : ∀ p : Prop, ∀ [Decidable p], 0 ≤ (if c < 0 then -c else c) * (if p then 1 else 0) := fun p _ => Int.mul_nonneg (by split <;> omega) (by split <;> decide)
  refine ⟨m1 _, mulOk_l (by decide), m2 _, by omega, by omega⟩
/-- a box: what is told, the seed, the count of draws -/
def Bx (N : Nat) (xs : List D) : Prop := ∃ a b c : Int, xs = [.int a, .int b, .int c] ∧ 0 ≤ a ∧ 0 ≤ b ∧ b < 2 ^ 62 ∧ 0 ≤ c ∧ c ≤ N
theorem Bx.mono {N M : Nat} {xs : List D} (h : Bx N xs) (k : N ≤ M) : Bx M xs := by
  obtain ⟨a, b, c, e, h1, h2, h3, h4, h5⟩ := h
  exact ⟨a, b, c, e, h1, h2, h3, h4, by omega⟩
theorem take1 {n N : Nat} {xs : List D} {s : Int} (h : Bx N xs) (hN : N ≤ 2 ^ 40) (s0 : 0 < s) (s1 : s ≤ 10 ^ 7) : wB (Z_l_take (n + 1) xs [.int s]) fun r ys => ∃ v : Int, r = .d (.int v) ∧ 0 ≤ v ∧ v < s ∧ Bx (N + 1) ys := by
  obtain ⟨a, b, c, rfl, ha, hb, hb2, hc, hcN⟩ := h
  rw [Z_l_take]
  refine wB_run rfl ?_
  show wS _ [.bo _, .dt _, .un, .un, .un] _
  unfold B_l_take
  simp only [wE_var, wE_c, wE_1, wE_2, wA_nil, wA_cons, wE_A, wT_bool, wT_yes, wT_not, wT_and, wT_or, wE_ofT, wE_if, wE_chain, wO_no, wO_part, wE_sl, wE_isa, wE_ownLen, wE_ownIx, wE_app, wE_ext, wE_ins, wE_rg1, wE_rg2, wE_rev, wE_popAt, wE_pop, wS_putIx, wE_box, wE_boxNew, wS_seq, wS_nx, wS_ct, wS_bk, wS_set, wS_own, wS_ret, wS_drop, wS_if, wS_retO, wS_frz, wS_asg, wU_name, wUs_nil, wUs_cons, wU_tup2, wU_tup3, wPar_nil, wPar_cons, wS_par, wS_aug, wA_zip2, wA_zip3, wA_zipS, wA_seqIt, wA_range1, wA_range2, wA_enum, wS_for, seqK, lpK, rtK, rbK, wR_some, wB_some, wR_ite, mAnd, mOr, mNot, toD_d, toD_l, f1_one, f2_two, add_i, add_l, add_t, iadd_i, sub_i, mul_i, mul_l, mod_i, fdiv_w, fdOk_2, fdOk_64, fdOk_7, fdOk_m, na10, na2, at3_0, at3_1, at3_2, at2_0, at2_1, Mir.atI_last, ix3_0, ix3_1, ix3_2, pow_i, neg_i, len_l, len_t, abs_i, max2_i, min2_i, int_i, int_b, list_l, list_t, tuple_l, tuple_t, lt_i, le_i, gt_i, ge_i, eq_i, ne_i, eq_b, ne_b, eq_s, ne_s, sl_l, sl_t, src_l, src_t, revL_l, revT_l, slot_f, slot_l, wS_new, ix_l, ix_t, all_b, any_b, sum_l, dLst, dTup, setAll, ownAt, putOwn, frzE, boAt, wipeE, cut_map, cut_from1, cut_to1, List.getElem?_cons_zero, List.getElem?_cons_succ, List.set_cons_zero, List.set_cons_succ, Option.some.injEq, Sl.dt.injEq, Sl.ow.injEq, Sl.bo.injEq, Rv.d.injEq, Rv.l.injEq, PyData.int.injEq, PyData.bool.injEq, PyData.str.injEq, PyData.list.injEq, PyData.tuple.injEq, List.cons.injEq, exists_eq_left', exists_eq_left, exists_eq_right', exists_eq, exists_eq', exists_and_left, exists_const, and_true, true_and, and_assoc, Int.reduceLT, Int.reduceLE, Int.reducePow, Int.reduceToNat, Int.reduceNeg, Int.reduceMul, Int.reduceAdd, Int.reduceSub, Nat.reduceLT, Nat.reduceLeDiff, Nat.reducePow, Nat.reduceAdd, List.length_cons, List.length_nil, List.length_map, forall_const, decide_true, decide_false, Bool.not_true, Bool.not_false, Bool.false_eq_true, Bool.true_eq_false, false_implies, true_implies, reduceCtorEq, eq_self, eq_tI, ne_tI, eq_lI, ne_lI, all_T, wU_lst2, wU_lst3, sz_0, sz_1, sz_2, sz_3, sz_4, sz_5, sz_6, sz_7, sz_8, implies_true, revA_l, revA_t, isB_b, isntB_b, zRev_1, zRev_2, zRev_3, zRev_4, zRev_5, revS_l, revS_t, sumT_l, sumT_t, xW_seq, xW_if, xW_arg, xW_call, xW_raise, xW_raise0, xK, wE_xnone, wE_xfld, wE_xis, Sl.xt.injEq, Xt.exn.injEq, or_false, false_or, lk_hd, inCs_hd, mem_hd, false_and, and_false]
  refine ⟨fun h => ?_, fun h => ⟨fun h => ?_, fun _ => ?_⟩⟩
  · have h := of_decide_eq_true h
    exact ⟨s0, s0, fdOk_of s0 (by omega), Int.emod_nonneg _ (by omega), Int.emod_lt_of_pos _ s0, _, _, _, rfl, Int.ediv_nonneg ha (by omega), hb, hb2, hc, by omega⟩
  · have h := of_decide_eq_true h
    omega
  · refine ⟨mulOk_l (by decide), mulOk_l (by omega), mulOk_r (by omega), mulOk_r (by decide), s0, Int.emod_nonneg _ (by omega), Int.emod_lt_of_pos _ s0, _, _, _, rfl, ha, hb, hb2, by omega, by omega⟩
theorem take_ok {n N : Nat} {xs : List D} {s : Int} (h : Bx N xs) (hN : N ≤ 2 ^ 39) (s0 : 0 < s) (s1 : s ≤ 10 ^ 14) : wB (Z_l_take (n + 2) xs [.int s]) fun r ys => ∃ v : Int, r = .d (.int v) ∧ 0 ≤ v ∧ v < s ∧ Bx (N + 2) ys := by
  by_cases hs : s ≤ 10 ^ 7
  · exact wB_mono (take1 h (by omega) s0 hs) fun r ys ⟨v, h1, h2, h3, h4⟩ => ⟨v, h1, h2, h3, h4.mono (by omega)⟩
  obtain ⟨a, b, c, rfl, ha, hb, hb2, hc, hcN⟩ := h
  rw [Z_l_take]
  refine wB_run rfl ?_
  show wS _ [.bo _, .dt _, .un, .un, .un] _
  unfold B_l_take
  simp only [wE_var, wE_c, wE_1, wE_2, wA_nil, wA_cons, wE_A, wT_bool, wT_yes, wT_not, wT_and, wT_or, wE_ofT, wE_if, wE_chain, wO_no, wO_part, wE_sl, wE_isa, wE_ownLen, wE_ownIx, wE_app, wE_ext, wE_ins, wE_rg1, wE_rg2, wE_rev, wE_popAt, wE_pop, wS_putIx, wE_box, wE_boxNew, wS_seq, wS_nx, wS_ct, wS_bk, wS_set, wS_own, wS_ret, wS_drop, wS_if, wS_retO, wS_frz, wS_asg, wU_name, wUs_nil, wUs_cons, wU_tup2, wU_tup3, wPar_nil, wPar_cons, wS_par, wS_aug, wA_zip2, wA_zip3, wA_zipS, wA_seqIt, wA_range1, wA_range2, wA_enum, wS_for, seqK, lpK, rtK, rbK, wR_some, wB_some, wR_ite, mAnd, mOr, mNot, toD_d, toD_l, f1_one, f2_two, add_i, add_l, add_t, iadd_i, sub_i, mul_i, mul_l, mod_i, fdiv_w, fdOk_2, fdOk_64, fdOk_7, fdOk_m, na10, na2, at3_0, at3_1, at3_2, at2_0, at2_1, Mir.atI_last, ix3_0, ix3_1, ix3_2, pow_i, neg_i, len_l, len_t, abs_i, max2_i, min2_i, int_i, int_b, list_l, list_t, tuple_l, tuple_t, lt_i, le_i, gt_i, ge_i, eq_i, ne_i, eq_b, ne_b, eq_s, ne_s, sl_l, sl_t, src_l, src_t, revL_l, revT_l, slot_f, slot_l, wS_new, ix_l, ix_t, all_b, any_b, sum_l, dLst, dTup, setAll, ownAt, putOwn, frzE, boAt, wipeE, cut_map, cut_from1, cut_to1, List.getElem?_cons_zero, List.getElem?_cons_succ, List.set_cons_zero, List.set_cons_succ, Option.some.injEq, Sl.dt.injEq, Sl.ow.injEq, Sl.bo.injEq, Rv.d.injEq, Rv.l.injEq, PyData.int.injEq, PyData.bool.injEq, PyData.str.injEq, PyData.list.injEq, PyData.tuple.injEq, List.cons.injEq, exists_eq_left', exists_eq_left, exists_eq_right', exists_eq, exists_eq', exists_and_left, exists_const, and_true, true_and, and_assoc, Int.reduceLT, Int.reduceLE, Int.reducePow, Int.reduceToNat, Int.reduceNeg, Int.reduceMul, Int.reduceAdd, Int.reduceSub, Nat.reduceLT, Nat.reduceLeDiff, Nat.reducePow, Nat.reduceAdd, List.length_cons, List.length_nil, List.length_map, forall_const, decide_true, decide_false, Bool.not_true, Bool.not_false, Bool.false_eq_true, Bool.true_eq_false, false_implies, true_implies, reduceCtorEq, eq_self, eq_tI, ne_tI, eq_lI, ne_lI, all_T, wU_lst2, wU_lst3, sz_0, sz_1, sz_2, sz_3, sz_4, sz_5, sz_6, sz_7, sz_8, implies_true, revA_l, revA_t, isB_b, isntB_b, zRev_1, zRev_2, zRev_3, zRev_4, zRev_5, revS_l, revS_t, sumT_l, sumT_t, xW_seq, xW_if, xW_arg, xW_call, xW_raise, xW_raise0, xK, wE_xnone, wE_xfld, wE_xis, Sl.xt.injEq, Xt.exn.injEq, or_false, false_or, lk_hd, inCs_hd, mem_hd, false_and, and_false]
  refine ⟨fun h => ?_, fun h => ⟨fun h => ?_, fun z => absurd (of_decide_eq_false z) (by omega)⟩⟩
  · have h := of_decide_eq_true h
    exact ⟨s0, s0, fdOk_of s0 (by omega), Int.emod_nonneg _ (by omega), Int.emod_lt_of_pos _ s0, _, _, _, rfl, Int.ediv_nonneg ha (by omega), hb, hb2, hc, by omega⟩
  · refine wB_mono (take1 (N := N) ⟨a, b, c, rfl, ha, hb, hb2, hc, hcN⟩ (by omega) (by decide) (by decide)) ?_
    rintro _ ys ⟨v, rfl, v0, v1, hy⟩
    refine wB_mono (take1 hy (by omega) (by omega) (by omega)) ?_
    rintro _ zs ⟨w, rfl, w0, w1, hz⟩
    simp only [wE_var, wE_c, wE_1, wE_2, wA_nil, wA_cons, wE_A, wT_bool, wT_yes, wT_not, wT_and, wT_or, wE_ofT, wE_if, wE_chain, wO_no, wO_part, wE_sl, wE_isa, wE_ownLen, wE_ownIx, wE_app, wE_ext, wE_ins, wE_rg1, wE_rg2, wE_rev, wE_popAt, wE_pop, wS_putIx, wE_box, wE_boxNew, wS_seq, wS_nx, wS_ct, wS_bk, wS_set, wS_own, wS_ret, wS_drop, wS_if, wS_retO, wS_frz, wS_asg, wU_name, wUs_nil, wUs_cons, wU_tup2, wU_tup3, wPar_nil, wPar_cons, wS_par, wS_aug, wA_zip2, wA_zip3, wA_zipS, wA_seqIt, wA_range1, wA_range2, wA_enum, wS_for, seqK, lpK, rtK, rbK, wR_some, wB_some, wR_ite, mAnd, mOr, mNot, toD_d, toD_l, f1_one, f2_two, add_i, add_l, add_t, iadd_i, sub_i, mul_i, mul_l, mod_i, fdiv_w, fdOk_2, fdOk_64, fdOk_7, fdOk_m, na10, na2, at3_0, at3_1, at3_2, at2_0, at2_1, Mir.atI_last, ix3_0, ix3_1, ix3_2, pow_i, neg_i, len_l, len_t, abs_i, max2_i, min2_i, int_i, int_b, list_l, list_t, tuple_l, tuple_t, lt_i, le_i, gt_i, ge_i, eq_i, ne_i, eq_b, ne_b, eq_s, ne_s, sl_l, sl_t, src_l, src_t, revL_l, revT_l, slot_f, slot_l, wS_new, ix_l, ix_t, all_b, any_b, sum_l, dLst, dTup, setAll, ownAt, putOwn, frzE, boAt, wipeE, cut_map, cut_from1, cut_to1, List.getElem?_cons_zero, List.getElem?_cons_succ, List.set_cons_zero, List.set_cons_succ, Option.some.injEq, Sl.dt.injEq, Sl.ow.injEq, Sl.bo.injEq, Rv.d.injEq, Rv.l.injEq, PyData.int.injEq, PyData.bool.injEq, PyData.str.injEq, PyData.list.injEq, PyData.tuple.injEq, List.cons.injEq, exists_eq_left', exists_eq_left, exists_eq_right', exists_eq, exists_eq', exists_and_left, exists_const, and_true, true_and, and_assoc, Int.reduceLT, Int.reduceLE, Int.reducePow, Int.reduceToNat, Int.reduceNeg, Int.reduceMul, Int.reduceAdd, Int.reduceSub, Nat.reduceLT, Nat.reduceLeDiff, Nat.reducePow, Nat.reduceAdd, List.length_cons, List.length_nil, List.length_map, forall_const, decide_true, decide_false, Bool.not_true, Bool.not_false, Bool.false_eq_true, Bool.true_eq_false, false_implies, true_implies, reduceCtorEq, eq_self, eq_tI, ne_tI, eq_lI, ne_lI, all_T, wU_lst2, wU_lst3, sz_0, sz_1, sz_2, sz_3, sz_4, sz_5, sz_6, sz_7, sz_8, implies_true, revA_l, revA_t, isB_b, isntB_b, zRev_1, zRev_2, zRev_3, zRev_4, zRev_5, revS_l, revS_t, sumT_l, sumT_t, xW_seq, xW_if, xW_arg, xW_call, xW_raise, xW_raise0, xK, wE_xnone, wE_xfld, wE_xis, Sl.xt.injEq, Xt.exn.injEq, or_false, false_or, lk_hd, inCs_hd, mem_hd, false_and, and_false]
    exact ⟨mulOk_l (by decide), s0, Int.emod_nonneg _ (by omega), Int.emod_lt_of_pos _ s0, hz⟩
end LW

namespace M8
/-- s-gentle neighbours -/
def Adj (R : Int → Int → Prop) : List Int → Prop
  | [] => True
  | [_] => True
  | x :: y :: t => R x y ∧ Adj R (y :: t)
def Le : List Int → List Int → Prop
  | [], [] => True
  | x :: xs, y :: ys => x ≤ y ∧ Le xs ys
  | _, _ => False
def cutFrom (s : Int) : Int → List Int → List Int
  | _, [] => []
  | l, h :: t => (if l + s < h then l + s else h) :: cutFrom s (if l + s < h then l + s else h) t
def cutOnce (s : Int) : List Int → List Int
  | [] => []
  | x :: t => x :: cutFrom s x t
def cutDown (s : Int) (xs : List Int) : List Int := (cutOnce s (cutOnce s xs).reverse).reverse
theorem le_len : ∀ {xs ys : List Int}, Le xs ys → xs.length = ys.length
  | [], [], _ => rfl
  | _ :: xs, _ :: ys, h => by rw [List.length_cons, List.length_cons, le_len h.2]
  | [], _ :: _, h => h.elim
  | _ :: _, [], h => h.elim
theorem le_refl : ∀ xs : List Int, Le xs xs
  | [] => trivial
  | _ :: xs => ⟨Int.le_refl _, le_refl xs⟩
theorem le_trans : ∀ {xs ys zs : List Int}, Le xs ys → Le ys zs → Le xs zs
  | [], [], [], _, _ => trivial
  | _ :: _, _ :: _, _ :: _, h, g => ⟨Int.le_trans h.1 g.1, le_trans h.2 g.2⟩
  | [], _ :: _, _, h, _ => h.elim
  | _ :: _, [], _, h, _ => h.elim
  | [], [], _ :: _, _, g => g.elim
  | _ :: _, _ :: _, [], _, g => g.elim
theorem le_anti : ∀ {xs ys : List Int}, Le xs ys → Le ys xs → xs = ys
  | [], [], _, _ => rfl
  | x :: xs, y :: ys, h, g => by rw [le_anti h.2 g.2, Int.le_antisymm h.1 g.1]
  | [], _ :: _, h, _ => h.elim
  | _ :: _, [], h, _ => h.elim
theorem le_app : ∀ {xs ys as bs : List Int}, Le xs ys → Le as bs → Le (xs ++ as) (ys ++ bs)
  | [], [], _, _, _, g => g
  | _ :: _, _ :: _, _, _, h, g => ⟨h.1, le_app h.2 g⟩
  | [], _ :: _, _, _, h, _ => h.elim
  | _ :: _, [], _, _, h, _ => h.elim
theorem le_rev : ∀ {xs ys : List Int}, Le xs ys → Le xs.reverse ys.reverse
  | [], [], _ => trivial
  | x :: xs, y :: ys, h => by
    rw [List.reverse_cons, List.reverse_cons]
    exact le_app (le_rev h.2) ⟨h.1, trivial⟩
  | [], _ :: _, h => h.elim
  | _ :: _, [], h => h.elim
theorem le_zip : ∀ {xs ys : List Int}, Le xs ys → ∀ p ∈ xs.zip ys, p.1 ≤ p.2
  | [], [], _, p, h => by simp at h
  | x :: xs, y :: ys, h, p, hp => by
    rw [List.zip_cons_cons] at hp
    rcases List.mem_cons.mp hp with rfl | hp
    · exact h.1
    · exact le_zip h.2 p hp
  | [], _ :: _, h, _, _ => h.elim
  | _ :: _, [], h, _, _ => h.elim
theorem ge_zip : ∀ {xs ys : List Int}, Le xs ys → ∀ p ∈ ys.zip xs, p.2 ≤ p.1
  | [], [], _, p, h => by simp at h
  | x :: xs, y :: ys, h, p, hp => by
    rw [List.zip_cons_cons] at hp
    rcases List.mem_cons.mp hp with rfl | hp
    · exact h.1
    · exact ge_zip h.2 p hp
  | [], _ :: _, h, _, _ => h.elim
  | _ :: _, [], h, _, _ => h.elim
theorem zip_le : ∀ {xs ys : List Int}, xs.length = ys.length → (∀ p ∈ xs.zip ys, p.1 ≤ p.2) → Le xs ys
  | [], [], _, _ => trivial
  | x :: xs, y :: ys, h, g => ⟨g (x, y) (by simp), zip_le (by simpa using h) fun p hp => g p (by simp [hp])⟩
  | [], _ :: _, h, _ => by simp at h
  | _ :: _, [], h, _ => by simp at h
theorem adj_app {R : Int → Int → Prop} : ∀ {xs : List Int} {a b : Int}, Adj R (xs ++ [a]) → R a b → Adj R (xs ++ [a] ++ [b])
  | [], a, b, _, r => ⟨r, trivial⟩
  | [x], a, b, h, r => ⟨h.1, r, trivial⟩
  | x :: y :: t, a, b, h, r => ⟨h.1, adj_app (xs := y :: t) h.2 r⟩
theorem adj_rev {R : Int → Int → Prop} : ∀ {xs : List Int}, Adj R xs → Adj (fun a b => R b a) xs.reverse
  | [], _ => trivial
  | [_], _ => trivial
  | x :: y :: t, h => by
    have ih := adj_rev h.2
    rw [List.reverse_cons] at ih
    rw [List.reverse_cons, List.reverse_cons]
    exact adj_app ih h.1
theorem adj_imp {R S : Int → Int → Prop} (i : ∀ a b, R a b → S a b) : ∀ {xs : List Int}, Adj R xs → Adj S xs
  | [], _ => trivial
  | [_], _ => trivial
  | _ :: y :: t, h => ⟨i _ _ h.1, adj_imp i (xs := y :: t) h.2⟩
theorem adj_and {R S : Int → Int → Prop} : ∀ {xs : List Int}, Adj R xs → Adj S xs → Adj (fun a b => R a b ∧ S a b) xs
  | [], _, _ => trivial
  | [_], _, _ => trivial
  | _ :: y :: t, h, g => ⟨⟨h.1, g.1⟩, adj_and (xs := y :: t) h.2 g.2⟩
theorem adj_zip {R : Int → Int → Prop} : ∀ {xs : List Int}, Adj R xs ↔ ∀ p ∈ xs.zip (xs.drop 1), R p.1 p.2
  | [] => by simp [Adj]
  | [_] => by simp [Adj]
  | x :: y :: t => by
    have ih := adj_zip (R := R) (xs := y :: t)
    simp only [List.drop_succ_cons, List.drop_zero] at ih ⊢
    rw [List.zip_cons_cons, Adj, ih]
    simp
theorem adj_map {R : Int → Int → Prop} (f : Int → Int) : ∀ {xs : List Int}, Adj (fun a b => R (f a) (f b)) xs → Adj R (xs.map f)
  | [], _ => trivial
  | [_], _ => trivial
  | _ :: y :: t, h => ⟨h.1, adj_map f (xs := y :: t) h.2⟩
abbrev up (s : Int) : Int → Int → Prop := fun a b => b ≤ a + s
abbrev dn (s : Int) : Int → Int → Prop := fun a b => a ≤ b + s
abbrev ge (s : Int) : Int → Int → Prop := fun a b => a - b ≤ s ∧ b - a ≤ s
theorem from_up {s : Int} : ∀ (t : List Int) (l : Int), Adj (up s) (l :: cutFrom s l t)
  | [], _ => trivial
  | h :: t, l => ⟨by show (if l + s < h then l + s else h) ≤ l + s; split <;> omega, from_up t _⟩
theorem from_le {s : Int} : ∀ (t : List Int) (l : Int), Le (cutFrom s l t) t
  | [], _ => trivial
  | h :: t, l => ⟨by split <;> omega, from_le t _⟩
theorem from_dn {s : Int} (hs : 0 ≤ s) : ∀ (t : List Int) (l c : Int), l ≤ c → Adj (dn s) (c :: t) → Adj (dn s) (l :: cutFrom s l t)
  | [], _, _, _, _ => trivial
  | h :: t, l, c, hl, a => ⟨by
      have := a.1
      show l ≤ (if l + s < h then l + s else h) + s
      have : c ≤ h + s := a.1
      split <;> omega, from_dn hs t _ h (by split <;> omega) a.2⟩
theorem from_best {s : Int} : ∀ (t g : List Int) (l k : Int), k ≤ l → Adj (up s) (k :: g) → Le g t → Le g (cutFrom s l t)
  | [], [], _, _, _, _, _ => trivial
  | h :: t, y :: g, l, k, hk, a, e => by
    have : y ≤ k + s := a.1
    have e1 := e.1
    have hy : y ≤ (if l + s < h then l + s else h) := by split <;> omega
    exact ⟨hy, from_best t g _ y hy a.2 e.2⟩
  | [], _ :: _, _, _, _, _, e => e.elim
  | _ :: _, [], _, _, _, _, e => e.elim
theorem once_up {s : Int} (xs : List Int) : Adj (up s) (cutOnce s xs) := by
  cases xs with
  | nil => trivial
  | cons x t => exact from_up t x
theorem once_le {s : Int} (xs : List Int) : Le (cutOnce s xs) xs := by
  cases xs with
  | nil => trivial
  | cons x t => exact ⟨Int.le_refl _, from_le t x⟩
theorem once_dn {s : Int} (hs : 0 ≤ s) {xs : List Int} (h : Adj (dn s) xs) : Adj (dn s) (cutOnce s xs) := by
  cases xs with
  | nil => trivial
  | cons x t => exact from_dn hs t x x (Int.le_refl _) h
theorem once_best {s : Int} {xs g : List Int} (a : Adj (up s) g) (e : Le g xs) : Le g (cutOnce s xs) := by
  cases xs with
  | nil => exact e
  | cons x t =>
    cases g with
    | nil => exact e.elim
    | cons y g => exact ⟨e.1, from_best t g x y e.1 a e.2⟩
theorem down_le {s : Int} (xs : List Int) : Le (cutDown s xs) xs := by
  have h := le_rev (le_trans (once_le (s := s) (cutOnce s xs).reverse) (le_rev (once_le xs)))
  rwa [List.reverse_reverse] at h
theorem down_ge {s : Int} (hs : 0 ≤ s) (xs : List Int) : Adj (ge s) (cutDown s xs) := by
  unfold cutDown
  have h1 : Adj (dn s) (cutOnce s xs).reverse := adj_imp (fun a b h => h) (adj_rev (once_up (s := s) xs))
  have h2 := adj_rev (once_dn hs h1)
  have h3 := adj_rev (once_up (s := s) (cutOnce s xs).reverse)
  exact adj_imp (fun a b h => by have h1 : b ≤ a + s := h.1; have h2 : a ≤ b + s := h.2; exact ⟨by omega, by omega⟩) (adj_and h2 h3)
theorem down_best {s : Int} {xs g : List Int} (a : Adj (ge s) g) (e : Le g xs) : Le g (cutDown s xs) := by
  have u : Adj (up s) g := adj_imp (fun a b h => by have := h.2; show b ≤ a + s; omega) a
  have d : Adj (up s) g.reverse := adj_imp (fun a b (h : ge s b a) => by have := h.1; show b ≤ a + s; omega) (adj_rev a)
  have h1 := once_best u e
  have h2 := le_rev (once_best d (le_rev h1))
  rwa [List.reverse_reverse] at h2
theorem down_len {s : Int} (xs : List Int) : (cutDown s xs).length = xs.length := le_len (down_le xs)
/-- gentle already, just where nothing is cut -/
theorem down_idle {s : Int} (hs : 0 ≤ s) (xs : List Int) : Adj (ge s) xs ↔ cutDown s xs = xs :=
  ⟨fun h => le_anti (down_le xs) (down_best h (le_refl xs)), fun h => h ▸ down_ge hs xs⟩
theorem le_const {m : Int} : ∀ {xs : List Int}, (∀ x ∈ xs, m ≤ x) → Le (List.replicate xs.length m) xs
  | [], _ => trivial
  | x :: xs, h => ⟨h x (by simp), le_const fun y hy => h y (by simp [hy])⟩
theorem adj_const {s m : Int} (hs : 0 ≤ s) : ∀ n : Nat, Adj (ge s) (List.replicate n m)
  | 0 => trivial
  | 1 => trivial
  | n + 2 => ⟨⟨by omega, by omega⟩, adj_const hs (n + 1)⟩
theorem least : ∀ {xs : List Int}, xs ≠ [] → ∃ m ∈ xs, ∀ x ∈ xs, m ≤ x
  | [x], _ => ⟨x, by simp, by simp⟩
  | x :: y :: t, _ => by
    obtain ⟨m, h1, h2⟩ := least (xs := y :: t) (by simp)
    by_cases h : x ≤ m
    · exact ⟨x, by simp, fun z hz => by
        rcases List.mem_cons.mp hz with rfl | hz
        · exact Int.le_refl _
        · have := h2 z hz; omega⟩
    · exact ⟨m, List.mem_cons_of_mem _ h1, fun z hz => by
        rcases List.mem_cons.mp hz with rfl | hz
        · omega
        · exact h2 z hz⟩
theorem touch : ∀ {n : Nat} {ys xs : List Int} {m : Int}, Le (List.replicate n m) ys → Le ys xs → m ∈ xs → ∃ p ∈ ys.zip xs, p.1 = m ∧ p.2 = m
  | 0, [], [], _, _, _, h => by simp at h
  | n + 1, y :: ys, x :: xs, m, h1, h2, h => by
    rcases List.mem_cons.mp h with rfl | h
    · exact ⟨(y, m), by simp, Int.le_antisymm h2.1 h1.1, rfl⟩
    · obtain ⟨p, hp, q⟩ := touch h1.2 h2.2 h
      exact ⟨p, by simp [hp], q⟩
  | 0, _ :: _, _, _, h, _, _ => h.elim
  | _ + 1, [], _, _, h, _, _ => h.elim
  | _, [], _ :: _, _, _, h, _ => h.elim
  | _, _ :: _, [], _, _, h, _ => h.elim
theorem down_touch {s : Int} (hs : 0 ≤ s) {xs : List Int} (h : xs ≠ []) : ∃ p ∈ (cutDown s xs).zip xs, p.1 = p.2 := by
  obtain ⟨m, h1, h2⟩ := least h
  obtain ⟨p, hp, q1, q2⟩ := touch (down_best (s := s) (adj_const hs _) (le_const h2)) (down_le xs) h1
  exact ⟨p, hp, by omega⟩
abbrev ng (xs : List Int) : List Int := xs.map (- ·)
theorem ng_ng : ∀ xs : List Int, ng (ng xs) = xs
  | [] => rfl
  | x :: xs => by
    show - -x :: ng (ng xs) = _
    rw [ng_ng xs, Int.neg_neg]
theorem le_ng : ∀ {a b : List Int}, Le a b → Le (ng b) (ng a)
  | [], [], _ => trivial
  | x :: a, y :: b, h => ⟨by have := h.1; show -y ≤ -x; omega, le_ng h.2⟩
  | [], _ :: _, h => h.elim
  | _ :: _, [], h => h.elim
theorem adj_ng {s : Int} {xs : List Int} (h : Adj (ge s) xs) : Adj (ge s) (ng xs) :=
  adj_map (- ·) (adj_imp (fun a b h => by obtain ⟨h1, h2⟩ := h; exact ⟨by omega, by omega⟩) h)
def fillUp (s : Int) (xs : List Int) : List Int := ng (cutDown s (ng xs))
theorem fill_ge {s : Int} (hs : 0 ≤ s) (xs : List Int) : Adj (ge s) (fillUp s xs) := adj_ng (down_ge hs _)
theorem fill_le {s : Int} (xs : List Int) : Le xs (fillUp s xs) := by
  have := le_ng (down_le (s := s) (ng xs))
  rwa [ng_ng] at this
theorem fill_best {s : Int} {xs g : List Int} (a : Adj (ge s) g) (e : Le xs g) : Le (fillUp s xs) g := by
  have := le_ng (down_best (adj_ng a) (le_ng e))
  rwa [ng_ng] at this
theorem fill_len {s : Int} (xs : List Int) : (fillUp s xs).length = xs.length := (le_len (fill_le xs)).symm
theorem fill_idle {s : Int} (hs : 0 ≤ s) (xs : List Int) : Adj (ge s) xs ↔ fillUp s xs = xs :=
  ⟨fun h => le_anti (fill_best h (le_refl xs)) (fill_le xs), fun h => h ▸ fill_ge hs xs⟩
theorem ng_touch : ∀ {a b : List Int}, (∃ p ∈ a.zip (ng b), p.1 = p.2) → ∃ q ∈ b.zip (ng a), q.1 = q.2
  | [], _, h => by simp at h
  | _ :: _, [], h => by simp at h
  | x :: a, y :: b, h => by
    obtain ⟨p, hp, e⟩ := h
    rw [show ng (y :: b) = -y :: ng b from rfl, List.zip_cons_cons] at hp
    rw [show ng (x :: a) = -x :: ng a from rfl, List.zip_cons_cons]
    rcases List.mem_cons.mp hp with rfl | hp
    · exact ⟨(y, -x), by simp, by simp only at e ⊢; omega⟩
    · obtain ⟨q, hq, e⟩ := ng_touch ⟨p, hp, e⟩
      exact ⟨q, List.mem_cons_of_mem _ hq, e⟩
theorem fill_touch {s : Int} (hs : 0 ≤ s) {xs : List Int} (h : xs ≠ []) : ∃ p ∈ xs.zip (fillUp s xs), p.1 = p.2 :=
  ng_touch (down_touch hs (by simpa [ng] using h))
theorem zip3_le : ∀ {a b c : List Int}, Le a b → Le b c → ∀ p ∈ a.zip (b.zip c), p.1 ≤ p.2.1 ∧ p.2.1 ≤ p.2.2
  | [], [], [], _, _, p, h => by simp at h
  | x :: a, y :: b, z :: c, h, g, p, hp => by
    rw [List.zip_cons_cons, List.zip_cons_cons] at hp
    rcases List.mem_cons.mp hp with rfl | hp
    · exact ⟨h.1, g.1⟩
    · exact zip3_le h.2 g.2 p hp
  | [], _ :: _, _, h, _, _, _ => h.elim
  | _ :: _, [], _, h, _, _, _ => h.elim
  | [], [], _ :: _, _, g, _, _ => g.elim
  | _ :: _, _ :: _, [], _, g, _, _ => g.elim
/-- all of g moved down by what it stands out over f -/
theorem le_shift : ∀ {g f : List Int} {m : Int}, g.length = f.length → (∀ p ∈ g.zip f, p.1 - p.2 ≤ m) → Le (g.map (· - m)) f
  | [], [], _, _, _ => trivial
  | x :: g, y :: f, m, h, k => ⟨by have := k (x, y) (by simp); show x - m ≤ y; simp only at this; omega, le_shift (by simpa using h) fun p hp => k p (by simp [hp])⟩
  | [], _ :: _, _, h, _ => by simp at h
  | _ :: _, [], _, h, _ => by simp at h
theorem le_lift : ∀ {g f : List Int} {m : Int}, g.length = f.length → (∀ p ∈ g.zip f, p.2 - p.1 ≤ m) → Le f (g.map (· + m))
  | [], [], _, _, _ => trivial
  | x :: g, y :: f, m, h, k => ⟨by have := k (x, y) (by simp); show y ≤ x + m; simp only at this; omega, le_lift (by simpa using h) fun p hp => k p (by simp [hp])⟩
  | [], _ :: _, _, h, _ => by simp at h
  | _ :: _, [], _, h, _ => by simp at h
theorem adj_shift {s m : Int} {g : List Int} (h : Adj (ge s) g) : Adj (ge s) (g.map (· - m)) := adj_map (· - m) (adj_imp (fun a b h => by obtain ⟨h1, h2⟩ := h; exact ⟨by omega, by omega⟩) h)
theorem adj_lift {s m : Int} {g : List Int} (h : Adj (ge s) g) : Adj (ge s) (g.map (· + m)) := adj_map (· + m) (adj_imp (fun a b h => by obtain ⟨h1, h2⟩ := h; exact ⟨by omega, by omega⟩) h)
end M8

namespace M8
abbrev at' (xs : List Int) (i : Nat) : Int := xs.getD i 0
theorem le_ix : ∀ {xs ys : List Int}, Le xs ys ↔ xs.length = ys.length ∧ ∀ i, i < xs.length → at' xs i ≤ at' ys i
  | [], [] => by simp [Le]
  | [], _ :: _ => by simp [Le]
  | _ :: _, [] => by simp [Le]
  | x :: xs, y :: ys => by
    rw [Le, le_ix]
    constructor
    · rintro ⟨h1, h2, h3⟩
      refine ⟨by simp [h2], fun i hi => ?_⟩
      cases i with
      | zero => exact h1
      | succ i => exact h3 i (by simpa using hi)
    · rintro ⟨h1, h2⟩
      exact ⟨h2 0 (by simp), by simpa using h1, fun i hi => h2 (i + 1) (by simpa using hi)⟩
theorem adj_ix {R : Int → Int → Prop} : ∀ {xs : List Int}, Adj R xs ↔ ∀ i, i + 1 < xs.length → R (at' xs i) (at' xs (i + 1))
  | [] => by simp [Adj]
  | [_] => by simp [Adj]
  | x :: y :: t => by
    rw [Adj, adj_ix (xs := y :: t)]
    constructor
    · rintro ⟨h1, h2⟩ i hi
      cases i with
      | zero => exact h1
      | succ i => exact h2 i (by simpa using hi)
    · intro h
      exact ⟨h 0 (by simp), fun i hi => h (i + 1) (by simpa using hi)⟩
theorem lip {s : Int} {xs : List Int} (h : Adj (ge s) xs) (j : Nat) : ∀ d : Nat, j + d < xs.length → at' xs j ≤ at' xs (j + d) + s * d ∧ at' xs (j + d) ≤ at' xs j + s * d
  | 0, _ => by simp
  | d + 1, hd => by
    have ih := lip h j d (by omega)
    have := adj_ix.mp h (j + d) (by omega)
    obtain ⟨h1, h2⟩ := this
    have e : s * ((d + 1 : Nat) : Int) = s * d + s := by rw [Int.natCast_add, Int.mul_add]; simp
    rw [e]
    rw [show j + (d + 1) = j + d + 1 from rfl]
    constructor <;> omega
def dst (i j : Nat) : Int := if (i : Int) - j < 0 then -((i : Int) - j) else (i : Int) - j
theorem dst_le {i j : Nat} (h : i ≤ j) : dst i j = ((j - i : Nat) : Int) := by unfold dst; split <;> omega
theorem dst_ge {i j : Nat} (h : j ≤ i) : dst i j = ((i - j : Nat) : Int) := by unfold dst; split <;> omega
theorem lip2 {s : Int} {xs : List Int} (h : Adj (ge s) xs) {i j : Nat} (hi : i < xs.length) (hj : j < xs.length) : at' xs i ≤ at' xs j + s * dst i j := by
  by_cases c : i ≤ j
  · have := (lip h i (j - i) (by omega)).1
    rw [show i + (j - i) = j by omega] at this
    rw [dst_le c]; exact this
  · have := (lip h j (i - j) (by omega)).2
    rw [show j + (i - j) = i by omega] at this
    rw [dst_ge (by omega)]; exact this
/-- what the formula says of a list m -/
structure Cone (s : Int) (f m : List Int) : Prop where
  len : m.length = f.length
  le : ∀ i j, i < f.length → j < f.length → at' m i ≤ at' f j + s * dst i j
  is : ∀ i, i < f.length → ∃ j, j < f.length ∧ at' m i = at' f j + s * dst i j
theorem dst_next {s : Int} (hs : 0 ≤ s) (i j : Nat) : s * dst (i + 1) j ≤ s * dst i j + s ∧ s * dst i j ≤ s * dst (i + 1) j + s := by
  have h1 : dst (i + 1) j ≤ dst i j + 1 := by unfold dst; split <;> split <;> omega
  have h2 : dst i j ≤ dst (i + 1) j + 1 := by unfold dst; split <;> split <;> omega
  have e1 := Int.mul_le_mul_of_nonneg_left h1 hs
  have e2 := Int.mul_le_mul_of_nonneg_left h2 hs
  rw [Int.mul_add, Int.mul_one] at e1 e2
  exact ⟨e1, e2⟩
theorem cone_down {s : Int} (hs : 0 ≤ s) {f m : List Int} (c : Cone s f m) : m = cutDown s f := by
  have a : Adj (ge s) m := adj_ix.mpr fun i hi => by
    have hl := c.len
    obtain ⟨j, hj, e⟩ := c.is i (by omega)
    obtain ⟨k, hk, e'⟩ := c.is (i + 1) (by omega)
    have h1 := c.le (i + 1) j (by omega) hj
    have h2 := c.le i k (by omega) hk
    have d1 := (dst_next hs i j).1
    have d2 := (dst_next hs i k).2
    exact ⟨by omega, by omega⟩
  have l : Le m f := le_ix.mpr ⟨c.len, fun i hi => by
    have := c.le i i (by have := c.len; omega) (by have := c.len; omega)
    have e : dst i i = 0 := by unfold dst; split <;> omega
    rw [e, Int.mul_zero] at this
    omega⟩
  refine le_anti (down_best a l) (le_ix.mpr ⟨by rw [down_len, c.len], fun i hi => ?_⟩)
  rw [down_len] at hi
  obtain ⟨j, hj, e⟩ := c.is i hi
  have h1 := lip2 (down_ge hs f) (i := i) (j := j) (by rw [down_len]; exact hi) (by rw [down_len]; exact hj)
  have h2 := (le_ix.mp (down_le (s := s) f)).2 j (by rw [down_len]; exact hj)
  omega
theorem at_ng (f : List Int) (i : Nat) : at' (ng f) i = - at' f i := by
  rw [at', at', List.getD_eq_getElem?_getD, List.getD_eq_getElem?_getD, ng, List.getElem?_map]
  cases f[i]? <;> simp
structure Roof (s : Int) (f m : List Int) : Prop where
  len : m.length = f.length
  le : ∀ i j, i < f.length → j < f.length → at' f j - s * dst i j ≤ at' m i
  is : ∀ i, i < f.length → ∃ j, j < f.length ∧ at' m i = at' f j - s * dst i j
theorem roof_fill {s : Int} (hs : 0 ≤ s) {f m : List Int} (c : Roof s f m) : m = fillUp s f := by
  have : Cone s (ng f) (ng m) := by
    refine ⟨by simp [ng, c.len], fun i j hi hj => ?_, fun i hi => ?_⟩
    · rw [at_ng, at_ng]
      have := c.le i j (by simpa [ng] using hi) (by simpa [ng] using hj)
      omega
    · obtain ⟨j, hj, e⟩ := c.is i (by simpa [ng] using hi)
      exact ⟨j, by simpa [ng] using hj, by rw [at_ng, at_ng]; omega⟩
  rw [fillUp, ← cone_down hs this, ng_ng]
theorem down_mono {s : Int} (hs : 0 ≤ s) {f g : List Int} (h : Le f g) : Le (cutDown s f) (cutDown s g) := down_best (down_ge hs f) (le_trans (down_le f) h)
theorem fill_mono {s : Int} (hs : 0 ≤ s) {f g : List Int} (h : Le f g) : Le (fillUp s f) (fillUp s g) := fill_best (fill_ge hs g) (le_trans h (fill_le g))
theorem ge_mono {s t : Int} (h : s ≤ t) {f : List Int} (a : Adj (ge s) f) : Adj (ge t) f := adj_imp (fun x y k => ⟨by have := k.1; omega, by have := k.2; omega⟩) a
theorem down_keep {s c : Int} (hs : 0 ≤ s) {f : List Int} (a : Adj (ge c) f) : Adj (ge c) (cutDown s f) := by
  by_cases h : s ≤ c
  · exact ge_mono h (down_ge hs f)
  · rw [(down_idle hs f).mp (ge_mono (by omega) a)]; exact a
theorem fill_keep {s c : Int} (hs : 0 ≤ s) {f : List Int} (a : Adj (ge c) f) : Adj (ge c) (fillUp s f) := adj_ng (down_keep hs (adj_ng a))
/-- fill behind cut lies below cut behind fill -/
theorem swap_le {s t : Int} (hs : 0 ≤ s) (ht : 0 ≤ t) (f : List Int) : Le (fillUp s (cutDown t f)) (cutDown t (fillUp s f)) :=
  down_best (fill_keep hs (down_ge ht f)) (fill_mono hs (down_le f))
/-- winds -/
def blw (w : Bool × Int) (f : List Int) : List Int := if w.1 = true then cutDown w.2 f else fillUp w.2 f
def beh (f : List Int) (ws : List (Bool × Int)) : List Int := ws.foldl (fun f w => blw w f) f
theorem blw_len (w : Bool × Int) (f : List Int) : (blw w f).length = f.length := by
  unfold blw
  split
  · exact down_len f
  · exact fill_len f
theorem beh_len (ws : List (Bool × Int)) : ∀ f : List Int, (beh f ws).length = f.length := by
  induction ws with
  | nil => exact fun f => rfl
  | cons w ws ih => exact fun f => (ih _).trans (blw_len w f)
theorem beh_take (f : List Int) (ws : List (Bool × Int)) {i : Nat} {w : Bool × Int} (h : ws[i]? = some w) : beh f (ws.take (i + 1)) = blw w (beh f (ws.take i)) := by
  rw [List.take_add_one, h]
  unfold beh
  rw [List.foldl_append]
  rfl
end M8

namespace LW
open PySem Mir L2 M8
abbrev I (xs : List Int) : List D := xs.map .int
theorem I_snoc (f : List Int) (t : Int) : I f ++ [.int t] = I (f ++ [t]) := by rw [I, I, List.map_append]; rfl
theorem szl {n : Nat} (h : n ≤ 1000) : n ≤ sizeLine := Nat.le_trans h (by decide)
theorem zip_int (xs ys : List Int) : zipD2 (I xs) (I ys) = (xs.zip ys).map fun p => .tuple [.int p.1, .int p.2] := zip2_map _ _ xs ys
theorem zip3_int (xs ys zs : List Int) : zipD3 (I xs) (I ys) (I zs) = (xs.zip (ys.zip zs)).map fun p => .tuple [.int p.1, .int p.2.1, .int p.2.2] := zip3_map _ _ _ xs ys zs
theorem zip_len {α : Type} {xs : List Int} {ys : List α} {n : Nat} (h : xs.length ≤ n) : (xs.zip ys).length ≤ n := by rw [List.length_zip]; omega
theorem back_same {e e' : MEnv} {vs : List Nat} (hl : e.length = e'.length) (h : ∀ i ∈ vs, e[i]? = e'[i]?) : backE e e' vs = e' := by
  unfold backE
  apply List.ext_getElem?
  intro i
  rw [List.getElem?_map]
  by_cases hi : i < e'.length
  · rw [List.getElem?_range hi]
    simp only [Option.map_some]
    split
    · rename_i hm
      rw [List.getD_eq_getElem?_getD, h i hm, List.getElem?_eq_getElem hi]; rfl
    · rw [List.getD_eq_getElem?_getD, List.getElem?_eq_getElem hi]; rfl
  · rw [List.getElem?_eq_none (by simpa using hi), List.getElem?_eq_none (by omega)]; rfl
theorem zip_ne {xs ys : List Int} (h : xs ≠ []) (e : xs.length = ys.length) : xs.zip ys ≠ [] := fun z => by
  have := congrArg List.length z
  rw [List.length_zip, List.length_nil] at this
  have hp : 0 < xs.length := List.length_pos_iff.mpr h
  omega
theorem map_ne {α β : Type} {g : α → β} {zs : List α} (h : zs ≠ []) : zs.map g ≠ [] := by simpa using h
def dif (p : Int × Int) : Int := if p.1 - p.2 < 0 then -(p.1 - p.2) else p.1 - p.2
end LW

namespace LW
open PySem Mir L2 M8
theorem steep_ok {d : D} {xs : List Int} (hd : d = .tuple (I xs)) (h1 : xs.length ≤ 900) : wR (Z_l_steep [d]) fun r => ∃ m : Int, r = .d (.int m) ∧ (∀ s, 0 ≤ s → (m ≤ s ↔ Adj (ge s) xs)) ∧ 0 ≤ m ∧ (m = 0 ∨ ∃ p ∈ xs.zip (xs.drop 1), m = dif p) := by
  subst hd
  unfold Z_l_steep
  refine wR_run rfl ?_
  show wS _ [.dt _, .un, .un] _
  unfold B_l_steep
  simp only [wE_var, wE_c, wE_1, wE_2, wA_nil, wA_cons, wE_A, wT_bool, wT_yes, wT_not, wT_and, wT_or, wE_ofT, wE_if, wE_chain, wO_no, wO_part, wE_sl, wE_isa, wE_ownLen, wE_ownIx, wE_app, wE_ext, wE_ins, wE_rg1, wE_rg2, wE_rev, wE_popAt, wE_pop, wS_putIx, wE_box, wE_boxNew, wS_seq, wS_nx, wS_ct, wS_bk, wS_set, wS_own, wS_ret, wS_drop, wS_if, wS_retO, wS_frz, wS_asg, wU_name, wUs_nil, wUs_cons, wU_tup2, wU_tup3, wPar_nil, wPar_cons, wS_par, wS_aug, wA_zip2, wA_zip3, wA_zipS, wA_seqIt, wA_range1, wA_range2, wA_enum, wS_for, seqK, lpK, rtK, rbK, wR_some, wB_some, wR_ite, mAnd, mOr, mNot, toD_d, toD_l, f1_one, f2_two, add_i, add_l, add_t, iadd_i, sub_i, mul_i, mul_l, mod_i, fdiv_w, fdOk_2, fdOk_64, fdOk_7, fdOk_m, na10, na2, at3_0, at3_1, at3_2, at2_0, at2_1, Mir.atI_last, ix3_0, ix3_1, ix3_2, pow_i, neg_i, len_l, len_t, abs_i, max2_i, min2_i, int_i, int_b, list_l, list_t, tuple_l, tuple_t, lt_i, le_i, gt_i, ge_i, eq_i, ne_i, eq_b, ne_b, eq_s, ne_s, sl_l, sl_t, src_l, src_t, revL_l, revT_l, slot_f, slot_l, wS_new, ix_l, ix_t, all_b, any_b, sum_l, dLst, dTup, setAll, ownAt, putOwn, frzE, boAt, wipeE, cut_map, cut_from1, cut_to1, List.getElem?_cons_zero, List.getElem?_cons_succ, List.set_cons_zero, List.set_cons_succ, Option.some.injEq, Sl.dt.injEq, Sl.ow.injEq, Sl.bo.injEq, Rv.d.injEq, Rv.l.injEq, PyData.int.injEq, PyData.bool.injEq, PyData.str.injEq, PyData.list.injEq, PyData.tuple.injEq, List.cons.injEq, exists_eq_left', exists_eq_left, exists_eq_right', exists_eq, exists_eq', exists_and_left, exists_const, and_true, true_and, and_assoc, Int.reduceLT, Int.reduceLE, Int.reducePow, Int.reduceToNat, Int.reduceNeg, Int.reduceMul, Int.reduceAdd, Int.reduceSub, Nat.reduceLT, Nat.reduceLeDiff, Nat.reducePow, Nat.reduceAdd, List.length_cons, List.length_nil, List.length_map, forall_const, decide_true, decide_false, Bool.not_true, Bool.not_false, Bool.false_eq_true, Bool.true_eq_false, false_implies, true_implies, reduceCtorEq, eq_self, eq_tI, ne_tI, eq_lI, ne_lI, all_T, wU_lst2, wU_lst3, sz_0, sz_1, sz_2, sz_3, sz_4, sz_5, sz_6, sz_7, sz_8, implies_true, revA_l, revA_t, isB_b, isntB_b, zRev_1, zRev_2, zRev_3, zRev_4, zRev_5, revS_l, revS_t, sumT_l, sumT_t, xW_seq, xW_if, xW_arg, xW_call, xW_raise, xW_raise0, xK, wE_xnone, wE_xfld, wE_xis, Sl.xt.injEq, Xt.exn.injEq, or_false, false_or, lk_hd, inCs_hd, mem_hd, false_and, and_false]
  refine wE_lcI (zs := xs.zip (xs.drop 1)) (fun p => .tuple [.int p.1, .int p.2]) dif ?_
  simp only [wE_var, wE_c, wE_1, wE_2, wA_nil, wA_cons, wE_A, wT_bool, wT_yes, wT_not, wT_and, wT_or, wE_ofT, wE_if, wE_chain, wO_no, wO_part, wE_sl, wE_isa, wE_ownLen, wE_ownIx, wE_app, wE_ext, wE_ins, wE_rg1, wE_rg2, wE_rev, wE_popAt, wE_pop, wS_putIx, wE_box, wE_boxNew, wS_seq, wS_nx, wS_ct, wS_bk, wS_set, wS_own, wS_ret, wS_drop, wS_if, wS_retO, wS_frz, wS_asg, wU_name, wUs_nil, wUs_cons, wU_tup2, wU_tup3, wPar_nil, wPar_cons, wS_par, wS_aug, wA_zip2, wA_zip3, wA_zipS, wA_seqIt, wA_range1, wA_range2, wA_enum, wS_for, seqK, lpK, rtK, rbK, wR_some, wB_some, wR_ite, mAnd, mOr, mNot, toD_d, toD_l, f1_one, f2_two, add_i, add_l, add_t, iadd_i, sub_i, mul_i, mul_l, mod_i, fdiv_w, fdOk_2, fdOk_64, fdOk_7, fdOk_m, na10, na2, at3_0, at3_1, at3_2, at2_0, at2_1, Mir.atI_last, ix3_0, ix3_1, ix3_2, pow_i, neg_i, len_l, len_t, abs_i, max2_i, min2_i, int_i, int_b, list_l, list_t, tuple_l, tuple_t, lt_i, le_i, gt_i, ge_i, eq_i, ne_i, eq_b, ne_b, eq_s, ne_s, sl_l, sl_t, src_l, src_t, revL_l, revT_l, slot_f, slot_l, wS_new, ix_l, ix_t, all_b, any_b, sum_l, dLst, dTup, setAll, ownAt, putOwn, frzE, boAt, wipeE, cut_map, cut_from1, cut_to1, List.getElem?_cons_zero, List.getElem?_cons_succ, List.set_cons_zero, List.set_cons_succ, Option.some.injEq, Sl.dt.injEq, Sl.ow.injEq, Sl.bo.injEq, Rv.d.injEq, Rv.l.injEq, PyData.int.injEq, PyData.bool.injEq, PyData.str.injEq, PyData.list.injEq, PyData.tuple.injEq, List.cons.injEq, exists_eq_left', exists_eq_left, exists_eq_right', exists_eq, exists_eq', exists_and_left, exists_const, and_true, true_and, and_assoc, Int.reduceLT, Int.reduceLE, Int.reducePow, Int.reduceToNat, Int.reduceNeg, Int.reduceMul, Int.reduceAdd, Int.reduceSub, Nat.reduceLT, Nat.reduceLeDiff, Nat.reducePow, Nat.reduceAdd, List.length_cons, List.length_nil, List.length_map, forall_const, decide_true, decide_false, Bool.not_true, Bool.not_false, Bool.false_eq_true, Bool.true_eq_false, false_implies, true_implies, reduceCtorEq, eq_self, eq_tI, ne_tI, eq_lI, ne_lI, all_T, wU_lst2, wU_lst3, sz_0, sz_1, sz_2, sz_3, sz_4, sz_5, sz_6, sz_7, sz_8, implies_true, revA_l, revA_t, isB_b, isntB_b, zRev_1, zRev_2, zRev_3, zRev_4, zRev_5, revS_l, revS_t, sumT_l, sumT_t, xW_seq, xW_if, xW_arg, xW_call, xW_raise, xW_raise0, xK, wE_xnone, wE_xfld, wE_xis, Sl.xt.injEq, Xt.exn.injEq, or_false, false_or, lk_hd, inCs_hd, mem_hd, false_and, and_false, ← List.map_drop]
  have hl : (xs.zip (xs.drop 1)).length ≤ 900 := zip_len h1
  refine ⟨zip_int _ _, rfl, szl (by omega), fun _ _ => rfl, szl (by omega), ?_⟩
  show wR (maxD1 (.list (I ((xs.zip (xs.drop 1)).map dif) ++ I [0]))) _
  rw [I, I, ← List.map_append]
  refine wR_max (by simp) fun m hm hx => ⟨m, rfl, fun s hs => ?_, hx 0 (by simp), ?_⟩
  rotate_left
  · rcases List.mem_append.mp hm with hm | hm
    · obtain ⟨p, hp, rfl⟩ := List.mem_map.mp hm
      exact .inr ⟨p, hp, rfl⟩
    · exact .inl (by simpa using hm)
  rw [adj_zip]
  constructor
  · intro h p hp
    have := hx (dif p) (List.mem_append_left _ (List.mem_map.mpr ⟨p, hp, rfl⟩))
    unfold dif at this
    constructor <;> (split at this <;> omega)
  · intro h
    rcases List.mem_append.mp hm with hm | hm
    · obtain ⟨p, hp, rfl⟩ := List.mem_map.mp hm
      have := h p hp
      unfold dif
      split <;> omega
    · simp at hm; omega
end LW

namespace LW
open PySem Mir L2 M8
theorem steep_any {xs : List Int} {d : D} (hd : d = .list (I xs) ∨ d = .tuple (I xs)) (h1 : xs.length ≤ 900) : wR (Z_steepest [d]) fun r => ∃ m : Int, r = .d (.int m) ∧ (∀ s : Int, 0 ≤ s → (m ≤ s ↔ Adj (ge s) xs)) ∧ 0 ≤ m := by
  unfold Z_steepest
  refine wR_run rfl ?_
  show wS _ [.dt _, .un, .un] _
  unfold B_steepest
  simp only [wE_var, wE_c, wE_1, wE_2, wA_nil, wA_cons, wE_A, wT_bool, wT_yes, wT_not, wT_and, wT_or, wE_ofT, wE_if, wE_chain, wO_no, wO_part, wE_sl, wE_isa, wE_ownLen, wE_ownIx, wE_app, wE_ext, wE_ins, wE_rg1, wE_rg2, wE_rev, wE_popAt, wE_pop, wS_putIx, wE_box, wE_boxNew, wS_seq, wS_nx, wS_ct, wS_bk, wS_set, wS_own, wS_ret, wS_drop, wS_if, wS_retO, wS_frz, wS_asg, wU_name, wUs_nil, wUs_cons, wU_tup2, wU_tup3, wPar_nil, wPar_cons, wS_par, wS_aug, wA_zip2, wA_zip3, wA_zipS, wA_seqIt, wA_range1, wA_range2, wA_enum, wS_for, seqK, lpK, rtK, rbK, wR_some, wB_some, wR_ite, mAnd, mOr, mNot, toD_d, toD_l, f1_one, f2_two, add_i, add_l, add_t, iadd_i, sub_i, mul_i, mul_l, mod_i, fdiv_w, fdOk_2, fdOk_64, fdOk_7, fdOk_m, na10, na2, at3_0, at3_1, at3_2, at2_0, at2_1, Mir.atI_last, ix3_0, ix3_1, ix3_2, pow_i, neg_i, len_l, len_t, abs_i, max2_i, min2_i, int_i, int_b, list_l, list_t, tuple_l, tuple_t, lt_i, le_i, gt_i, ge_i, eq_i, ne_i, eq_b, ne_b, eq_s, ne_s, sl_l, sl_t, src_l, src_t, revL_l, revT_l, slot_f, slot_l, wS_new, ix_l, ix_t, all_b, any_b, sum_l, dLst, dTup, setAll, ownAt, putOwn, frzE, boAt, wipeE, cut_map, cut_from1, cut_to1, List.getElem?_cons_zero, List.getElem?_cons_succ, List.set_cons_zero, List.set_cons_succ, Option.some.injEq, Sl.dt.injEq, Sl.ow.injEq, Sl.bo.injEq, Rv.d.injEq, Rv.l.injEq, PyData.int.injEq, PyData.bool.injEq, PyData.str.injEq, PyData.list.injEq, PyData.tuple.injEq, List.cons.injEq, exists_eq_left', exists_eq_left, exists_eq_right', exists_eq, exists_eq', exists_and_left, exists_const, and_true, true_and, and_assoc, Int.reduceLT, Int.reduceLE, Int.reducePow, Int.reduceToNat, Int.reduceNeg, Int.reduceMul, Int.reduceAdd, Int.reduceSub, Nat.reduceLT, Nat.reduceLeDiff, Nat.reducePow, Nat.reduceAdd, List.length_cons, List.length_nil, List.length_map, forall_const, decide_true, decide_false, Bool.not_true, Bool.not_false, Bool.false_eq_true, Bool.true_eq_false, false_implies, true_implies, reduceCtorEq, eq_self, eq_tI, ne_tI, eq_lI, ne_lI, all_T, wU_lst2, wU_lst3, sz_0, sz_1, sz_2, sz_3, sz_4, sz_5, sz_6, sz_7, sz_8, implies_true, revA_l, revA_t, isB_b, isntB_b, zRev_1, zRev_2, zRev_3, zRev_4, zRev_5, revS_l, revS_t, sumT_l, sumT_t, xW_seq, xW_if, xW_arg, xW_call, xW_raise, xW_raise0, xK, wE_xnone, wE_xfld, wE_xis, Sl.xt.injEq, Xt.exn.injEq, or_false, false_or, lk_hd, inCs_hd, mem_hd, false_and, and_false]
  refine wE_lcI (zs := xs.zip (xs.drop 1)) (fun p => .tuple [.int p.1, .int p.2]) dif ?_
  have hl : (xs.zip (xs.drop 1)).length ≤ 900 := zip_len h1
  rcases hd with rfl | rfl
  all_goals
   simp only [wE_var, wE_c, wE_1, wE_2, wA_nil, wA_cons, wE_A, wT_bool, wT_yes, wT_not, wT_and, wT_or, wE_ofT, wE_if, wE_chain, wO_no, wO_part, wE_sl, wE_isa, wE_ownLen, wE_ownIx, wE_app, wE_ext, wE_ins, wE_rg1, wE_rg2, wE_rev, wE_popAt, wE_pop, wS_putIx, wE_box, wE_boxNew, wS_seq, wS_nx, wS_ct, wS_bk, wS_set, wS_own, wS_ret, wS_drop, wS_if, wS_retO, wS_frz, wS_asg, wU_name, wUs_nil, wUs_cons, wU_tup2, wU_tup3, wPar_nil, wPar_cons, wS_par, wS_aug, wA_zip2, wA_zip3, wA_zipS, wA_seqIt, wA_range1, wA_range2, wA_enum, wS_for, seqK, lpK, rtK, rbK, wR_some, wB_some, wR_ite, mAnd, mOr, mNot, toD_d, toD_l, f1_one, f2_two, add_i, add_l, add_t, iadd_i, sub_i, mul_i, mul_l, mod_i, fdiv_w, fdOk_2, fdOk_64, fdOk_7, fdOk_m, na10, na2, at3_0, at3_1, at3_2, at2_0, at2_1, Mir.atI_last, ix3_0, ix3_1, ix3_2, pow_i, neg_i, len_l, len_t, abs_i, max2_i, min2_i, int_i, int_b, list_l, list_t, tuple_l, tuple_t, lt_i, le_i, gt_i, ge_i, eq_i, ne_i, eq_b, ne_b, eq_s, ne_s, sl_l, sl_t, src_l, src_t, revL_l, revT_l, slot_f, slot_l, wS_new, ix_l, ix_t, all_b, any_b, sum_l, dLst, dTup, setAll, ownAt, putOwn, frzE, boAt, wipeE, cut_map, cut_from1, cut_to1, List.getElem?_cons_zero, List.getElem?_cons_succ, List.set_cons_zero, List.set_cons_succ, Option.some.injEq, Sl.dt.injEq, Sl.ow.injEq, Sl.bo.injEq, Rv.d.injEq, Rv.l.injEq, PyData.int.injEq, PyData.bool.injEq, PyData.str.injEq, PyData.list.injEq, PyData.tuple.injEq, List.cons.injEq, exists_eq_left', exists_eq_left, exists_eq_right', exists_eq, exists_eq', exists_and_left, exists_const, and_true, true_and, and_assoc, Int.reduceLT, Int.reduceLE, Int.reducePow, Int.reduceToNat, Int.reduceNeg, Int.reduceMul, Int.reduceAdd, Int.reduceSub, Nat.reduceLT, Nat.reduceLeDiff, Nat.reducePow, Nat.reduceAdd, List.length_cons, List.length_nil, List.length_map, forall_const, decide_true, decide_false, Bool.not_true, Bool.not_false, Bool.false_eq_true, Bool.true_eq_false, false_implies, true_implies, reduceCtorEq, eq_self, eq_tI, ne_tI, eq_lI, ne_lI, all_T, wU_lst2, wU_lst3, sz_0, sz_1, sz_2, sz_3, sz_4, sz_5, sz_6, sz_7, sz_8, implies_true, revA_l, revA_t, isB_b, isntB_b, zRev_1, zRev_2, zRev_3, zRev_4, zRev_5, revS_l, revS_t, sumT_l, sumT_t, xW_seq, xW_if, xW_arg, xW_call, xW_raise, xW_raise0, xK, wE_xnone, wE_xfld, wE_xis, Sl.xt.injEq, Xt.exn.injEq, or_false, false_or, lk_hd, inCs_hd, mem_hd, false_and, and_false, ← List.map_drop]
   refine ⟨zip_int _ _, rfl, szl (by omega), fun _ _ => rfl, wR_maxDef (fun h => ?_) fun m hm hx => ?_⟩
   · have h := List.map_eq_nil_iff.mp h
     refine ⟨0, rfl, fun s hs => ?_, by omega⟩
     rw [adj_zip, h]
     simp [hs]
   · refine ⟨m, rfl, fun s hs => ?_, by obtain ⟨p, hp, rfl⟩ := List.mem_map.mp hm; unfold dif; split <;> omega⟩
     rw [adj_zip]
     constructor
     · intro h p hp
       have := hx (dif p) (List.mem_map.mpr ⟨p, hp, rfl⟩)
       unfold dif at this
       constructor <;> (split at this <;> omega)
     · intro h
       obtain ⟨p, hp, rfl⟩ := List.mem_map.mp hm
       have := h p hp
       unfold dif
       split <;> omega
theorem steepest_ok {xs : List Int} (h1 : xs.length ≤ 900) : wR (Z_steepest [.tuple (I xs)]) fun r => ∃ m : Int, r = .d (.int m) ∧ (∀ s : Int, 0 ≤ s → (m ≤ s ↔ Adj (ge s) xs)) ∧ 0 ≤ m := steep_any (.inr rfl) h1
end LW

namespace LW
open PySem Mir L2 M8
/-- plain data, not deep, not long -/
def Gd : Nat → D → Prop
  | _, .none => True
  | _, .bool _ => True
  | _, .int _ => True
  | _, .str _ => True
  | n + 1, .list ds => ds.length ≤ 1000 ∧ ∀ x ∈ ds, Gd n x
  | n + 1, .tuple ds => ds.length ≤ 1000 ∧ ∀ x ∈ ds, Gd n x
  | _, _ => False
theorem zip_self : ∀ ds : List D, zipD2 ds ds = ds.map fun d => .tuple [d, d]
  | [] => rfl
  | d :: ds => by rw [zipD2, zip_self ds]; rfl
theorem is_none {d : D} : isD d .none = some (.d (.bool (isNone d))) := rfl
theorem eq_non : eqD .none .none = some (.d (.bool true)) := by
  unfold eqD
  rw [if_pos (by simp [PyData.depth])]
  simp [PyData.eqv]
theorem same_seq {n : Nat} {ds : List D} (hl : ds.length ≤ 1000) (ih : ∀ x ∈ ds, Z_l_same n [x, x] = some (.d (.bool true))) {d : D} (hd : d = .list ds ∨ d = .tuple ds) : Z_l_same (n + 1) [d, d] = some (.d (.bool true)) := by
  refine wR_eq ?_
  rw [Z_l_same]
  refine wR_run rfl ?_
  show wS _ [.dt _, .dt _, .un, .un] _
  unfold B_l_same
  rcases hd with rfl | rfl
  all_goals
    simp only [wE_var, wE_c, wE_1, wE_2, wA_nil, wA_cons, wE_A, wT_bool, wT_yes, wT_not, wT_and, wT_or, wE_ofT, wE_if, wE_chain, wO_no, wO_part, wE_sl, wE_isa, wE_ownLen, wE_ownIx, wE_app, wE_ext, wE_ins, wE_rg1, wE_rg2, wE_rev, wE_popAt, wE_pop, wS_putIx, wE_box, wE_boxNew, wS_seq, wS_nx, wS_ct, wS_bk, wS_set, wS_own, wS_ret, wS_drop, wS_if, wS_retO, wS_frz, wS_asg, wU_name, wUs_nil, wUs_cons, wU_tup2, wU_tup3, wPar_nil, wPar_cons, wS_par, wS_aug, wA_zip2, wA_zip3, wA_zipS, wA_seqIt, wA_range1, wA_range2, wA_enum, wS_for, seqK, lpK, rtK, rbK, wR_some, wB_some, wR_ite, mAnd, mOr, mNot, toD_d, toD_l, f1_one, f2_two, add_i, add_l, add_t, iadd_i, sub_i, mul_i, mul_l, mod_i, fdiv_w, fdOk_2, fdOk_64, fdOk_7, fdOk_m, na10, na2, at3_0, at3_1, at3_2, at2_0, at2_1, Mir.atI_last, ix3_0, ix3_1, ix3_2, pow_i, neg_i, len_l, len_t, abs_i, max2_i, min2_i, int_i, int_b, list_l, list_t, tuple_l, tuple_t, lt_i, le_i, gt_i, ge_i, eq_i, ne_i, eq_b, ne_b, eq_s, ne_s, sl_l, sl_t, src_l, src_t, revL_l, revT_l, slot_f, slot_l, wS_new, ix_l, ix_t, all_b, any_b, sum_l, dLst, dTup, setAll, ownAt, putOwn, frzE, boAt, wipeE, cut_map, cut_from1, cut_to1, List.getElem?_cons_zero, List.getElem?_cons_succ, List.set_cons_zero, List.set_cons_succ, Option.some.injEq, Sl.dt.injEq, Sl.ow.injEq, Sl.bo.injEq, Rv.d.injEq, Rv.l.injEq, PyData.int.injEq, PyData.bool.injEq, PyData.str.injEq, PyData.list.injEq, PyData.tuple.injEq, List.cons.injEq, exists_eq_left', exists_eq_left, exists_eq_right', exists_eq, exists_eq', exists_and_left, exists_const, and_true, true_and, and_assoc, Int.reduceLT, Int.reduceLE, Int.reducePow, Int.reduceToNat, Int.reduceNeg, Int.reduceMul, Int.reduceAdd, Int.reduceSub, Nat.reduceLT, Nat.reduceLeDiff, Nat.reducePow, Nat.reduceAdd, List.length_cons, List.length_nil, List.length_map, forall_const, decide_true, decide_false, Bool.not_true, Bool.not_false, Bool.false_eq_true, Bool.true_eq_false, false_implies, true_implies, reduceCtorEq, eq_self, eq_tI, ne_tI, eq_lI, ne_lI, all_T, wU_lst2, wU_lst3, sz_0, sz_1, sz_2, sz_3, sz_4, sz_5, sz_6, sz_7, sz_8, implies_true, revA_l, revA_t, isB_b, isntB_b, zRev_1, zRev_2, zRev_3, zRev_4, zRev_5, revS_l, revS_t, sumT_l, sumT_t, xW_seq, xW_if, xW_arg, xW_call, xW_raise, xW_raise0, xK, wE_xnone, wE_xfld, wE_xis, Sl.xt.injEq, Xt.exn.injEq, or_false, false_or, lk_hd, inCs_hd, mem_hd, false_and, and_false, isLT, PyData.isList, PyData.isTuple, Bool.or_true, Bool.true_or, beq_self_eq_true]
    refine wE_lcB (zs := ds) (fun d => .tuple [d, d]) (fun _ => true) ?_
    simp only [wE_var, wE_c, wE_1, wE_2, wA_nil, wA_cons, wE_A, wT_bool, wT_yes, wT_not, wT_and, wT_or, wE_ofT, wE_if, wE_chain, wO_no, wO_part, wE_sl, wE_isa, wE_ownLen, wE_ownIx, wE_app, wE_ext, wE_ins, wE_rg1, wE_rg2, wE_rev, wE_popAt, wE_pop, wS_putIx, wE_box, wE_boxNew, wS_seq, wS_nx, wS_ct, wS_bk, wS_set, wS_own, wS_ret, wS_drop, wS_if, wS_retO, wS_frz, wS_asg, wU_name, wUs_nil, wUs_cons, wU_tup2, wU_tup3, wPar_nil, wPar_cons, wS_par, wS_aug, wA_zip2, wA_zip3, wA_zipS, wA_seqIt, wA_range1, wA_range2, wA_enum, wS_for, seqK, lpK, rtK, rbK, wR_some, wB_some, wR_ite, mAnd, mOr, mNot, toD_d, toD_l, f1_one, f2_two, add_i, add_l, add_t, iadd_i, sub_i, mul_i, mul_l, mod_i, fdiv_w, fdOk_2, fdOk_64, fdOk_7, fdOk_m, na10, na2, at3_0, at3_1, at3_2, at2_0, at2_1, Mir.atI_last, ix3_0, ix3_1, ix3_2, pow_i, neg_i, len_l, len_t, abs_i, max2_i, min2_i, int_i, int_b, list_l, list_t, tuple_l, tuple_t, lt_i, le_i, gt_i, ge_i, eq_i, ne_i, eq_b, ne_b, eq_s, ne_s, sl_l, sl_t, src_l, src_t, revL_l, revT_l, slot_f, slot_l, wS_new, ix_l, ix_t, all_b, any_b, sum_l, dLst, dTup, setAll, ownAt, putOwn, frzE, boAt, wipeE, cut_map, cut_from1, cut_to1, List.getElem?_cons_zero, List.getElem?_cons_succ, List.set_cons_zero, List.set_cons_succ, Option.some.injEq, Sl.dt.injEq, Sl.ow.injEq, Sl.bo.injEq, Rv.d.injEq, Rv.l.injEq, PyData.int.injEq, PyData.bool.injEq, PyData.str.injEq, PyData.list.injEq, PyData.tuple.injEq, List.cons.injEq, exists_eq_left', exists_eq_left, exists_eq_right', exists_eq, exists_eq', exists_and_left, exists_const, and_true, true_and, and_assoc, Int.reduceLT, Int.reduceLE, Int.reducePow, Int.reduceToNat, Int.reduceNeg, Int.reduceMul, Int.reduceAdd, Int.reduceSub, Nat.reduceLT, Nat.reduceLeDiff, Nat.reducePow, Nat.reduceAdd, List.length_cons, List.length_nil, List.length_map, forall_const, decide_true, decide_false, Bool.not_true, Bool.not_false, Bool.false_eq_true, Bool.true_eq_false, false_implies, true_implies, reduceCtorEq, eq_self, eq_tI, ne_tI, eq_lI, ne_lI, all_T, wU_lst2, wU_lst3, sz_0, sz_1, sz_2, sz_3, sz_4, sz_5, sz_6, sz_7, sz_8, implies_true, revA_l, revA_t, isB_b, isntB_b, zRev_1, zRev_2, zRev_3, zRev_4, zRev_5, revS_l, revS_t, sumT_l, sumT_t, xW_seq, xW_if, xW_arg, xW_call, xW_raise, xW_raise0, xK, wE_xnone, wE_xfld, wE_xis, Sl.xt.injEq, Xt.exn.injEq, or_false, false_or, lk_hd, inCs_hd, mem_hd, false_and, and_false]
    refine ⟨zip_self ds, rfl, szl hl, fun x hx => ?_⟩
    rw [ih x hx]
    simp only [wE_var, wE_c, wE_1, wE_2, wA_nil, wA_cons, wE_A, wT_bool, wT_yes, wT_not, wT_and, wT_or, wE_ofT, wE_if, wE_chain, wO_no, wO_part, wE_sl, wE_isa, wE_ownLen, wE_ownIx, wE_app, wE_ext, wE_ins, wE_rg1, wE_rg2, wE_rev, wE_popAt, wE_pop, wS_putIx, wE_box, wE_boxNew, wS_seq, wS_nx, wS_ct, wS_bk, wS_set, wS_own, wS_ret, wS_drop, wS_if, wS_retO, wS_frz, wS_asg, wU_name, wUs_nil, wUs_cons, wU_tup2, wU_tup3, wPar_nil, wPar_cons, wS_par, wS_aug, wA_zip2, wA_zip3, wA_zipS, wA_seqIt, wA_range1, wA_range2, wA_enum, wS_for, seqK, lpK, rtK, rbK, wR_some, wB_some, wR_ite, mAnd, mOr, mNot, toD_d, toD_l, f1_one, f2_two, add_i, add_l, add_t, iadd_i, sub_i, mul_i, mul_l, mod_i, fdiv_w, fdOk_2, fdOk_64, fdOk_7, fdOk_m, na10, na2, at3_0, at3_1, at3_2, at2_0, at2_1, Mir.atI_last, ix3_0, ix3_1, ix3_2, pow_i, neg_i, len_l, len_t, abs_i, max2_i, min2_i, int_i, int_b, list_l, list_t, tuple_l, tuple_t, lt_i, le_i, gt_i, ge_i, eq_i, ne_i, eq_b, ne_b, eq_s, ne_s, sl_l, sl_t, src_l, src_t, revL_l, revT_l, slot_f, slot_l, wS_new, ix_l, ix_t, all_b, any_b, sum_l, dLst, dTup, setAll, ownAt, putOwn, frzE, boAt, wipeE, cut_map, cut_from1, cut_to1, List.getElem?_cons_zero, List.getElem?_cons_succ, List.set_cons_zero, List.set_cons_succ, Option.some.injEq, Sl.dt.injEq, Sl.ow.injEq, Sl.bo.injEq, Rv.d.injEq, Rv.l.injEq, PyData.int.injEq, PyData.bool.injEq, PyData.str.injEq, PyData.list.injEq, PyData.tuple.injEq, List.cons.injEq, exists_eq_left', exists_eq_left, exists_eq_right', exists_eq, exists_eq', exists_and_left, exists_const, and_true, true_and, and_assoc, Int.reduceLT, Int.reduceLE, Int.reducePow, Int.reduceToNat, Int.reduceNeg, Int.reduceMul, Int.reduceAdd, Int.reduceSub, Nat.reduceLT, Nat.reduceLeDiff, Nat.reducePow, Nat.reduceAdd, List.length_cons, List.length_nil, List.length_map, forall_const, decide_true, decide_false, Bool.not_true, Bool.not_false, Bool.false_eq_true, Bool.true_eq_false, false_implies, true_implies, reduceCtorEq, eq_self, eq_tI, ne_tI, eq_lI, ne_lI, all_T, wU_lst2, wU_lst3, sz_0, sz_1, sz_2, sz_3, sz_4, sz_5, sz_6, sz_7, sz_8, implies_true, revA_l, revA_t, isB_b, isntB_b, zRev_1, zRev_2, zRev_3, zRev_4, zRev_5, revS_l, revS_t, sumT_l, sumT_t, xW_seq, xW_if, xW_arg, xW_call, xW_raise, xW_raise0, xK, wE_xnone, wE_xfld, wE_xis, Sl.xt.injEq, Xt.exn.injEq, or_false, false_or, lk_hd, inCs_hd, mem_hd, false_and, and_false]
theorem same_ok : ∀ (n : Nat) (d : D), Gd n d → Z_l_same (n + 1) [d, d] = some (.d (.bool true)) := by
  have flat : ∀ (n : Nat) (d : D), flatD d = true → Z_l_same (n + 1) [d, d] = some (.d (.bool true)) := fun n d h => by
    refine wR_eq ?_
    rw [Z_l_same]
    refine wR_run rfl ?_
    show wS _ [.dt _, .dt _, .un, .un] _
    unfold B_l_same
    cases d <;> first | (cases h; done) | simp only [wE_var, wE_c, wE_1, wE_2, wA_nil, wA_cons, wE_A, wT_bool, wT_yes, wT_not, wT_and, wT_or, wE_ofT, wE_if, wE_chain, wO_no, wO_part, wE_sl, wE_isa, wE_ownLen, wE_ownIx, wE_app, wE_ext, wE_ins, wE_rg1, wE_rg2, wE_rev, wE_popAt, wE_pop, wS_putIx, wE_box, wE_boxNew, wS_seq, wS_nx, wS_ct, wS_bk, wS_set, wS_own, wS_ret, wS_drop, wS_if, wS_retO, wS_frz, wS_asg, wU_name, wUs_nil, wUs_cons, wU_tup2, wU_tup3, wPar_nil, wPar_cons, wS_par, wS_aug, wA_zip2, wA_zip3, wA_zipS, wA_seqIt, wA_range1, wA_range2, wA_enum, wS_for, seqK, lpK, rtK, rbK, wR_some, wB_some, wR_ite, mAnd, mOr, mNot, toD_d, toD_l, f1_one, f2_two, add_i, add_l, add_t, iadd_i, sub_i, mul_i, mul_l, mod_i, fdiv_w, fdOk_2, fdOk_64, fdOk_7, fdOk_m, na10, na2, at3_0, at3_1, at3_2, at2_0, at2_1, Mir.atI_last, ix3_0, ix3_1, ix3_2, pow_i, neg_i, len_l, len_t, abs_i, max2_i, min2_i, int_i, int_b, list_l, list_t, tuple_l, tuple_t, lt_i, le_i, gt_i, ge_i, eq_i, ne_i, eq_b, ne_b, eq_s, ne_s, sl_l, sl_t, src_l, src_t, revL_l, revT_l, slot_f, slot_l, wS_new, ix_l, ix_t, all_b, any_b, sum_l, dLst, dTup, setAll, ownAt, putOwn, frzE, boAt, wipeE, cut_map, cut_from1, cut_to1, List.getElem?_cons_zero, List.getElem?_cons_succ, List.set_cons_zero, List.set_cons_succ, Option.some.injEq, Sl.dt.injEq, Sl.ow.injEq, Sl.bo.injEq, Rv.d.injEq, Rv.l.injEq, PyData.int.injEq, PyData.bool.injEq, PyData.str.injEq, PyData.list.injEq, PyData.tuple.injEq, List.cons.injEq, exists_eq_left', exists_eq_left, exists_eq_right', exists_eq, exists_eq', exists_and_left, exists_const, and_true, true_and, and_assoc, Int.reduceLT, Int.reduceLE, Int.reducePow, Int.reduceToNat, Int.reduceNeg, Int.reduceMul, Int.reduceAdd, Int.reduceSub, Nat.reduceLT, Nat.reduceLeDiff, Nat.reducePow, Nat.reduceAdd, List.length_cons, List.length_nil, List.length_map, forall_const, decide_true, decide_false, Bool.not_true, Bool.not_false, Bool.false_eq_true, Bool.true_eq_false, false_implies, true_implies, reduceCtorEq, eq_self, eq_tI, ne_tI, eq_lI, ne_lI, all_T, wU_lst2, wU_lst3, sz_0, sz_1, sz_2, sz_3, sz_4, sz_5, sz_6, sz_7, sz_8, implies_true, revA_l, revA_t, isB_b, isntB_b, zRev_1, zRev_2, zRev_3, zRev_4, zRev_5, revS_l, revS_t, sumT_l, sumT_t, xW_seq, xW_if, xW_arg, xW_call, xW_raise, xW_raise0, xK, wE_xnone, wE_xfld, wE_xis, Sl.xt.injEq, Xt.exn.injEq, or_false, false_or, lk_hd, inCs_hd, mem_hd, false_and, and_false, isLT, isBS, PyData.isList, PyData.isTuple, PyData.isBool, PyData.isInt, PyData.isStr, is_none, isNone, eq_non, Bool.or_self, Bool.or_true, Bool.true_or, Bool.or_false, beq_self_eq_true]
  intro n
  induction n with
  | zero =>
    intro d h
    cases d <;> first | exact flat _ _ rfl | exact h.elim
  | succ n ih =>
    intro d h
    cases d with
    | list ds => exact same_seq h.1 (fun x hx => ih x (h.2 x hx)) (.inl rfl)
    | tuple ds => exact same_seq h.1 (fun x hx => ih x (h.2 x hx)) (.inr rfl)
    | dict _ => exact h.elim
    | none => exact flat _ _ rfl
    | bool _ => exact flat _ _ rfl
    | int _ => exact flat _ _ rfl
    | str _ => exact flat _ _ rfl
theorem Gd.mono {n m : Nat} (h : n ≤ m) : ∀ {d : D}, Gd n d → Gd m d := by
  induction n generalizing m with
  | zero => intro d g; cases d <;> first | exact g | (cases m <;> first | exact g | exact g.elim)
  | succ n ih =>
    intro d g
    cases m with
    | zero => omega
    | succ m => cases d <;> first | exact g | exact ⟨g.1, fun x hx => ih (by omega) (g.2 x hx)⟩
theorem gd_T {f : List Int} (h : f.length ≤ 1000) : Gd 1 (.tuple (I f)) := ⟨by simpa using h, fun x hx => by obtain ⟨i, _, rfl⟩ := List.mem_map.mp hx; trivial⟩
theorem gd_up : ∀ {n m : Nat} {d : D}, Gd n d → n ≤ m → Gd m d
  | n, m, .none, _, _ => by cases m <;> trivial
  | n, m, .bool _, _, _ => by cases m <;> trivial
  | n, m, .int _, _, _ => by cases m <;> trivial
  | n, m, .str _, _, _ => by cases m <;> trivial
  | 0, _, .list _, h, _ => h.elim
  | 0, _, .tuple _, h, _ => h.elim
  | _ + 1, 0, _, _, h => by omega
  | n + 1, m + 1, .list ds, h, hm => ⟨h.1, fun x hx => gd_up (h.2 x hx) (by omega)⟩
  | n + 1, m + 1, .tuple ds, h, hm => ⟨h.1, fun x hx => gd_up (h.2 x hx) (by omega)⟩
  | 0, _, .dict _, h, _ => h.elim
  | _ + 1, _ + 1, .dict _, h, _ => h.elim
end LW

namespace LW
open PySem Mir L2 M8
/-- a comprehension that draws -/
theorem wE_draw {src : FA} {vs : List Nat} {u : UG} {f : FE} {env E0 : MEnv} {P : Rv → MEnv → Prop} {α β : Type} {zs : List α} {b0 : List D} (k : α → D) (kb : β → D) (E : List D → MEnv) (N c : Nat) (R : α → β → Prop)
    (hs : wA src env fun ds e => ds = zs.map k ∧ e = E0) (hp : plainAt E0 vs = true) (hz : zs.length ≤ sizeLine) (hw : wipeE E0 vs = E b0) (hb : Bx N b0) (hk : ∀ b, backE E0 (E b) vs = E b)
    (step : ∀ (i : Nat) (z : α) (b : List D), zs[i]? = some z → Bx (N + c * i) b → wU u (k z) (E b) fun e2 => wE f e2 fun r e3 => ∃ (x : β) (b' : List D), r.toD = kb x ∧ R z x ∧ wipeE e3 vs = E b' ∧ Bx (N + c * (i + 1)) b')
    (fin : ∀ (xs : List β) (b : List D), xs.length = zs.length → (∀ (j : Nat) (z : α) (x : β), zs[j]? = some z → xs[j]? = some x → R z x) → Bx (N + c * zs.length) b → P (.l (xs.map kb)) (E b)) : wE (mLc src vs u tYes' f) env P := by
  refine wE_lcInv (zs := zs) k (fun i acc e => ∃ (b : List D) (xs : List β), acc = xs.map kb ∧ xs.length = i ∧ (∀ (j : Nat) (z : α) (x : β), zs[j]? = some z → xs[j]? = some x → R z x) ∧ e = E b ∧ Bx (N + c * i) b) ?_
  obtain ⟨ds, e, hs, h1, rfl⟩ := hs
  refine ⟨ds, e, hs, h1, hp, hz, ⟨b0, [], rfl, rfl, fun j z x _ hx => by simp at hx, hw, hb⟩, ?_, ?_⟩
  · rintro i z acc e1 hz ⟨b, xs, rfl, hl, hr, rfl, hb⟩
    obtain ⟨e2, hu, r, e3, hf, x, b', hx, hR, hw, hb'⟩ := step i z b hz hb
    refine ⟨e2, hu, r, e3, hf, b', xs ++ [x], by rw [hx, List.map_append]; rfl, by simp [hl], fun j z' x' hz' hx' => ?_, hw, hb'⟩
    by_cases hj : j < xs.length
    · rw [List.getElem?_append_left hj] at hx'
      exact hr j z' x' hz' hx'
    · have hj2 : j = xs.length := by
        have := (List.getElem?_eq_some_iff.mp hx').1
        simp at this
        omega
      subst hj2
      rw [hl] at hz'
      rw [hz] at hz'
      cases hz'
      simp at hx'
      subst hx'
      exact hR
  · rintro acc e' ⟨b, xs, rfl, hl, hr, rfl, hb⟩
    rw [hk]
    exact fin xs b hl hr hb
/-- a comprehension that draws, its name bound outside -/
theorem wE_draw2 {src : FA} {vs : List Nat} {u : UG} {f : FE} {env E0 : MEnv} {P : Rv → MEnv → Prop} {α β : Type} {zs : List α} {b0 : List D} (k : α → D) (kb : β → D) (E E2 : List D → MEnv) (N c : Nat) (R : α → β → Prop)
    (hs : wA src env fun ds e => ds = zs.map k ∧ e = E0) (hp : plainAt E0 vs = true) (hz : zs.length ≤ sizeLine) (hw : wipeE E0 vs = E b0) (hb : Bx N b0) (hk : ∀ b, backE E0 (E b) vs = E2 b)
    (step : ∀ (i : Nat) (z : α) (b : List D), zs[i]? = some z → Bx (N + c * i) b → wU u (k z) (E b) fun e2 => wE f e2 fun r e3 => ∃ (x : β) (b' : List D), r.toD = kb x ∧ R z x ∧ wipeE e3 vs = E b' ∧ Bx (N + c * (i + 1)) b')
    (fin : ∀ (xs : List β) (b : List D), xs.length = zs.length → (∀ (j : Nat) (z : α) (x : β), zs[j]? = some z → xs[j]? = some x → R z x) → Bx (N + c * zs.length) b → P (.l (xs.map kb)) (E2 b)) : wE (mLc src vs u tYes' f) env P := by
  refine wE_lcInv (zs := zs) k (fun i acc e => ∃ (b : List D) (xs : List β), acc = xs.map kb ∧ xs.length = i ∧ (∀ (j : Nat) (z : α) (x : β), zs[j]? = some z → xs[j]? = some x → R z x) ∧ e = E b ∧ Bx (N + c * i) b) ?_
  obtain ⟨ds, e, hs, h1, rfl⟩ := hs
  refine ⟨ds, e, hs, h1, hp, hz, ⟨b0, [], rfl, rfl, fun j z x _ hx => by simp at hx, hw, hb⟩, ?_, ?_⟩
  · rintro i z acc e1 hz ⟨b, xs, rfl, hl, hr, rfl, hb⟩
    obtain ⟨e2, hu, r, e3, hf, x, b', hx, hR, hw, hb'⟩ := step i z b hz hb
    refine ⟨e2, hu, r, e3, hf, b', xs ++ [x], by rw [hx, List.map_append]; rfl, by simp [hl], fun j z' x' hz' hx' => ?_, hw, hb'⟩
    by_cases hj : j < xs.length
    · rw [List.getElem?_append_left hj] at hx'
      exact hr j z' x' hz' hx'
    · have hj2 : j = xs.length := by
        have := (List.getElem?_eq_some_iff.mp hx').1
        simp at this
        omega
      subst hj2
      rw [hl] at hz'
      rw [hz] at hz'
      cases hz'
      simp at hx'
      subst hx'
      exact hR
  · rintro acc e' ⟨b, xs, rfl, hl, hr, rfl, hb⟩
    rw [hk]
    exact fin xs b hl hr hb
/-- a comprehension that draws nothing -/
theorem wE_pure {src : FA} {vs : List Nat} {u : UG} {f : FE} {env E0 : MEnv} {P : Rv → MEnv → Prop} {α : Type} {zs : List α} (k : α → D) (g : α → D)
    (hs : wA src env fun ds e => ds = zs.map k ∧ e = E0) (hp : plainAt E0 vs = true) (hz : zs.length ≤ sizeLine)
    (step : ∀ z ∈ zs, wU u (k z) (wipeE E0 vs) fun e1 => wipeE e1 vs = wipeE E0 vs ∧ wE f e1 fun r e3 => r.toD = g z ∧ wipeE e3 vs = wipeE E0 vs)
    (fin : P (.l (zs.map g)) E0) : wE (mLc src vs u tYes' f) env P := by
  refine wE_lc1 (zs := zs) k g ?_
  obtain ⟨ds, e, hs, h1, rfl⟩ := hs
  exact ⟨ds, e, hs, h1, hp, hz, step, fin⟩
theorem wE_filt {src : FA} {vs : List Nat} {u : UG} {t : FT} {f : FE} {env E0 : MEnv} {P : Rv → MEnv → Prop} {α : Type} {zs : List α} (k : α → D) (p : α → Bool) (g : α → D)
    (hs : wA src env fun ds e => ds = zs.map k ∧ e = E0) (hp : plainAt E0 vs = true) (hz : zs.length ≤ sizeLine)
    (step : ∀ z ∈ zs, wU u (k z) (wipeE E0 vs) fun e1 => wT t e1 fun b e2 => b = p z ∧ wipeE e2 vs = wipeE E0 vs ∧ (b = true → wE f e2 fun r e3 => r.toD = g z ∧ wipeE e3 vs = wipeE E0 vs))
    (fin : P (.l ((zs.filter p).map g)) E0) : wE (mLc src vs u t f) env P := by
  refine wE_lc (zs := zs) k p g ?_
  obtain ⟨ds, e, hs, h1, rfl⟩ := hs
  exact ⟨ds, e, hs, h1, hp, hz, step, fin⟩
theorem enum_I' : ∀ (L : List Int) (n : Nat), enumD n (I L) = (List.range L.length).map fun k => .tuple [.int ((n + k : Nat) : Int), .int (at' L k)]
  | [], _ => rfl
  | x :: L, n => by
    rw [I, List.map_cons, enumD, enum_I' L (n + 1), List.length_cons, List.range_succ_eq_map, List.map_cons, List.map_map]
    congr 1
    apply List.map_congr_left
    intro k _
    show PyData.tuple [.int ((n + 1 + k : Nat) : Int), _] = PyData.tuple [.int ((n + (k + 1) : Nat) : Int), _]
    rw [show n + 1 + k = n + (k + 1) by omega]
    rfl
theorem wT_look {f : FT} {env : MEnv} {P : Bool → MEnv → Prop} (h : wT f (lookE env) fun b e => e = lookE env ∧ P b env) : wT (tLook f) env P := by
  obtain ⟨b, e, h1, h2, h3⟩ := h
  refine ⟨b, env, ?_, h3⟩
  unfold tLook
  rw [h1]
  simp only [h2, if_true]
def pls (a : Sl) : Prop := (∀ x, a ≠ .ow x) ∧ ∀ x, a ≠ .bo x
theorem pls_un : pls .un := ⟨fun _ h => (by cases h), fun _ h => by cases h⟩
theorem pls_dt {d : D} : pls (.dt d) := ⟨fun _ h => (by cases h), fun _ h => by cases h⟩
theorem plain_at {e : MEnv} {i : Nat} {a : Sl} (h : e[i]? = some a) (hp : pls a) : plainAt e [i] = true := by
  unfold plainAt
  simp only [List.all_cons, List.all_nil, Bool.and_true, h]
  cases a with
  | un => rfl
  | dt d => rfl
  | ow x => exact absurd rfl (hp.1 x)
  | bo x => exact absurd rfl (hp.2 x)
  | xt x => rfl
theorem plain_at2 {e : MEnv} {i j : Nat} {a c : Sl} (h : e[i]? = some a) (h' : e[j]? = some c) (hp : pls a) (hp' : pls c) : plainAt e [i, j] = true := by
  have h1 := plain_at h hp
  have h2 := plain_at h' hp'
  unfold plainAt at h1 h2 ⊢
  simp only [List.all_cons, List.all_nil, Bool.and_true] at h1 h2 ⊢
  rw [h1, h2]; rfl
theorem range_get {n i z : Nat} (h : (List.range n)[i]? = some z) : z = i ∧ i < n := by
  obtain ⟨h1, h2⟩ := List.getElem?_eq_some_iff.mp h
  rw [List.length_range] at h1
  rw [List.getElem_range] at h2
  exact ⟨h2.symm, h1⟩
end LW

namespace LW
open PySem Mir L2 M8
theorem sIx_in {n i : Nat} {d : Nat} (h : i ≤ n) : HT.sIx n d (some (i : Int)) = i := by
  rw [HT.sIx_nat]
  omega
theorem cut_to {α : Type} (xs : List α) {i : Nat} (h : i ≤ xs.length) : cutL xs none (some (i : Int)) = xs.take i := by
  unfold cutL
  rw [sIx_in h, HT.sIx_none]
  simp
theorem cut_from {α : Type} (xs : List α) {i : Nat} (h : i ≤ xs.length) : cutL xs (some (i : Int)) none = xs.drop i := by
  unfold cutL
  rw [sIx_in h, HT.sIx_none]
  rw [List.take_of_length_le (by rw [List.length_drop]; omega)]
theorem gd_I {n : Nat} {f : List Int} (h : f.length ≤ 1000) : Gd (n + 1) (.tuple (I f)) := ⟨by simpa using h, fun x hx => by
  obtain ⟨y, _, rfl⟩ := List.mem_map.mp hx
  cases n <;> trivial⟩
theorem same_I {f : List Int} (h : f.length ≤ 1000) : Z_l_same 12 [.tuple (I f), .tuple (I f)] = some (.d (.bool true)) := same_ok 11 _ (gd_I (n := 10) h)
end LW

namespace LW
open PySem Mir L2 M8
def invOnce (s x : Int) (t : List Int) (i : Nat) (e : MEnv) : Prop := ∃ (f : List Int) (l : Int) (y d : Sl), e = [d, .dt (.int s), .ow (I f ++ [.int l]), y] ∧ f ++ [l] ++ cutFrom s l (t.drop i) = x :: cutFrom s x t ∧ f.length = i
theorem from_len {s : Int} : ∀ (t : List Int) (l : Int), (cutFrom s l t).length = t.length := fun t l => le_len (from_le t l)
theorem once_len {s : Int} (t : List Int) : (cutOnce s t).length = t.length := le_len (once_le t)
theorem len_ne {xs ys : List Int} (h : ys.length = xs.length) (h0 : xs ≠ []) : ys ≠ [] := fun e => by
  subst e
  exact h0 (List.length_eq_zero_iff.mp h.symm)
theorem upside_ok {xs : List Int} (h1 : xs.length ≤ 1000) : Z_upside [.tuple (I xs)] = some (.d (.tuple (I (xs.map (- ·))))) := by
  refine wR_eq ?_
  unfold Z_upside
  refine wR_run rfl ?_
  show wS _ [.dt _, .un] _
  unfold B_upside
  simp only [wE_var, wE_c, wE_1, wE_2, wA_nil, wA_cons, wE_A, wT_bool, wT_yes, wT_not, wT_and, wT_or, wE_ofT, wE_if, wE_chain, wO_no, wO_part, wE_sl, wE_isa, wE_ownLen, wE_ownIx, wE_app, wE_ext, wE_ins, wE_rg1, wE_rg2, wE_rev, wE_popAt, wE_pop, wS_putIx, wE_box, wE_boxNew, wS_seq, wS_nx, wS_ct, wS_bk, wS_set, wS_own, wS_ret, wS_drop, wS_if, wS_retO, wS_frz, wS_asg, wU_name, wUs_nil, wUs_cons, wU_tup2, wU_tup3, wPar_nil, wPar_cons, wS_par, wS_aug, wA_zip2, wA_zip3, wA_zipS, wA_seqIt, wA_range1, wA_range2, wA_enum, wS_for, seqK, lpK, rtK, rbK, wR_some, wB_some, wR_ite, mAnd, mOr, mNot, toD_d, toD_l, f1_one, f2_two, add_i, add_l, add_t, iadd_i, sub_i, mul_i, mul_l, mod_i, fdiv_w, fdOk_2, fdOk_64, fdOk_7, fdOk_m, na10, na2, at3_0, at3_1, at3_2, at2_0, at2_1, Mir.atI_last, ix3_0, ix3_1, ix3_2, pow_i, neg_i, len_l, len_t, abs_i, max2_i, min2_i, int_i, int_b, list_l, list_t, tuple_l, tuple_t, lt_i, le_i, gt_i, ge_i, eq_i, ne_i, eq_b, ne_b, eq_s, ne_s, sl_l, sl_t, src_l, src_t, revL_l, revT_l, slot_f, slot_l, wS_new, ix_l, ix_t, all_b, any_b, sum_l, dLst, dTup, setAll, ownAt, putOwn, frzE, boAt, wipeE, cut_map, cut_from1, cut_to1, List.getElem?_cons_zero, List.getElem?_cons_succ, List.set_cons_zero, List.set_cons_succ, Option.some.injEq, Sl.dt.injEq, Sl.ow.injEq, Sl.bo.injEq, Rv.d.injEq, Rv.l.injEq, PyData.int.injEq, PyData.bool.injEq, PyData.str.injEq, PyData.list.injEq, PyData.tuple.injEq, List.cons.injEq, exists_eq_left', exists_eq_left, exists_eq_right', exists_eq, exists_eq', exists_and_left, exists_const, and_true, true_and, and_assoc, Int.reduceLT, Int.reduceLE, Int.reducePow, Int.reduceToNat, Int.reduceNeg, Int.reduceMul, Int.reduceAdd, Int.reduceSub, Nat.reduceLT, Nat.reduceLeDiff, Nat.reducePow, Nat.reduceAdd, List.length_cons, List.length_nil, List.length_map, forall_const, decide_true, decide_false, Bool.not_true, Bool.not_false, Bool.false_eq_true, Bool.true_eq_false, false_implies, true_implies, reduceCtorEq, eq_self, eq_tI, ne_tI, eq_lI, ne_lI, all_T, wU_lst2, wU_lst3, sz_0, sz_1, sz_2, sz_3, sz_4, sz_5, sz_6, sz_7, sz_8, implies_true, revA_l, revA_t, isB_b, isntB_b, zRev_1, zRev_2, zRev_3, zRev_4, zRev_5, revS_l, revS_t, sumT_l, sumT_t, xW_seq, xW_if, xW_arg, xW_call, xW_raise, xW_raise0, xK, wE_xnone, wE_xfld, wE_xis, Sl.xt.injEq, Xt.exn.injEq, or_false, false_or, lk_hd, inCs_hd, mem_hd, false_and, and_false]
  refine wE_lc1 (zs := xs) PyData.int (fun x => .int (-x)) ?_
  simp only [wE_var, wE_c, wE_1, wE_2, wA_nil, wA_cons, wE_A, wT_bool, wT_yes, wT_not, wT_and, wT_or, wE_ofT, wE_if, wE_chain, wO_no, wO_part, wE_sl, wE_isa, wE_ownLen, wE_ownIx, wE_app, wE_ext, wE_ins, wE_rg1, wE_rg2, wE_rev, wE_popAt, wE_pop, wS_putIx, wE_box, wE_boxNew, wS_seq, wS_nx, wS_ct, wS_bk, wS_set, wS_own, wS_ret, wS_drop, wS_if, wS_retO, wS_frz, wS_asg, wU_name, wUs_nil, wUs_cons, wU_tup2, wU_tup3, wPar_nil, wPar_cons, wS_par, wS_aug, wA_zip2, wA_zip3, wA_zipS, wA_seqIt, wA_range1, wA_range2, wA_enum, wS_for, seqK, lpK, rtK, rbK, wR_some, wB_some, wR_ite, mAnd, mOr, mNot, toD_d, toD_l, f1_one, f2_two, add_i, add_l, add_t, iadd_i, sub_i, mul_i, mul_l, mod_i, fdiv_w, fdOk_2, fdOk_64, fdOk_7, fdOk_m, na10, na2, at3_0, at3_1, at3_2, at2_0, at2_1, Mir.atI_last, ix3_0, ix3_1, ix3_2, pow_i, neg_i, len_l, len_t, abs_i, max2_i, min2_i, int_i, int_b, list_l, list_t, tuple_l, tuple_t, lt_i, le_i, gt_i, ge_i, eq_i, ne_i, eq_b, ne_b, eq_s, ne_s, sl_l, sl_t, src_l, src_t, revL_l, revT_l, slot_f, slot_l, wS_new, ix_l, ix_t, all_b, any_b, sum_l, dLst, dTup, setAll, ownAt, putOwn, frzE, boAt, wipeE, cut_map, cut_from1, cut_to1, List.getElem?_cons_zero, List.getElem?_cons_succ, List.set_cons_zero, List.set_cons_succ, Option.some.injEq, Sl.dt.injEq, Sl.ow.injEq, Sl.bo.injEq, Rv.d.injEq, Rv.l.injEq, PyData.int.injEq, PyData.bool.injEq, PyData.str.injEq, PyData.list.injEq, PyData.tuple.injEq, List.cons.injEq, exists_eq_left', exists_eq_left, exists_eq_right', exists_eq, exists_eq', exists_and_left, exists_const, and_true, true_and, and_assoc, Int.reduceLT, Int.reduceLE, Int.reducePow, Int.reduceToNat, Int.reduceNeg, Int.reduceMul, Int.reduceAdd, Int.reduceSub, Nat.reduceLT, Nat.reduceLeDiff, Nat.reducePow, Nat.reduceAdd, List.length_cons, List.length_nil, List.length_map, forall_const, decide_true, decide_false, Bool.not_true, Bool.not_false, Bool.false_eq_true, Bool.true_eq_false, false_implies, true_implies, reduceCtorEq, eq_self, eq_tI, ne_tI, eq_lI, ne_lI, all_T, wU_lst2, wU_lst3, sz_0, sz_1, sz_2, sz_3, sz_4, sz_5, sz_6, sz_7, sz_8, implies_true, revA_l, revA_t, isB_b, isntB_b, zRev_1, zRev_2, zRev_3, zRev_4, zRev_5, revS_l, revS_t, sumT_l, sumT_t, xW_seq, xW_if, xW_arg, xW_call, xW_raise, xW_raise0, xK, wE_xnone, wE_xfld, wE_xis, Sl.xt.injEq, Xt.exn.injEq, or_false, false_or, lk_hd, inCs_hd, mem_hd, false_and, and_false]
  refine ⟨rfl, szl h1, ?_⟩
  simp
end LW

namespace LW
open PySem Mir L2 M8
def wnd (w : Bool × Int) : D := .tuple [.str (if w.1 = true then "cut" else "fill"), .int w.2]
def dn (f : List Int) (ws : List (Bool × Int)) (i : Nat) : D := .tuple (I (beh f (ws.take i)))
def invDn (f : List Int) (ws : List (Bool × Int)) (i : Nat) (e : MEnv) : Prop := ∃ (y d a : Sl), e = [d, a, .ow ((List.range i).map (dn f ws) ++ [dn f ws i]), y]
theorem dn_all (f : List Int) (ws : List (Bool × Int)) : dn f ws ws.length = .tuple (I (beh f ws)) := by unfold dn; rw [List.take_length]
end LW

namespace M8
def Ok (ws : List (Bool × Int)) : Prop := ∀ w ∈ ws, 0 ≤ w.2
theorem blw_ge {w : Bool × Int} (h : 0 ≤ w.2) (f : List Int) : Adj (ge w.2) (blw w f) := by
  unfold blw
  split
  · exact down_ge h f
  · exact fill_ge h f
theorem blw_keep {w : Bool × Int} (h : 0 ≤ w.2) {c : Int} {f : List Int} (a : Adj (ge c) f) : Adj (ge c) (blw w f) := by
  unfold blw
  split
  · exact down_keep h a
  · exact fill_keep h a
theorem blw_idle {w : Bool × Int} (h : 0 ≤ w.2) (f : List Int) : Adj (ge w.2) f ↔ blw w f = f := by
  unfold blw
  split
  · exact down_idle h f
  · exact fill_idle h f
theorem beh_nil (f : List Int) : beh f [] = f := rfl
theorem beh_cons (f : List Int) (w : Bool × Int) (ws : List (Bool × Int)) : beh f (w :: ws) = beh (blw w f) ws := rfl
theorem beh_app (f : List Int) (us ws : List (Bool × Int)) : beh f (us ++ ws) = beh (beh f us) ws := List.foldl_append
theorem beh_keep {c : Int} : ∀ {ws : List (Bool × Int)} {f : List Int}, Ok ws → Adj (ge c) f → Adj (ge c) (beh f ws)
  | [], _, _, a => a
  | w :: ws, f, h, a => beh_keep (f := blw w f) (fun x hx => h x (List.mem_cons_of_mem _ hx)) (blw_keep (h w (List.mem_cons_self ..)) a)
theorem beh_ge {w : Bool × Int} : ∀ {ws : List (Bool × Int)} {f : List Int}, Ok ws → w ∈ ws → Adj (ge w.2) (beh f ws)
  | v :: ws, f, h, hw => by
    have h' : Ok ws := fun x hx => h x (List.mem_cons_of_mem _ hx)
    rcases List.mem_cons.mp hw with rfl | hw
    · exact beh_keep (ws := ws) (f := blw w f) h' (blw_ge (h w (List.mem_cons_self ..)) f)
    · exact beh_ge (f := blw v f) h' hw
theorem beh_fix {c : Int} : ∀ {ws : List (Bool × Int)} {f : List Int}, Ok ws → (∀ w ∈ ws, c ≤ w.2) → Adj (ge c) f → beh f ws = f
  | [], _, _, _, _ => rfl
  | w :: ws, f, h, hc, a => by
    have e : blw w f = f := (blw_idle (h w (List.mem_cons_self ..)) f).mp (ge_mono (hc w (List.mem_cons_self ..)) a)
    rw [beh_cons, e]
    exact beh_fix (fun x hx => h x (List.mem_cons_of_mem _ hx)) (fun x hx => hc x (List.mem_cons_of_mem _ hx)) a
/-- the same winds again, in any order: nothing -/
theorem beh_again {ws us : List (Bool × Int)} (h : Ok ws) (hu : ∀ w ∈ us, w ∈ ws) (f : List Int) (hne : ws ≠ []) : beh (beh f ws) us = beh f ws := by
  have : ∃ m ∈ ws.map (·.2), ∀ x ∈ ws.map (·.2), m ≤ x := least (by simpa using hne)
  obtain ⟨m, h1, h2⟩ := this
  obtain ⟨w, hw, rfl⟩ := List.mem_map.mp h1
  exact beh_fix (fun x hx => h x (hu x hx)) (fun x hx => h2 _ (List.mem_map.mpr ⟨x, hu x hx, rfl⟩)) (beh_ge h hw)
theorem beh_same {ws : List (Bool × Int)} (h : Ok ws) (f : List Int) : beh (beh f ws) ws = beh f ws := by
  cases ws with
  | nil => rfl
  | cons w ws => exact beh_again h (fun _ hx => hx) f (by simp)
theorem beh_stands {ws : List (Bool × Int)} (h : Ok ws) {m : Int} (h1 : ∃ w ∈ ws, w.2 = m) (h2 : ∀ w ∈ ws, m ≤ w.2) (f : List Int) : beh f ws = f ↔ Adj (ge m) f := by
  constructor
  · intro e
    obtain ⟨w, hw, rfl⟩ := h1
    rw [← e]; exact beh_ge h hw
  · exact fun a => beh_fix h h2 a
/-- a wind no gentler than one ahead of it is idle -/
theorem beh_more {ws : List (Bool × Int)} (h : Ok ws) {at_ spot : Nat} (h1 : at_ < spot) {v g : Bool × Int} (hv : ws[at_]? = some v) (hg : v.2 ≤ g.2) (f : List Int) : blw g (beh f (ws.take spot)) = beh f (ws.take spot) := by
  have hv0 := h v (List.mem_of_getElem? hv)
  have hm : v ∈ ws.take spot := by
    rw [List.mem_take_iff_getElem]
    obtain ⟨hl, e⟩ := List.getElem?_eq_some_iff.mp hv
    exact ⟨at_, by omega, e⟩
  exact (blw_idle (by omega) _).mp (ge_mono hg (beh_ge (fun x hx => h x (List.mem_of_mem_take hx)) hm))
end M8

namespace M8
abbrev Wd := Bool × Int
def pushR : List Wd → Wd → List Wd
  | [], w => [w]
  | l :: r, w => if l.2 ≤ w.2 then l :: r else if l.1 = w.1 then w :: r else w :: l :: r
theorem pushR_cons (l : Wd) (r : List Wd) (w : Wd) : pushR (l :: r) w = if l.2 ≤ w.2 then l :: r else if l.1 = w.1 then w :: r else w :: l :: r := rfl
def coreR (ws : List Wd) : List Wd := ws.foldl pushR []
def coreF (ws : List Wd) : List Wd := (coreR ws).reverse
theorem coreR_snoc (ws : List Wd) (w : Wd) : coreR (ws ++ [w]) = pushR (coreR ws) w := by unfold coreR; rw [List.foldl_append]; rfl
theorem cut_cut {s t : Int} (hs : 0 ≤ s) (st : s ≤ t) (g : List Int) : cutDown s (cutDown t g) = cutDown s g :=
  le_anti (down_mono hs (down_le g)) (down_best (down_ge hs g) (down_best (ge_mono st (down_ge hs g)) (down_le g)))
theorem blw_blw {w l : Wd} (hw : 0 ≤ w.2) (h1 : l.1 = w.1) (h2 : w.2 ≤ l.2) (g : List Int) : blw w (blw l g) = blw w g := by
  unfold blw
  rw [h1]
  split
  · exact cut_cut hw h2 g
  · unfold fillUp
    rw [ng_ng, cut_cut hw h2]
theorem push_ok {R : List Wd} {w : Wd} (h : Ok R) (hw : 0 ≤ w.2) : Ok (pushR R w) := by
  cases R with
  | nil => intro x hx; rw [List.mem_singleton.mp hx]; exact hw
  | cons l r =>
    rw [pushR_cons]
    split
    · exact h
    · split
      · intro x hx
        rcases List.mem_cons.mp hx with rfl | hx
        · exact hw
        · exact h x (List.mem_cons_of_mem _ hx)
      · intro x hx
        rcases List.mem_cons.mp hx with rfl | hx
        · exact hw
        · exact h x hx
theorem beh_push {R : List Wd} {w : Wd} (h : Ok R) (hw : 0 ≤ w.2) (f : List Int) : beh f (pushR R w).reverse = beh f (R.reverse ++ [w]) := by
  cases R with
  | nil => rfl
  | cons l r =>
    have hl : 0 ≤ l.2 := h l (by simp)
    rw [pushR_cons]
    split
    · rename_i h1
      rw [beh_app]
      show _ = blw w (beh f (l :: r).reverse)
      refine ((blw_idle hw _).mp (ge_mono h1 ?_)).symm
      exact beh_ge (fun x hx => h x (List.mem_reverse.mp hx)) (by simp)
    · rename_i h1
      split
      · rename_i h2
        rw [List.reverse_cons, List.reverse_cons, beh_app, beh_app, beh_app]
        exact (blw_blw hw h2 (by omega) (beh f r.reverse)).symm
      · rw [List.reverse_cons]
theorem foldl_ok {R ws : List Wd} (h : Ok R) (hw : Ok ws) : Ok (ws.foldl pushR R) := by
  induction ws generalizing R with
  | nil => exact h
  | cons w ws ih => exact ih (push_ok h (hw w (by simp))) fun x hx => hw x (by simp [hx])
theorem beh_foldl {R ws : List Wd} (h : Ok R) (hw : Ok ws) (f : List Int) : beh f (ws.foldl pushR R).reverse = beh f (R.reverse ++ ws) := by
  induction ws generalizing R with
  | nil => simp
  | cons w ws ih =>
    have h0 := hw w (by simp)
    rw [List.foldl_cons, ih (push_ok h h0) fun x hx => hw x (by simp [hx]), beh_app, beh_push h h0, ← beh_app]
    simp
theorem beh_core {ws : List Wd} (hw : Ok ws) (f : List Int) : beh f (coreF ws) = beh f ws := by
  have := beh_foldl (R := []) (fun x hx => by simp at hx) hw f
  unfold coreF coreR
  simpa using this
theorem core_okW {ws : List Wd} (hw : Ok ws) : Ok (coreF ws) := fun x hx => foldl_ok (R := []) (fun x hx => by simp at hx) hw x (List.mem_reverse.mp hx)
theorem push_mem {R : List Wd} {w x : Wd} (h : x ∈ pushR R w) : x ∈ R ∨ x = w := by
  cases R with
  | nil => exact .inr (List.mem_singleton.mp h)
  | cons l r =>
    rw [pushR_cons] at h
    split at h
    · exact .inl h
    · split at h
      · rcases List.mem_cons.mp h with h | h
        · exact .inr h
        · exact .inl (List.mem_cons_of_mem _ h)
      · rcases List.mem_cons.mp h with h | h
        · exact .inr h
        · exact .inl h
theorem foldl_mem {R ws : List Wd} {x : Wd} (h : x ∈ ws.foldl pushR R) : x ∈ R ∨ x ∈ ws := by
  induction ws generalizing R with
  | nil => exact .inl h
  | cons w ws ih =>
    rcases ih h with h | h
    · rcases push_mem h with h | h
      · exact .inl h
      · exact .inr (by simp [h])
    · exact .inr (by simp [h])
theorem core_mem {ws : List Wd} {x : Wd} (h : x ∈ coreF ws) : x ∈ ws := by
  rcases foldl_mem (List.mem_reverse.mp h) with h | h
  · simp at h
  · exact h
theorem push_len (R : List Wd) (w : Wd) : (pushR R w).length ≤ R.length + 1 := by
  cases R with
  | nil => simp [pushR]
  | cons l r => rw [pushR_cons]; split <;> (try split) <;> simp
theorem core_len (ws : List Wd) : (coreF ws).length ≤ ws.length := by
  have : ∀ R : List Wd, (ws.foldl pushR R).length ≤ R.length + ws.length := by
    induction ws with
    | nil => intro R; simp
    | cons w ws ih => intro R; have := ih (pushR R w); have := push_len R w; simp; omega
  have := this []
  unfold coreF coreR
  simpa using this
/-- strictly gentler, words in turn -/
def Str : List Wd → Prop
  | [] => True
  | [_] => True
  | l :: m :: r => l.2 < m.2 ∧ l.1 ≠ m.1 ∧ Str (m :: r)
theorem push_str {R : List Wd} {w : Wd} (h : Str R) : Str (pushR R w) := by
  match R, h with
  | [], _ => trivial
  | [l], _ =>
    rw [pushR_cons]
    split
    · trivial
    · split
      · trivial
      · rename_i h1 h2
        exact ⟨by omega, fun e => h2 e.symm, trivial⟩
  | l :: m :: r, h =>
    rw [pushR_cons]
    split
    · exact h
    · rename_i h1
      split
      · rename_i h2
        exact ⟨by have := h.1; omega, fun e => h.2.1 (h2.trans e), h.2.2⟩
      · rename_i h2
        exact ⟨by omega, fun e => h2 e.symm, h⟩
theorem coreR_str (ws : List Wd) : Str (coreR ws) := by
  have : ∀ R : List Wd, Str R → Str (ws.foldl pushR R) := by
    induction ws with
    | nil => exact fun R h => h
    | cons w ws ih => exact fun R h => ih _ (push_str h)
  exact this [] trivial
theorem core_of_str : ∀ {R : List Wd}, Str R → coreR R.reverse = R
  | [], _ => rfl
  | [l], _ => rfl
  | l :: m :: r, h => by
    rw [List.reverse_cons, coreR_snoc, core_of_str h.2.2]
    rw [pushR_cons]
    rw [if_neg (by have := h.1; omega), if_neg fun e => h.2.1 e.symm]
theorem core_core (ws : List Wd) : coreF (coreF ws) = coreF ws := by
  unfold coreF
  rw [core_of_str (coreR_str ws)]
/-- one more of the same word, no gentler, just ahead -/
theorem push_same {R : List Wd} {w v : Wd} (h1 : v.1 = w.1) (h2 : w.2 ≤ v.2) : pushR (pushR R v) w = pushR R w := by
  have key : ∀ r : List Wd, pushR (v :: r) w = w :: r := fun r => by
    rw [pushR_cons]
    by_cases h : v.2 ≤ w.2
    · rw [if_pos h]
      have : v = w := Prod.ext h1 (by omega)
      rw [this]
    · rw [if_neg h, if_pos h1]
  cases R with
  | nil => exact key []
  | cons l r =>
    by_cases h : l.2 ≤ v.2
    · rw [show pushR (l :: r) v = l :: r by rw [pushR_cons]; rw [if_pos h]]
    · have hw : ¬ l.2 ≤ w.2 := by omega
      by_cases e : l.1 = v.1
      · rw [show pushR (l :: r) v = v :: r by rw [pushR_cons]; rw [if_neg h, if_pos e], key]
        rw [pushR_cons]
        rw [if_neg hw, if_pos (e.trans h1)]
      · rw [show pushR (l :: r) v = v :: l :: r by rw [pushR_cons]; rw [if_neg h, if_neg e], key]
        rw [pushR_cons]
        rw [if_neg hw, if_neg fun z => e (z.trans h1.symm)]
def Top (c : Int) (R : List Wd) : Prop := ∃ l r, R = l :: r ∧ l.2 ≤ c
theorem top_push {c : Int} {R : List Wd} (h : Top c R) (w : Wd) : Top c (pushR R w) := by
  obtain ⟨l, r, rfl, hl⟩ := h
  rw [pushR_cons]
  split
  · exact ⟨l, r, rfl, hl⟩
  · split
    · exact ⟨w, r, rfl, by omega⟩
    · exact ⟨w, l :: r, rfl, by omega⟩
theorem top_new (R : List Wd) (w : Wd) : Top w.2 (pushR R w) := by
  cases R with
  | nil => exact ⟨w, [], rfl, by omega⟩
  | cons l r =>
    rw [pushR_cons]
    split
    · exact ⟨l, r, rfl, by assumption⟩
    · split
      · exact ⟨w, r, rfl, by omega⟩
      · exact ⟨w, l :: r, rfl, by omega⟩
theorem top_foldl {c : Int} {ws : List Wd} : ∀ {R : List Wd}, Top c R → Top c (ws.foldl pushR R) := by
  induction ws with
  | nil => exact fun h => h
  | cons w ws ih => exact fun h => ih (top_push h w)
theorem top_mem {w : Wd} {ws : List Wd} : ∀ {R : List Wd}, w ∈ ws → Top w.2 (ws.foldl pushR R) := by
  induction ws with
  | nil => exact fun h => by simp at h
  | cons v ws ih =>
    intro R h
    rcases List.mem_cons.mp h with rfl | h
    · exact top_foldl (ws := ws) (R := pushR R w) (top_new R w)
    · exact ih (R := pushR R v) h
theorem push_top {R : List Wd} {g : Wd} (h : Top g.2 R) : pushR R g = R := by
  obtain ⟨l, r, rfl, hl⟩ := h
  rw [pushR_cons]
  rw [if_pos hl]
theorem core_before {us vs : List Wd} {w v : Wd} (h1 : v.1 = w.1) (h2 : w.2 ≤ v.2) : coreF (us ++ [v] ++ w :: vs) = coreF (us ++ w :: vs) := by
  unfold coreF coreR
  rw [List.foldl_append, List.foldl_append, List.foldl_append, List.foldl_cons, List.foldl_cons, List.foldl_cons, List.foldl_nil, push_same h1 h2]
theorem core_behind {us vs : List Wd} {w g : Wd} (h : w ∈ us) (h2 : w.2 ≤ g.2) : coreF (us ++ [g] ++ vs) = coreF (us ++ vs) := by
  unfold coreF coreR
  rw [List.foldl_append, List.foldl_append, List.foldl_append, List.foldl_cons, List.foldl_nil]
  obtain ⟨l, r, e, hl⟩ := top_mem (R := []) h
  rw [push_top ⟨l, r, e, by omega⟩]
/-- by records and runs -/
def recP : List Wd → Wd → List Wd
  | [], w => [w]
  | l :: r, w => if w.2 < l.2 then w :: l :: r else l :: r
theorem recP_cons (l : Wd) (r : List Wd) (w : Wd) : recP (l :: r) w = if w.2 < l.2 then w :: l :: r else l :: r := rfl
def colA (x : Wd) : List Wd → List Wd
  | [] => []
  | y :: t => if x.1 ≠ y.1 then y :: colA y t else colA y t
def colR : List Wd → List Wd
  | [] => []
  | x :: t => x :: colA x t
theorem col_push (R : List Wd) (w : Wd) : colR (recP R w) = pushR (colR R) w := by
  cases R with
  | nil => rfl
  | cons l r =>
    rw [recP_cons]
    by_cases h : w.2 < l.2
    · rw [if_pos h]
      show w :: colA w (l :: r) = pushR (l :: colA l r) w
      rw [pushR_cons]
      rw [if_neg (by omega), colA]
      by_cases e : l.1 = w.1
      · rw [if_pos e, if_neg (by simp [e])]
      · rw [if_neg e, if_pos fun z => e z.symm]
    · rw [if_neg h]
      show l :: colA l r = pushR (l :: colA l r) w
      rw [pushR_cons]
      rw [if_pos (by omega)]
theorem col_core (ws : List Wd) : colR (ws.foldl recP []) = coreR ws := by
  have : ∀ R : List Wd, colR (ws.foldl recP R) = ws.foldl pushR (colR R) := by
    induction ws with
    | nil => exact fun R => rfl
    | cons w ws ih => exact fun R => by rw [List.foldl_cons, List.foldl_cons, ih, col_push]
  exact this []
def kpt (L : List Wd) (x : Wd) : List Wd := ((List.range L.length).filter fun k => decide ((L.getD (k + 1) x).1 ≠ (L.getD k x).1)).map fun k => L.getD k x
theorem getD_app {L : List Wd} {y x : Wd} {k : Nat} (h : k ≤ L.length) : (L ++ [y]).getD k x = L.getD k y := by
  rw [List.getD_eq_getElem?_getD, List.getD_eq_getElem?_getD]
  by_cases e : k < L.length
  · rw [List.getElem?_append_left e, List.getElem?_eq_getElem e]; rfl
  · rw [show k = L.length by omega]; simp
theorem kpt_snoc (L : List Wd) (y x : Wd) : kpt (L ++ [y]) x = kpt L y ++ if x.1 ≠ y.1 then [y] else [] := by
  unfold kpt
  rw [List.length_append, List.length_singleton, List.range_succ, List.filter_append, List.map_append]
  congr 1
  · have : (List.range L.length).filter (fun k => decide (((L ++ [y]).getD (k + 1) x).1 ≠ ((L ++ [y]).getD k x).1)) = (List.range L.length).filter (fun k => decide ((L.getD (k + 1) y).1 ≠ (L.getD k y).1)) := by
      apply List.filter_congr
      intro k hk
      have := List.mem_range.mp hk
      rw [getD_app (by omega), getD_app (by omega)]
    rw [this]
    apply List.map_congr_left
    intro k hk
    have := List.mem_range.mp (List.mem_filter.mp hk).1
    rw [getD_app (by omega)]
  · have e1 : (L ++ [y]).getD (L.length + 1) x = x := by rw [List.getD_eq_getElem?_getD, List.getElem?_eq_none (by simp)]; rfl
    have e2 : (L ++ [y]).getD L.length x = y := by rw [List.getD_eq_getElem?_getD]; simp
    by_cases h : x.1 ≠ y.1
    · rw [if_pos h]; simp [e1, e2, h]
    · rw [if_neg h]; simp [e1, e2, h]
theorem kpt_col (x : Wd) : ∀ t : List Wd, kpt t.reverse x = (colA x t).reverse
  | [] => rfl
  | y :: t => by
    rw [List.reverse_cons, kpt_snoc, kpt_col y t, colA]
    split
    · rw [List.reverse_cons]
    · simp
/-- as the law keeps them -/
theorem kept_core {R : List Wd} {L : List Wd} (h : L = R.reverse) (d : Wd) : ((List.range L.length).filter fun k => decide (k + 1 = L.length) || decide ((L.getD (k + 1) d).1 ≠ (L.getD k d).1)).map (fun k => L.getD k d) = (colR R).reverse := by
  subst h
  cases R with
  | nil => rfl
  | cons x t =>
    rw [show colR (x :: t) = x :: colA x t from rfl, List.reverse_cons, List.reverse_cons, ← kpt_col x t]
    unfold kpt
    rw [List.length_append, List.length_singleton, List.range_succ, List.filter_append, List.map_append]
    congr 1
    · have : (List.range t.reverse.length).filter (fun k => decide (k + 1 = t.reverse.length + 1) || decide (((t.reverse ++ [x]).getD (k + 1) d).1 ≠ ((t.reverse ++ [x]).getD k d).1)) = (List.range t.reverse.length).filter (fun k => decide ((t.reverse.getD (k + 1) x).1 ≠ (t.reverse.getD k x).1)) := by
        apply List.filter_congr
        intro k hk
        have := List.mem_range.mp hk
        rw [getD_app (by omega), getD_app (by omega), decide_eq_false (by omega : ¬ k + 1 = t.reverse.length + 1), Bool.false_or]
      rw [this]
      apply List.map_congr_left
      intro k hk
      have := List.mem_range.mp (List.mem_filter.mp hk).1
      rw [getD_app (by omega)]
    · have e2 : (t.reverse ++ [x]).getD t.reverse.length d = x := by rw [List.getD_eq_getElem?_getD]; simp
      simp [e2]
end M8

namespace M8
theorem two_winds (b : Bool) {s t : Int} (hs : 0 ≤ s) (ht : 0 ≤ t) (f : List Int) : beh f [(b, s), (b, t)] = blw (b, if t < s then t else s) f := by
  show blw (b, t) (blw (b, s) f) = _
  by_cases h : t < s
  · rw [if_pos h]
    exact blw_blw (w := (b, t)) (l := (b, s)) ht rfl (by show t ≤ s; omega) f
  · rw [if_neg h]
    exact (blw_idle (w := (b, t)) ht _).mp (ge_mono (by show s ≤ t; omega) (blw_ge (w := (b, s)) hs f))
theorem le_add (c : Int) : ∀ {a b : List Int}, Le a b → Le (a.map (· + c)) (b.map (· + c))
  | [], [], _ => trivial
  | x :: a, y :: b, h => ⟨by have := h.1; show x + c ≤ y + c; omega, le_add c h.2⟩
  | [], _ :: _, h => h.elim
  | _ :: _, [], h => h.elim
theorem add_back (c : Int) : ∀ a : List Int, (a.map (· + c)).map (· + -c) = a
  | [] => rfl
  | x :: a => by
    show (x + c + -c) :: (a.map (· + c)).map (· + -c) = _
    rw [add_back c a, show x + c + -c = x by omega]
theorem add_forth (c : Int) : ∀ a : List Int, (a.map (· + -c)).map (· + c) = a
  | [] => rfl
  | x :: a => by
    show (x + -c + c) :: (a.map (· + -c)).map (· + c) = _
    rw [add_forth c a, show x + -c + c = x by omega]
theorem down_add {s : Int} (hs : 0 ≤ s) (c : Int) (f : List Int) : cutDown s (f.map (· + c)) = (cutDown s f).map (· + c) := by
  have half : ∀ (c : Int) (f : List Int), Le ((cutDown s f).map (· + c)) (cutDown s (f.map (· + c))) := fun c f => down_best (adj_lift (down_ge hs f)) (le_add c (down_le f))
  refine le_anti ?_ (half c f)
  have h := le_add c (half (-c) (f.map (· + c)))
  rw [add_back, add_forth] at h
  exact h
theorem ng_add (c : Int) : ∀ f : List Int, ng (f.map (· + c)) = (ng f).map (· + -c)
  | [] => rfl
  | x :: f => by
    show -(x + c) :: ng (f.map (· + c)) = (-x + -c) :: (ng f).map (· + -c)
    rw [ng_add c f, show -(x + c) = -x + -c by omega]
theorem fill_add {s : Int} (hs : 0 ≤ s) (c : Int) (f : List Int) : fillUp s (f.map (· + c)) = (fillUp s f).map (· + c) := by
  unfold fillUp
  rw [ng_add, down_add hs, ng_add, Int.neg_neg]
theorem blw_add {w : Wd} (hs : 0 ≤ w.2) (c : Int) (f : List Int) : blw w (f.map (· + c)) = (blw w f).map (· + c) := by
  unfold blw
  split
  · exact down_add hs c f
  · exact fill_add hs c f
theorem ge_rev {s : Int} {f : List Int} (h : Adj (ge s) f) : Adj (ge s) f.reverse := adj_imp (fun a b h => ⟨h.2, h.1⟩) (adj_rev h)
theorem down_rev {s : Int} (hs : 0 ≤ s) (f : List Int) : cutDown s f.reverse = (cutDown s f).reverse := by
  have half : ∀ f : List Int, Le (cutDown s f).reverse (cutDown s f.reverse) := fun f => down_best (ge_rev (down_ge hs f)) (le_rev (down_le f))
  refine le_anti ?_ (half f)
  have h := le_rev (half f.reverse)
  rw [List.reverse_reverse, List.reverse_reverse] at h
  exact h
theorem fill_rev {s : Int} (hs : 0 ≤ s) (f : List Int) : fillUp s f.reverse = (fillUp s f).reverse := by
  unfold fillUp
  rw [show ng f.reverse = (ng f).reverse from List.map_reverse, down_rev hs]
  exact List.map_reverse
theorem blw_rev {w : Wd} (hs : 0 ≤ w.2) (f : List Int) : blw w f.reverse = (blw w f).reverse := by
  unfold blw
  split
  · exact down_rev hs f
  · exact fill_rev hs f
theorem blw_ng (b : Bool) (s : Int) (f : List Int) : blw (!b, s) (ng f) = ng (blw (b, s) f) := by
  cases b
  · show cutDown s (ng f) = ng (ng (cutDown s (ng f)))
    rw [ng_ng]
  · show ng (cutDown s (ng (ng f))) = ng (cutDown s f)
    rw [ng_ng]
theorem blw_mono {w : Wd} (hs : 0 ≤ w.2) {f g : List Int} (h : Le f g) : Le (blw w f) (blw w g) := by
  unfold blw
  split
  · exact down_mono hs h
  · exact fill_mono hs h
theorem le_sum : ∀ {f m : List Int}, f.length = m.length → (∀ x ∈ m, 0 ≤ x) → Le f ((f.zip m).map fun p => p.1 + p.2)
  | [], [], _, _ => trivial
  | x :: f, y :: m, h, k => ⟨by have := k y (by simp); show x ≤ x + y; omega, le_sum (by simpa using h) fun z hz => k z (by simp [hz])⟩
  | [], _ :: _, h, _ => by simp at h
  | _ :: _, [], h, _ => by simp at h
theorem sum_le {M : Int} : ∀ {f m : List Int}, f.length = m.length → (∀ x ∈ m, x ≤ M) → Le ((f.zip m).map fun p => p.1 + p.2) (f.map (· + M))
  | [], [], _, _ => trivial
  | x :: f, y :: m, h, k => ⟨by have := k y (by simp); show x + y ≤ x + M; omega, sum_le (by simpa using h) fun z hz => k z (by simp [hz])⟩
  | [], _ :: _, h, _ => by simp at h
  | _ :: _, [], h, _ => by simp at h
theorem zip_add {M : Int} : ∀ {a b : List Int}, Le b (a.map (· + M)) → ∀ p ∈ a.zip b, p.2 ≤ p.1 + M
  | [], [], _, p, h => by simp at h
  | x :: a, y :: b, h, p, hp => by
    rw [List.zip_cons_cons] at hp
    rcases List.mem_cons.mp hp with rfl | hp
    · exact h.1
    · exact zip_add h.2 p hp
  | [], _ :: _, h, _, _ => h.elim
  | _ :: _, [], h, _, _ => h.elim
end M8

namespace M8
/-- a wind over two posts, the left one not the higher -/
def act (w : Wd) (p : Int × Int) : Int × Int := if w.2 < p.2 - p.1 then (if w.1 = true then (p.1, p.1 + w.2) else (p.2 - w.2, p.2)) else p
theorem cut2 {s a b : Int} (hs : 0 ≤ s) (h : a ≤ b) : cutDown s [a, b] = if s < b - a then [a, a + s] else [a, b] := by
  simp only [cutDown, cutOnce, cutFrom, List.reverse_cons, List.reverse_nil, List.nil_append, List.singleton_append, List.cons_append]
  by_cases c : s < b - a
  · rw [if_pos c, if_pos (by omega : a + s < b), if_neg (by omega)]
  · rw [if_neg c, if_neg (by omega : ¬ a + s < b), if_neg (by omega)]
theorem cut2' {s a b : Int} (hs : 0 ≤ s) (h : b ≤ a) : cutDown s [a, b] = if s < a - b then [b + s, b] else [a, b] := by
  have e := down_rev hs [b, a]
  rw [cut2 hs h] at e
  rw [show [a, b] = [b, a].reverse from rfl, e]
  split <;> rfl
theorem blw2 {w : Wd} (hs : 0 ≤ w.2) {p : Int × Int} (h : p.1 ≤ p.2) : blw w [p.1, p.2] = [(act w p).1, (act w p).2] ∧ (act w p).1 ≤ (act w p).2 := by
  obtain ⟨a, b⟩ := p
  obtain ⟨c, s⟩ := w
  simp only at hs h ⊢
  unfold blw act
  cases c
  · simp only [Bool.false_eq_true, if_false]
    unfold fillUp
    rw [show ng [a, b] = [-a, -b] from rfl, cut2' hs (by omega)]
    by_cases k : s < b - a
    · rw [if_pos k, if_pos (by omega)]
      exact ⟨by simp [ng]; omega, by show b - s ≤ b; omega⟩
    · rw [if_neg k, if_neg (by omega)]
      exact ⟨by simp [ng], h⟩
  · simp only [if_true]
    rw [cut2 hs h]
    by_cases k : s < b - a
    · rw [if_pos k, if_pos k]; exact ⟨rfl, by show a ≤ a + s; omega⟩
    · rw [if_neg k, if_neg k]; exact ⟨rfl, h⟩
def acts (p : Int × Int) (ws : List Wd) : Int × Int := ws.foldl (fun p w => act w p) p
theorem beh2 {ws : List Wd} (hw : Ok ws) : ∀ {p : Int × Int}, p.1 ≤ p.2 → beh [p.1, p.2] ws = [(acts p ws).1, (acts p ws).2] ∧ (acts p ws).1 ≤ (acts p ws).2 := by
  induction ws with
  | nil => exact fun h => ⟨rfl, h⟩
  | cons w ws ih =>
    intro p h
    obtain ⟨e, h'⟩ := blw2 (hw w (by simp)) h
    rw [beh_cons, e]
    exact ih (fun x hx => hw x (by simp [hx])) h'
theorem act_shift (w : Wd) (p : Int × Int) (c : Int) : act w (p.1 + c, p.2 + c) = ((act w p).1 + c, (act w p).2 + c) := by
  unfold act
  simp only
  rw [show p.2 + c - (p.1 + c) = p.2 - p.1 by omega]
  split
  · split
    · exact Prod.ext rfl (by show p.1 + c + w.2 = p.1 + w.2 + c; omega)
    · exact Prod.ext (by show p.2 + c - w.2 = p.2 - w.2 + c; omega) rfl
  · rfl
theorem acts_shift (ws : List Wd) : ∀ (p : Int × Int) (c : Int), acts (p.1 + c, p.2 + c) ws = ((acts p ws).1 + c, (acts p ws).2 + c) := by
  induction ws with
  | nil => exact fun _ _ => rfl
  | cons w ws ih =>
    intro p c
    show acts (act w (p.1 + c, p.2 + c)) ws = _
    rw [act_shift]
    exact ih _ c
theorem acts_cons (p : Int × Int) (w : Wd) (ws : List Wd) : acts p (w :: ws) = acts (act w p) ws := rfl
theorem acts_app (p : Int × Int) (us ws : List Wd) : acts p (us ++ ws) = acts (acts p us) ws := List.foldl_append
theorem acts_idle {p : Int × Int} : ∀ {ws : List Wd}, (∀ w ∈ ws, p.2 - p.1 ≤ w.2) → acts p ws = p
  | [], _ => rfl
  | w :: ws, h => by
    rw [acts_cons, show act w p = p by unfold act; rw [if_neg (by have := h w (by simp); omega)]]
    exact acts_idle fun x hx => h x (by simp [hx])
/-- R: a core, its last and gentlest wind ahead -/
theorem str_tail {w : Wd} {R : List Wd} (h : Str (w :: R)) : Str R := by
  cases R with
  | nil => trivial
  | cons m r => exact h.2.2
theorem str_lt : ∀ {R : List Wd} {w : Wd}, Str (w :: R) → ∀ v ∈ R, w.2 < v.2
  | m :: r, w, h, v, hv => by
    rcases List.mem_cons.mp hv with rfl | hv
    · exact h.1
    · have := str_lt h.2.2 v hv
      have := h.1
      omega
theorem str_drop : ∀ (k : Nat) {R : List Wd}, Str R → Str (R.drop k)
  | 0, _, h => h
  | _ + 1, [], _ => trivial
  | k + 1, w :: R, h => str_drop k (str_tail h)
/-- winds that are too steep for h do nothing at first -/
theorem acts_take {R : List Wd} {k : Nat} {h : Int} (hk : ∀ w ∈ R.drop k, h ≤ w.2) : acts (0, h) R.reverse = acts (0, h) (R.take k).reverse := by
  have e : acts (0, h) (R.drop k).reverse = (0, h) := acts_idle fun w hw => by
    have := hk w (List.mem_reverse.mp hw)
    show h - 0 ≤ w.2
    omega
  rw [show R.reverse = (R.drop k).reverse ++ (R.take k).reverse by rw [← List.reverse_append, List.take_append_drop], acts_app, e]
/-- one wind more, of slope h - 1, of the other word: other ends -/
theorem acts_more {T : List Wd} {w : Wd} (hw : 0 ≤ w.2) (hT : ∀ v r, T = v :: r → v.1 ≠ w.1 ∧ v.2 < w.2 ∧ 0 ≤ v.2) : acts (0, w.2 + 1) (w :: T) ≠ acts (0, w.2 + 1) T := by
  obtain ⟨c, s⟩ := w
  simp only at hw hT ⊢
  have e1 : act (c, s) (0, s + 1) = if c = true then (0, s) else (1, s + 1) := by
    unfold act
    simp only
    rw [if_pos (by omega)]
    cases c
    · exact Prod.ext (by show s + 1 - s = 1; omega) rfl
    · exact Prod.ext rfl (by show 0 + s = s; omega)
  rw [acts_cons, e1]
  cases T with
  | nil =>
    cases c
    · intro z; have := congrArg Prod.fst z; simp [acts] at this
    · intro z
      have : s = s + 1 := congrArg Prod.snd z
      omega
  | cons v r =>
    obtain ⟨h1, h2, h3⟩ := hT v r rfl
    obtain ⟨d, q⟩ := v
    simp only at h1 h2 h3
    rw [acts_cons, acts_cons]
    have key : ∀ a b : Int × Int, b = (a.1 + 1, a.2 + 1) → acts a r ≠ acts b r := fun a b e z => by
      rw [e, acts_shift] at z
      have := congrArg Prod.fst z
      simp only at this
      omega
    cases c
    · have hd : d = true := by cases d <;> simp_all
      subst hd
      refine (key _ _ ?_).symm
      unfold act
      simp only [Bool.false_eq_true, if_false, if_true]
      rw [if_pos (by omega), if_pos (by omega)]
      exact Prod.ext (by show (1 : Int) = 0 + 1; omega) (by show 1 + q = 0 + q + 1; omega)
    · have hd : d = false := by cases d <;> simp_all
      subst hd
      refine key _ _ ?_
      unfold act
      simp only [Bool.false_eq_true, if_false, if_true]
      rw [if_pos (by omega), if_pos (by omega)]
      exact Prod.ext (by show s + 1 - q = s - q + 1; omega) rfl
end M8

/-! two dunes beside each other -/
namespace M8
def gap (p : Int × Int) : Int := if p.1 - p.2 < 0 then -(p.1 - p.2) else p.1 - p.2
def mxL : List Int → Int
  | [] => 0
  | a :: r => r.foldl (fun a b => if a < b then b else a) a
theorem mx_fold : ∀ (r : List Int) (a m : Int), r.foldl (fun a b => if a < b then b else a) a ≤ m ↔ a ≤ m ∧ ∀ x ∈ r, x ≤ m
  | [], a, m => by simp
  | b :: r, a, m => by
    rw [List.foldl_cons, mx_fold r]
    simp only [List.mem_cons, forall_eq_or_imp]
    split <;> constructor <;> intro h <;> (obtain ⟨h1, h2⟩ := h; refine ⟨?_, ?_⟩) <;> first | omega | (exact h2) | (exact h2.2) | (exact ⟨by omega, h2⟩)
theorem mx_le {l : List Int} {m : Int} (hm : 0 ≤ m) : mxL l ≤ m ↔ ∀ x ∈ l, x ≤ m := by
  cases l with
  | nil => simp [mxL, hm]
  | cons a r => show r.foldl _ a ≤ m ↔ _; rw [mx_fold]; simp
theorem mx_uniq {l : List Int} {m : Int} (h1 : m ∈ l) (h2 : ∀ x ∈ l, x ≤ m) (h0 : ∀ x ∈ l, 0 ≤ x) : m = mxL l := by
  have hm := h0 m h1
  have a := (mx_le (l := l) hm).mpr h2
  have hn : 0 ≤ mxL l := by
    cases l with
    | nil => exact Int.le_refl 0
    | cons x r =>
      have := (mx_fold r x (mxL (x :: r))).mp (Int.le_refl _)
      have := h0 x (by simp)
      omega
  have b := (mx_le (l := l) hn).mp (Int.le_refl _) m h1
  omega
theorem dif_nn (p : Int × Int) : 0 ≤ gap p := by unfold gap; split <;> omega
/-- the greatest gap -/
def wid (f g : List Int) : Int := mxL ((f.zip g).map gap)
theorem wid_nn (f g : List Int) : 0 ≤ wid f g := by
  unfold wid
  cases hq : (f.zip g).map gap with
  | nil => exact Int.le_refl 0
  | cons x r =>
    have := (mx_fold r x (mxL (x :: r))).mp (Int.le_refl _)
    have hx : x ∈ (f.zip g).map gap := by rw [hq]; simp
    obtain ⟨p, _, rfl⟩ := List.mem_map.mp hx
    have := dif_nn p
    omega
theorem wid_le {f g : List Int} {m : Int} (hm : 0 ≤ m) : wid f g ≤ m ↔ ∀ p ∈ f.zip g, gap p ≤ m := by
  unfold wid
  rw [mx_le hm]
  constructor
  · intro h p hp; exact h _ (List.mem_map.mpr ⟨p, hp, rfl⟩)
  · intro h x hx; obtain ⟨p, hp, rfl⟩ := List.mem_map.mp hx; exact h p hp
theorem dif_le {p : Int × Int} {m : Int} : gap p ≤ m ↔ p.1 ≤ p.2 + m ∧ p.2 ≤ p.1 + m := by
  unfold gap; split <;> omega
theorem near_iff : ∀ {f g : List Int} {m : Int}, f.length = g.length → ((∀ p ∈ f.zip g, gap p ≤ m) ↔ Le f (g.map (· + m)) ∧ Le g (f.map (· + m)))
  | [], [], m, _ => by simp [Le]
  | [], _ :: _, _, h => by simp at h
  | _ :: _, [], _, h => by simp at h
  | a :: f, b :: g, m, h => by
    have ih := near_iff (f := f) (g := g) (m := m) (by simpa using h)
    simp only [List.zip_cons_cons, List.mem_cons, forall_eq_or_imp, List.map_cons, Le]
    rw [ih, dif_le]
    constructor
    · rintro ⟨⟨h1, h2⟩, h3, h4⟩; exact ⟨⟨h1, h3⟩, h2, h4⟩
    · rintro ⟨⟨h1, h3⟩, h2, h4⟩; exact ⟨⟨h1, h2⟩, h3, h4⟩
theorem wid_iff {f g : List Int} {m : Int} (hm : 0 ≤ m) (h : f.length = g.length) : wid f g ≤ m ↔ Le f (g.map (· + m)) ∧ Le g (f.map (· + m)) := by
  rw [wid_le hm, near_iff h]
theorem blw_wid {w : Wd} (hs : 0 ≤ w.2) {f g : List Int} (h : f.length = g.length) : wid (blw w f) (blw w g) ≤ wid f g := by
  have hm := wid_nn f g
  rw [wid_iff hm (by rw [blw_len, blw_len]; exact h)]
  obtain ⟨h1, h2⟩ := (wid_iff hm h).mp (Int.le_refl _)
  exact ⟨by rw [← blw_add hs]; exact blw_mono hs h1, by rw [← blw_add hs]; exact blw_mono hs h2⟩
theorem beh_mono : ∀ {ws : List Wd} {f g : List Int}, Ok ws → Le f g → Le (beh f ws) (beh g ws)
  | [], _, _, _, h => h
  | w :: ws, f, g, hw, h => by
    rw [beh_cons, beh_cons]
    exact beh_mono (fun x hx => hw x (by simp [hx])) (blw_mono (hw w (by simp)) h)
theorem beh_wid : ∀ {ws : List Wd} {f g : List Int}, Ok ws → f.length = g.length → wid (beh f ws) (beh g ws) ≤ wid f g
  | [], _, _, _, _ => Int.le_refl _
  | w :: ws, f, g, hw, h => by
    rw [beh_cons, beh_cons]
    exact Int.le_trans (beh_wid (fun x hx => hw x (by simp [hx])) (by rw [blw_len, blw_len]; exact h)) (blw_wid (hw w (by simp)) h)
def mnZ (f g : List Int) : List Int := (f.zip g).map fun p => if p.2 < p.1 then p.2 else p.1
def mxZ (f g : List Int) : List Int := (f.zip g).map fun p => if p.2 > p.1 then p.2 else p.1
theorem mnmx : ∀ {f g : List Int}, f.length = g.length → Le (mnZ f g) f ∧ Le (mnZ f g) g ∧ Le f (mxZ f g) ∧ Le g (mxZ f g) ∧ wid (mnZ f g) (mxZ f g) = wid f g := by
  have key : ∀ {f g : List Int}, f.length = g.length → Le (mnZ f g) f ∧ Le (mnZ f g) g ∧ Le f (mxZ f g) ∧ Le g (mxZ f g) ∧ ((mnZ f g).zip (mxZ f g)).map gap = (f.zip g).map gap := by
    intro f
    induction f with
    | nil => intro g h; cases g with
      | nil => simp [mnZ, mxZ, Le]
      | cons _ _ => simp at h
    | cons a f ih =>
      intro g h
      cases g with
      | nil => simp at h
      | cons b g =>
        obtain ⟨h1, h2, h3, h4, h5⟩ := ih (g := g) (by simpa using h)
        refine ⟨⟨?_, h1⟩, ⟨?_, h2⟩, ⟨?_, h3⟩, ⟨?_, h4⟩, ?_⟩
        · show (if b < a then b else a) ≤ a; split <;> omega
        · show (if b < a then b else a) ≤ b; split <;> omega
        · show a ≤ (if b > a then b else a); split <;> omega
        · show b ≤ (if b > a then b else a); split <;> omega
        · show gap _ :: ((mnZ f g).zip (mxZ f g)).map gap = gap _ :: _
          rw [h5]
          congr 1
          unfold gap
          simp only
          by_cases q : b < a
          · rw [if_pos q, if_neg (by omega : ¬ b > a)]; split <;> split <;> omega
          · rw [if_neg q]; by_cases r : b > a
            · rw [if_pos r]
            · rw [if_neg r]; have : a = b := by omega
              subst this; rfl
  intro f g h
  obtain ⟨h1, h2, h3, h4, h5⟩ := key h
  exact ⟨h1, h2, h3, h4, by unfold wid; rw [h5]⟩
end M8

/-! a hand, and what is felt -/
namespace M8
theorem at_of {a : List Int} {i : Nat} (h : i < a.length) : at' a i = a[i] := by
  unfold at'; rw [List.getD_eq_getElem?_getD, List.getElem?_eq_getElem h]; rfl
theorem ext_at {a b : List Int} (hl : a.length = b.length) (h : ∀ i, i < a.length → at' a i = at' b i) : a = b := by
  apply List.ext_getElem hl
  intro i h1 h2
  have := h i h1
  rw [at_of h1, at_of h2] at this
  exact this
def zw (k : Int → Int → Int) (a b : List Int) : List Int := (a.zip b).map fun p => k p.1 p.2
theorem zw_len {k : Int → Int → Int} {a b : List Int} (h : a.length = b.length) : (zw k a b).length = a.length := by
  unfold zw; rw [List.length_map, List.length_zip]; omega
theorem zw_at {k : Int → Int → Int} {a b : List Int} {i : Nat} (h : a.length = b.length) (hi : i < a.length) : at' (zw k a b) i = k (at' a i) (at' b i) := by
  rw [at_of (by rw [zw_len h]; exact hi), at_of hi, at_of (by omega : i < b.length)]
  unfold zw
  simp
/-- a hand's dune -/
def hnd (f : List Int) (p : Nat) (b : Int) : List Int := f.mapIdx fun i x => if i = p then x + b else x
theorem hnd_len (f : List Int) (p : Nat) (b : Int) : (hnd f p b).length = f.length := by unfold hnd; simp
theorem hnd_at {f : List Int} {p i : Nat} {b : Int} (h : i < f.length) : at' (hnd f p b) i = if i = p then at' f i + b else at' f i := by
  rw [at_of (by rw [hnd_len]; exact h), at_of h]
  unfold hnd
  simp
theorem hnd_hnd (f : List Int) (p : Nat) (a b : Int) : hnd (hnd f p a) p b = hnd f p (a + b) := by
  refine ext_at (by simp [hnd_len]) fun i hi => ?_
  rw [hnd_len, hnd_len] at hi
  rw [hnd_at (by rw [hnd_len]; exact hi), hnd_at hi, hnd_at hi]
  split <;> omega
theorem map_at {f : List Int} {g : Int → Int} {i : Nat} (h : i < f.length) : at' (f.map g) i = g (at' f i) := by
  rw [at_of (by simpa using h), at_of h]; simp
theorem hnd_le {f : List Int} {p : Nat} {b : Int} (h : 0 ≤ b) : Le f (hnd f p b) ∧ Le (hnd f p b) (f.map (· + b)) := by
  refine ⟨le_ix.mpr ⟨(hnd_len f p b).symm, fun i hi => ?_⟩, le_ix.mpr ⟨by simp [hnd_len], fun i hi => ?_⟩⟩
  · rw [hnd_at hi]; split <;> omega
  · rw [hnd_len] at hi
    rw [hnd_at hi, map_at hi]; split <;> omega
theorem rev_at {f : List Int} {i : Nat} (h : i < f.length) : at' f.reverse i = at' f (f.length - 1 - i) := by
  rw [at_of (by simpa using h), at_of (by omega)]; simp
theorem hnd_rev {f : List Int} {p : Nat} {b : Int} (h : p < f.length) : hnd f.reverse (f.length - 1 - p) b = (hnd f p b).reverse := by
  refine ext_at (by simp [hnd_len]) fun i hi => ?_
  have hi : i < f.length := by simpa [hnd_len] using hi
  rw [hnd_at (by simpa using hi), rev_at hi, rev_at (by rw [hnd_len]; exact hi), hnd_len, hnd_at (by omega)]
  by_cases e : i = f.length - 1 - p
  · rw [if_pos e, if_pos (by omega)]
  · rw [if_neg e, if_neg (by omega)]
theorem beh_rev {ws : List Wd} : ∀ (hw : Ok ws) (f : List Int), beh f.reverse ws = (beh f ws).reverse := by
  induction ws with
  | nil => exact fun _ _ => rfl
  | cons w ws ih =>
    intro hw f
    rw [beh_cons, beh_cons, blw_rev (hw w (by simp)), ih fun x hx => hw x (by simp [hx])]
theorem beh_add {ws : List Wd} (c : Int) : ∀ (hw : Ok ws) (f : List Int), beh (f.map (· + c)) ws = (beh f ws).map (· + c) := by
  induction ws with
  | nil => exact fun _ _ => rfl
  | cons w ws ih =>
    intro hw f
    rw [beh_cons, beh_cons, blw_add (hw w (by simp)), ih fun x hx => hw x (by simp [hx])]
/-- what is felt -/
def fel (f : List Int) (ws : List Wd) (p : Nat) (b : Int) : List Int := zw (· - ·) (beh (hnd f p b) ws) (beh f ws)
theorem fel_len (f : List Int) (ws : List Wd) (p : Nat) (b : Int) : (fel f ws p b).length = f.length := by
  unfold fel; rw [zw_len (by rw [beh_len, beh_len, hnd_len]), beh_len, hnd_len]
theorem fel_at {f : List Int} {ws : List Wd} {p i : Nat} {b : Int} (h : i < f.length) : at' (fel f ws p b) i = at' (beh (hnd f p b) ws) i - at' (beh f ws) i := by
  unfold fel; rw [zw_at (by rw [beh_len, beh_len, hnd_len]) (by rw [beh_len, hnd_len]; exact h)]
theorem fel_bd {f : List Int} {ws : List Wd} {p i : Nat} {b : Int} (hw : Ok ws) (hb : 0 ≤ b) (h : i < f.length) : 0 ≤ at' (fel f ws p b) i ∧ at' (fel f ws p b) i ≤ b := by
  obtain ⟨h1, h2⟩ := hnd_le (f := f) (p := p) hb
  have k1 := (le_ix.mp (beh_mono hw h1)).2 i (by rw [beh_len]; exact h)
  have k2 := (le_ix.mp (beh_mono hw h2)).2 i (by rw [beh_len, hnd_len]; exact h)
  rw [beh_add b hw, map_at (by rw [beh_len]; exact h)] at k2
  rw [fel_at h]
  omega
/-- of both hands together -/
theorem fel_sum (f : List Int) (ws : List Wd) (p : Nat) (a b : Int) : zw (· + ·) (fel f ws p a) (fel (hnd f p a) ws p b) = fel f ws p (a + b) := by
  have e0 : (fel f ws p a).length = (fel (hnd f p a) ws p b).length := by rw [fel_len, fel_len, hnd_len]
  refine ext_at (by rw [zw_len e0, fel_len, fel_len]) fun i hi => ?_
  rw [zw_len e0, fel_len] at hi
  rw [zw_at e0 (by rw [fel_len]; exact hi), fel_at hi, fel_at (by rw [hnd_len]; exact hi), fel_at hi, hnd_hnd]
  omega
theorem fel_more {f : List Int} {ws : List Wd} {p i : Nat} {a b : Int} (hw : Ok ws) (hb : 0 ≤ b) (h : i < f.length) : at' (fel f ws p a) i ≤ at' (fel f ws p (a + b)) i ∧ at' (fel f ws p (a + b)) i ≤ at' (fel f ws p a) i + b := by
  have e0 : (fel f ws p a).length = (fel (hnd f p a) ws p b).length := by rw [fel_len, fel_len, hnd_len]
  have k := fel_bd (f := hnd f p a) (p := p) (i := i) (b := b) hw hb (by rw [hnd_len]; exact h)
  rw [← fel_sum, zw_at e0 (by rw [fel_len]; exact h)]
  omega
theorem fel_rev {f : List Int} {ws : List Wd} {p : Nat} {b : Int} (hw : Ok ws) (h : p < f.length) : (fel f.reverse ws (f.length - 1 - p) b).reverse = fel f ws p b := by
  refine ext_at (by simp [fel_len]) fun i hi => ?_
  have hi : i < f.length := by simpa [fel_len] using hi
  rw [rev_at (by rw [fel_len]; simpa using hi), fel_len, List.length_reverse, fel_at (by rw [List.length_reverse]; omega), fel_at hi, hnd_rev h, beh_rev hw, beh_rev hw, rev_at (by rw [beh_len, hnd_len]; omega), rev_at (by rw [beh_len]; omega), beh_len, beh_len, hnd_len]
  rw [show f.length - 1 - (f.length - 1 - i) = i by omega]
theorem fel_due (f : List Int) (ws : List Wd) (p : Nat) (b : Int) : zw (· + ·) (beh f ws) (fel f ws p b) = beh (hnd f p b) ws := by
  have e0 : (beh f ws).length = (fel f ws p b).length := by rw [fel_len, beh_len]
  refine ext_at (by rw [zw_len e0, beh_len, beh_len, hnd_len]) fun i hi => ?_
  rw [zw_len e0, beh_len] at hi
  rw [zw_at e0 (by rw [beh_len]; exact hi), fel_at hi]
  omega
theorem fel_two (f : List Int) (us ws : List Wd) (p : Nat) (b : Int) : zw (fun a b => b - a) (beh (beh f us) ws) (beh (beh (hnd f p b) us) ws) = fel f (us ++ ws) p b := by
  have e0 : (beh (beh f us) ws).length = (beh (beh (hnd f p b) us) ws).length := by simp only [beh_len, hnd_len]
  refine ext_at (by rw [zw_len e0, fel_len, beh_len, beh_len]) fun i hi => ?_
  rw [zw_len e0, beh_len, beh_len] at hi
  rw [zw_at e0 (by rw [beh_len, beh_len]; exact hi), fel_at hi, beh_app, beh_app]
theorem zw_mem {k : Int → Int → Prop} {a b : List Int} (hl : a.length = b.length) (h : ∀ i, i < a.length → k (at' a i) (at' b i)) : ∀ p ∈ a.zip b, k p.1 p.2 := fun p hp => by
  obtain ⟨i, hi⟩ := List.getElem?_of_mem hp
  rw [List.getElem?_zip_eq_some] at hi
  obtain ⟨q1, q2⟩ := hi
  have l1 := (List.getElem?_eq_some_iff.mp q1)
  have l2 := (List.getElem?_eq_some_iff.mp q2)
  obtain ⟨l1, e1⟩ := l1
  obtain ⟨l2, e2⟩ := l2
  have := h i l1
  rw [at_of l1, at_of l2, e1, e2] at this
  exact this
theorem at_mem {k : Int → Prop} {a : List Int} (h : ∀ i, i < a.length → k (at' a i)) : ∀ x ∈ a, k x := fun x hx => by
  obtain ⟨i, hi, e⟩ := List.getElem_of_mem hx
  have := h i hi
  rw [at_of hi, e] at this
  exact this
end M8

namespace LW
open PySem Mir L2 M8
theorem enum_I : ∀ (L : List Int) (n : Nat), enumD n (I L) = (List.range L.length).map fun k => .tuple [.int ((n + k : Nat) : Int), .int (at' L k)]
  | [], _ => rfl
  | x :: L, n => by
    rw [I, List.map_cons, enumD, enum_I L (n + 1), List.length_cons, List.range_succ_eq_map, List.map_cons, List.map_map]
    congr 1
    apply List.map_congr_left
    intro k _
    show PyData.tuple [.int ((n + 1 + k : Nat) : Int), _] = PyData.tuple [.int ((n + (k + 1) : Nat) : Int), _]
    rw [show n + 1 + k = n + (k + 1) by omega]
    rfl
theorem look_ok {f : List Int} {p : Nat} (h : p < f.length) : Z_look_post [.tuple (I f), .int (p : Int)] = some (.d .none) := by
  refine wR_eq ?_
  unfold Z_look_post
  refine wR_run rfl ?_
  show wS _ [.dt _, .dt _] _
  unfold B_look_post
  have h0 : decide ((0 : Int) ≤ (p : Int)) = true := decide_eq_true (by omega)
  have h1 : decide ((p : Int) < (f.length : Int)) = true := decide_eq_true (by omega)
  simp only [wE_var, wE_c, wE_1, wE_2, wA_nil, wA_cons, wE_A, wT_bool, wT_yes, wT_not, wT_and, wT_or, wE_ofT, wE_if, wE_chain, wO_no, wO_part, wE_sl, wE_isa, wE_ownLen, wE_ownIx, wE_app, wE_ext, wE_ins, wE_rg1, wE_rg2, wE_rev, wE_popAt, wE_pop, wS_putIx, wE_box, wE_boxNew, wS_seq, wS_nx, wS_ct, wS_bk, wS_set, wS_own, wS_ret, wS_drop, wS_if, wS_retO, wS_frz, wS_asg, wU_name, wUs_nil, wUs_cons, wU_tup2, wU_tup3, wPar_nil, wPar_cons, wS_par, wS_aug, wA_zip2, wA_zip3, wA_zipS, wA_seqIt, wA_range1, wA_range2, wA_enum, wS_for, seqK, lpK, rtK, rbK, wR_some, wB_some, wR_ite, mAnd, mOr, mNot, toD_d, toD_l, f1_one, f2_two, add_i, add_l, add_t, iadd_i, sub_i, mul_i, mul_l, mod_i, fdiv_w, fdOk_2, fdOk_64, fdOk_7, fdOk_m, na10, na2, at3_0, at3_1, at3_2, at2_0, at2_1, Mir.atI_last, ix3_0, ix3_1, ix3_2, pow_i, neg_i, len_l, len_t, abs_i, max2_i, min2_i, int_i, int_b, list_l, list_t, tuple_l, tuple_t, lt_i, le_i, gt_i, ge_i, eq_i, ne_i, eq_b, ne_b, eq_s, ne_s, sl_l, sl_t, src_l, src_t, revL_l, revT_l, slot_f, slot_l, wS_new, ix_l, ix_t, all_b, any_b, sum_l, dLst, dTup, setAll, ownAt, putOwn, frzE, boAt, wipeE, cut_map, cut_from1, cut_to1, List.getElem?_cons_zero, List.getElem?_cons_succ, List.set_cons_zero, List.set_cons_succ, Option.some.injEq, Sl.dt.injEq, Sl.ow.injEq, Sl.bo.injEq, Rv.d.injEq, Rv.l.injEq, PyData.int.injEq, PyData.bool.injEq, PyData.str.injEq, PyData.list.injEq, PyData.tuple.injEq, List.cons.injEq, exists_eq_left', exists_eq_left, exists_eq_right', exists_eq, exists_eq', exists_and_left, exists_const, and_true, true_and, and_assoc, Int.reduceLT, Int.reduceLE, Int.reducePow, Int.reduceToNat, Int.reduceNeg, Int.reduceMul, Int.reduceAdd, Int.reduceSub, Nat.reduceLT, Nat.reduceLeDiff, Nat.reducePow, Nat.reduceAdd, List.length_cons, List.length_nil, List.length_map, forall_const, decide_true, decide_false, Bool.not_true, Bool.not_false, Bool.false_eq_true, Bool.true_eq_false, false_implies, true_implies, reduceCtorEq, eq_self, eq_tI, ne_tI, eq_lI, ne_lI, all_T, wU_lst2, wU_lst3, sz_0, sz_1, sz_2, sz_3, sz_4, sz_5, sz_6, sz_7, sz_8, implies_true, revA_l, revA_t, isB_b, isntB_b, zRev_1, zRev_2, zRev_3, zRev_4, zRev_5, revS_l, revS_t, sumT_l, sumT_t, xW_seq, xW_if, xW_arg, xW_call, xW_raise, xW_raise0, xK, wE_xnone, wE_xfld, wE_xis, Sl.xt.injEq, Xt.exn.injEq, or_false, false_or, lk_hd, inCs_hd, mem_hd, false_and, and_false, h0, h1]
theorem hnd_range (f : List Int) (p : Nat) (b : Int) : (List.range f.length).map (fun k => if k = p then at' f k + b else at' f k) = hnd f p b := by
  refine ext_at (by simp [hnd_len]) fun i hi => ?_
  have hi : i < f.length := by simpa using hi
  rw [hnd_at hi, at_of (by simpa using hi)]
  simp
theorem handed_ok {f : List Int} {p : Nat} {b : Int} (h : p < f.length) (h1 : f.length ≤ 1000) : Z_handed [.tuple (I f), .int (p : Int), .int b] = some (.d (.tuple (I (hnd f p b)))) := by
  refine wR_eq ?_
  unfold Z_handed
  refine wR_run rfl ?_
  show wS _ [.dt _, .dt _, .dt _, .un, .un] _
  unfold B_handed
  simp only [wE_var, wE_c, wE_1, wE_2, wA_nil, wA_cons, wE_A, wT_bool, wT_yes, wT_not, wT_and, wT_or, wE_ofT, wE_chain, wO_no, wO_part, wE_sl, wE_isa, wE_ownLen, wE_ownIx, wE_app, wE_ext, wE_ins, wE_rg1, wE_rg2, wE_rev, wE_popAt, wE_pop, wS_putIx, wE_box, wE_boxNew, wS_seq, wS_nx, wS_ct, wS_bk, wS_set, wS_own, wS_ret, wS_drop, wS_if, wS_retO, wS_frz, wS_asg, wU_name, wUs_nil, wUs_cons, wU_tup2, wU_tup3, wPar_nil, wPar_cons, wS_par, wS_aug, wA_zip2, wA_zip3, wA_zipS, wA_seqIt, wA_range1, wA_range2, wA_enum, wS_for, seqK, lpK, rtK, rbK, wR_some, wB_some, wR_ite, mAnd, mOr, mNot, toD_d, toD_l, f1_one, f2_two, add_i, add_l, add_t, iadd_i, sub_i, mul_i, mul_l, mod_i, fdiv_w, fdOk_2, fdOk_64, fdOk_7, fdOk_m, na10, na2, at3_0, at3_1, at3_2, at2_0, at2_1, Mir.atI_last, ix3_0, ix3_1, ix3_2, pow_i, neg_i, len_l, len_t, abs_i, max2_i, min2_i, int_i, int_b, list_l, list_t, tuple_l, tuple_t, lt_i, le_i, gt_i, ge_i, eq_i, ne_i, eq_b, ne_b, eq_s, ne_s, sl_l, sl_t, src_l, src_t, revL_l, revT_l, slot_f, slot_l, wS_new, ix_l, ix_t, all_b, any_b, sum_l, dLst, dTup, setAll, ownAt, putOwn, frzE, boAt, wipeE, cut_map, cut_from1, cut_to1, List.getElem?_cons_zero, List.getElem?_cons_succ, List.set_cons_zero, List.set_cons_succ, Option.some.injEq, Sl.dt.injEq, Sl.ow.injEq, Sl.bo.injEq, Rv.d.injEq, Rv.l.injEq, PyData.int.injEq, PyData.bool.injEq, PyData.str.injEq, PyData.list.injEq, PyData.tuple.injEq, List.cons.injEq, exists_eq_left', exists_eq_left, exists_eq_right', exists_eq, exists_eq', exists_and_left, exists_const, and_true, true_and, and_assoc, Int.reduceLT, Int.reduceLE, Int.reducePow, Int.reduceToNat, Int.reduceNeg, Int.reduceMul, Int.reduceAdd, Int.reduceSub, Nat.reduceLT, Nat.reduceLeDiff, Nat.reducePow, Nat.reduceAdd, List.length_cons, List.length_nil, List.length_map, forall_const, decide_true, decide_false, Bool.not_true, Bool.not_false, Bool.false_eq_true, Bool.true_eq_false, false_implies, true_implies, reduceCtorEq, eq_self, eq_tI, ne_tI, eq_lI, ne_lI, all_T, wU_lst2, wU_lst3, sz_0, sz_1, sz_2, sz_3, sz_4, sz_5, sz_6, sz_7, sz_8, implies_true, revA_l, revA_t, isB_b, isntB_b, zRev_1, zRev_2, zRev_3, zRev_4, zRev_5, revS_l, revS_t, sumT_l, sumT_t, xW_seq, xW_if, xW_arg, xW_call, xW_raise, xW_raise0, xK, wE_xnone, wE_xfld, wE_xis, Sl.xt.injEq, Xt.exn.injEq, or_false, false_or, lk_hd, inCs_hd, mem_hd, false_and, and_false, look_ok h]
  refine wE_pure (zs := List.range f.length) (fun k => .tuple [.int ((0 + k : Nat) : Int), .int (at' f k)]) (fun k => .int (if k = p then at' f k + b else at' f k)) (by simp only [wE_var, wE_c, wE_1, wE_2, wA_nil, wA_cons, wE_A, wT_bool, wT_yes, wT_not, wT_and, wT_or, wE_ofT, wE_if, wE_chain, wO_no, wO_part, wE_sl, wE_isa, wE_ownLen, wE_ownIx, wE_app, wE_ext, wE_ins, wE_rg1, wE_rg2, wE_rev, wE_popAt, wE_pop, wS_putIx, wE_box, wE_boxNew, wS_seq, wS_nx, wS_ct, wS_bk, wS_set, wS_own, wS_ret, wS_drop, wS_if, wS_retO, wS_frz, wS_asg, wU_name, wUs_nil, wUs_cons, wU_tup2, wU_tup3, wPar_nil, wPar_cons, wS_par, wS_aug, wA_zip2, wA_zip3, wA_zipS, wA_seqIt, wA_range1, wA_range2, wA_enum, wS_for, seqK, lpK, rtK, rbK, wR_some, wB_some, wR_ite, mAnd, mOr, mNot, toD_d, toD_l, f1_one, f2_two, add_i, add_l, add_t, iadd_i, sub_i, mul_i, mul_l, mod_i, fdiv_w, fdOk_2, fdOk_64, fdOk_7, fdOk_m, na10, na2, at3_0, at3_1, at3_2, at2_0, at2_1, Mir.atI_last, ix3_0, ix3_1, ix3_2, pow_i, neg_i, len_l, len_t, abs_i, max2_i, min2_i, int_i, int_b, list_l, list_t, tuple_l, tuple_t, lt_i, le_i, gt_i, ge_i, eq_i, ne_i, eq_b, ne_b, eq_s, ne_s, sl_l, sl_t, src_l, src_t, revL_l, revT_l, slot_f, slot_l, wS_new, ix_l, ix_t, all_b, any_b, sum_l, dLst, dTup, setAll, ownAt, putOwn, frzE, boAt, wipeE, cut_map, cut_from1, cut_to1, List.getElem?_cons_zero, List.getElem?_cons_succ, List.set_cons_zero, List.set_cons_succ, Option.some.injEq, Sl.dt.injEq, Sl.ow.injEq, Sl.bo.injEq, Rv.d.injEq, Rv.l.injEq, PyData.int.injEq, PyData.bool.injEq, PyData.str.injEq, PyData.list.injEq, PyData.tuple.injEq, List.cons.injEq, exists_eq_left', exists_eq_left, exists_eq_right', exists_eq, exists_eq', exists_and_left, exists_const, and_true, true_and, and_assoc, Int.reduceLT, Int.reduceLE, Int.reducePow, Int.reduceToNat, Int.reduceNeg, Int.reduceMul, Int.reduceAdd, Int.reduceSub, Nat.reduceLT, Nat.reduceLeDiff, Nat.reducePow, Nat.reduceAdd, List.length_cons, List.length_nil, List.length_map, forall_const, decide_true, decide_false, Bool.not_true, Bool.not_false, Bool.false_eq_true, Bool.true_eq_false, false_implies, true_implies, reduceCtorEq, eq_self, eq_tI, ne_tI, eq_lI, ne_lI, all_T, wU_lst2, wU_lst3, sz_0, sz_1, sz_2, sz_3, sz_4, sz_5, sz_6, sz_7, sz_8, implies_true, revA_l, revA_t, isB_b, isntB_b, zRev_1, zRev_2, zRev_3, zRev_4, zRev_5, revS_l, revS_t, sumT_l, sumT_t, xW_seq, xW_if, xW_arg, xW_call, xW_raise, xW_raise0, xK, wE_xnone, wE_xfld, wE_xis, Sl.xt.injEq, Xt.exn.injEq, or_false, false_or, lk_hd, inCs_hd, mem_hd, false_and, and_false]; exact ⟨enum_I f 0, rfl⟩) rfl (szl (by rw [List.length_range]; exact h1)) (fun k hk => ?_) ?_
  · have e : decide (((0 + k : Nat) : Int) = (p : Int)) = decide (k = p) := by
      by_cases q : k = p
      · rw [decide_eq_true q, decide_eq_true (by omega)]
      · rw [decide_eq_false q, decide_eq_false (by omega)]
    simp only [wE_var, wE_c, wE_1, wE_2, wA_nil, wA_cons, wE_A, wT_bool, wT_yes, wT_not, wT_and, wT_or, wE_ofT, wE_if, wE_chain, wO_no, wO_part, wE_sl, wE_isa, wE_ownLen, wE_ownIx, wE_app, wE_ext, wE_ins, wE_rg1, wE_rg2, wE_rev, wE_popAt, wE_pop, wS_putIx, wE_box, wE_boxNew, wS_seq, wS_nx, wS_ct, wS_bk, wS_set, wS_own, wS_ret, wS_drop, wS_if, wS_retO, wS_frz, wS_asg, wU_name, wUs_nil, wUs_cons, wU_tup2, wU_tup3, wPar_nil, wPar_cons, wS_par, wS_aug, wA_zip2, wA_zip3, wA_zipS, wA_seqIt, wA_range1, wA_range2, wA_enum, wS_for, seqK, lpK, rtK, rbK, wR_some, wB_some, wR_ite, mAnd, mOr, mNot, toD_d, toD_l, f1_one, f2_two, add_i, add_l, add_t, iadd_i, sub_i, mul_i, mul_l, mod_i, fdiv_w, fdOk_2, fdOk_64, fdOk_7, fdOk_m, na10, na2, at3_0, at3_1, at3_2, at2_0, at2_1, Mir.atI_last, ix3_0, ix3_1, ix3_2, pow_i, neg_i, len_l, len_t, abs_i, max2_i, min2_i, int_i, int_b, list_l, list_t, tuple_l, tuple_t, lt_i, le_i, gt_i, ge_i, eq_i, ne_i, eq_b, ne_b, eq_s, ne_s, sl_l, sl_t, src_l, src_t, revL_l, revT_l, slot_f, slot_l, wS_new, ix_l, ix_t, all_b, any_b, sum_l, dLst, dTup, setAll, ownAt, putOwn, frzE, boAt, wipeE, cut_map, cut_from1, cut_to1, List.getElem?_cons_zero, List.getElem?_cons_succ, List.set_cons_zero, List.set_cons_succ, Option.some.injEq, Sl.dt.injEq, Sl.ow.injEq, Sl.bo.injEq, Rv.d.injEq, Rv.l.injEq, PyData.int.injEq, PyData.bool.injEq, PyData.str.injEq, PyData.list.injEq, PyData.tuple.injEq, List.cons.injEq, exists_eq_left', exists_eq_left, exists_eq_right', exists_eq, exists_eq', exists_and_left, exists_const, and_true, true_and, and_assoc, Int.reduceLT, Int.reduceLE, Int.reducePow, Int.reduceToNat, Int.reduceNeg, Int.reduceMul, Int.reduceAdd, Int.reduceSub, Nat.reduceLT, Nat.reduceLeDiff, Nat.reducePow, Nat.reduceAdd, List.length_cons, List.length_nil, List.length_map, forall_const, decide_true, decide_false, Bool.not_true, Bool.not_false, Bool.false_eq_true, Bool.true_eq_false, false_implies, true_implies, reduceCtorEq, eq_self, eq_tI, ne_tI, eq_lI, ne_lI, all_T, wU_lst2, wU_lst3, sz_0, sz_1, sz_2, sz_3, sz_4, sz_5, sz_6, sz_7, sz_8, implies_true, revA_l, revA_t, isB_b, isntB_b, zRev_1, zRev_2, zRev_3, zRev_4, zRev_5, revS_l, revS_t, sumT_l, sumT_t, xW_seq, xW_if, xW_arg, xW_call, xW_raise, xW_raise0, xK, wE_xnone, wE_xfld, wE_xis, Sl.xt.injEq, Xt.exn.injEq, or_false, false_or, lk_hd, inCs_hd, mem_hd, false_and, and_false, e]
    by_cases q : k = p
    · rw [decide_eq_true q, if_pos q]; exact ⟨fun _ => rfl, fun z => by cases z⟩
    · rw [decide_eq_false q, if_neg q]; exact ⟨fun z => (by cases z), fun _ => rfl⟩
  · simp only [wE_var, wE_c, wE_1, wE_2, wA_nil, wA_cons, wE_A, wT_bool, wT_yes, wT_not, wT_and, wT_or, wE_ofT, wE_if, wE_chain, wO_no, wO_part, wE_sl, wE_isa, wE_ownLen, wE_ownIx, wE_app, wE_ext, wE_ins, wE_rg1, wE_rg2, wE_rev, wE_popAt, wE_pop, wS_putIx, wE_box, wE_boxNew, wS_seq, wS_nx, wS_ct, wS_bk, wS_set, wS_own, wS_ret, wS_drop, wS_if, wS_retO, wS_frz, wS_asg, wU_name, wUs_nil, wUs_cons, wU_tup2, wU_tup3, wPar_nil, wPar_cons, wS_par, wS_aug, wA_zip2, wA_zip3, wA_zipS, wA_seqIt, wA_range1, wA_range2, wA_enum, wS_for, seqK, lpK, rtK, rbK, wR_some, wB_some, wR_ite, mAnd, mOr, mNot, toD_d, toD_l, f1_one, f2_two, add_i, add_l, add_t, iadd_i, sub_i, mul_i, mul_l, mod_i, fdiv_w, fdOk_2, fdOk_64, fdOk_7, fdOk_m, na10, na2, at3_0, at3_1, at3_2, at2_0, at2_1, Mir.atI_last, ix3_0, ix3_1, ix3_2, pow_i, neg_i, len_l, len_t, abs_i, max2_i, min2_i, int_i, int_b, list_l, list_t, tuple_l, tuple_t, lt_i, le_i, gt_i, ge_i, eq_i, ne_i, eq_b, ne_b, eq_s, ne_s, sl_l, sl_t, src_l, src_t, revL_l, revT_l, slot_f, slot_l, wS_new, ix_l, ix_t, all_b, any_b, sum_l, dLst, dTup, setAll, ownAt, putOwn, frzE, boAt, wipeE, cut_map, cut_from1, cut_to1, List.getElem?_cons_zero, List.getElem?_cons_succ, List.set_cons_zero, List.set_cons_succ, Option.some.injEq, Sl.dt.injEq, Sl.ow.injEq, Sl.bo.injEq, Rv.d.injEq, Rv.l.injEq, PyData.int.injEq, PyData.bool.injEq, PyData.str.injEq, PyData.list.injEq, PyData.tuple.injEq, List.cons.injEq, exists_eq_left', exists_eq_left, exists_eq_right', exists_eq, exists_eq', exists_and_left, exists_const, and_true, true_and, and_assoc, Int.reduceLT, Int.reduceLE, Int.reducePow, Int.reduceToNat, Int.reduceNeg, Int.reduceMul, Int.reduceAdd, Int.reduceSub, Nat.reduceLT, Nat.reduceLeDiff, Nat.reducePow, Nat.reduceAdd, List.length_cons, List.length_nil, List.length_map, forall_const, decide_true, decide_false, Bool.not_true, Bool.not_false, Bool.false_eq_true, Bool.true_eq_false, false_implies, true_implies, reduceCtorEq, eq_self, eq_tI, ne_tI, eq_lI, ne_lI, all_T, wU_lst2, wU_lst3, sz_0, sz_1, sz_2, sz_3, sz_4, sz_5, sz_6, sz_7, sz_8, implies_true, revA_l, revA_t, isB_b, isntB_b, zRev_1, zRev_2, zRev_3, zRev_4, zRev_5, revS_l, revS_t, sumT_l, sumT_t, xW_seq, xW_if, xW_arg, xW_call, xW_raise, xW_raise0, xK, wE_xnone, wE_xfld, wE_xis, Sl.xt.injEq, Xt.exn.injEq, or_false, false_or, lk_hd, inCs_hd, mem_hd, false_and, and_false]
    rw [← hnd_range, I, List.map_map]
    rfl
theorem mirrored_ok {f : List Int} : Z_mirrored [.tuple (I f)] = some (.d (.tuple (I f.reverse))) := by
  refine wR_eq ?_
  unfold Z_mirrored
  refine wR_run rfl ?_
  show wS _ [.dt _] _
  unfold B_mirrored
  simp only [wE_var, wE_c, wE_1, wE_2, wA_nil, wA_cons, wE_A, wT_bool, wT_yes, wT_not, wT_and, wT_or, wE_ofT, wE_if, wE_chain, wO_no, wO_part, wE_sl, wE_isa, wE_ownLen, wE_ownIx, wE_app, wE_ext, wE_ins, wE_rg1, wE_rg2, wE_rev, wE_popAt, wE_pop, wS_putIx, wE_box, wE_boxNew, wS_seq, wS_nx, wS_ct, wS_bk, wS_set, wS_own, wS_ret, wS_drop, wS_if, wS_retO, wS_frz, wS_asg, wU_name, wUs_nil, wUs_cons, wU_tup2, wU_tup3, wPar_nil, wPar_cons, wS_par, wS_aug, wA_zip2, wA_zip3, wA_zipS, wA_seqIt, wA_range1, wA_range2, wA_enum, wS_for, seqK, lpK, rtK, rbK, wR_some, wB_some, wR_ite, mAnd, mOr, mNot, toD_d, toD_l, f1_one, f2_two, add_i, add_l, add_t, iadd_i, sub_i, mul_i, mul_l, mod_i, fdiv_w, fdOk_2, fdOk_64, fdOk_7, fdOk_m, na10, na2, at3_0, at3_1, at3_2, at2_0, at2_1, Mir.atI_last, ix3_0, ix3_1, ix3_2, pow_i, neg_i, len_l, len_t, abs_i, max2_i, min2_i, int_i, int_b, list_l, list_t, tuple_l, tuple_t, lt_i, le_i, gt_i, ge_i, eq_i, ne_i, eq_b, ne_b, eq_s, ne_s, sl_l, sl_t, src_l, src_t, revL_l, revT_l, slot_f, slot_l, wS_new, ix_l, ix_t, all_b, any_b, sum_l, dLst, dTup, setAll, ownAt, putOwn, frzE, boAt, wipeE, cut_map, cut_from1, cut_to1, List.getElem?_cons_zero, List.getElem?_cons_succ, List.set_cons_zero, List.set_cons_succ, Option.some.injEq, Sl.dt.injEq, Sl.ow.injEq, Sl.bo.injEq, Rv.d.injEq, Rv.l.injEq, PyData.int.injEq, PyData.bool.injEq, PyData.str.injEq, PyData.list.injEq, PyData.tuple.injEq, List.cons.injEq, exists_eq_left', exists_eq_left, exists_eq_right', exists_eq, exists_eq', exists_and_left, exists_const, and_true, true_and, and_assoc, Int.reduceLT, Int.reduceLE, Int.reducePow, Int.reduceToNat, Int.reduceNeg, Int.reduceMul, Int.reduceAdd, Int.reduceSub, Nat.reduceLT, Nat.reduceLeDiff, Nat.reducePow, Nat.reduceAdd, List.length_cons, List.length_nil, List.length_map, forall_const, decide_true, decide_false, Bool.not_true, Bool.not_false, Bool.false_eq_true, Bool.true_eq_false, false_implies, true_implies, reduceCtorEq, eq_self, eq_tI, ne_tI, eq_lI, ne_lI, all_T, wU_lst2, wU_lst3, sz_0, sz_1, sz_2, sz_3, sz_4, sz_5, sz_6, sz_7, sz_8, implies_true, revA_l, revA_t, isB_b, isntB_b, zRev_1, zRev_2, zRev_3, zRev_4, zRev_5, revS_l, revS_t, sumT_l, sumT_t, xW_seq, xW_if, xW_arg, xW_call, xW_raise, xW_raise0, xK, wE_xnone, wE_xfld, wE_xis, Sl.xt.injEq, Xt.exn.injEq, or_false, false_or, lk_hd, inCs_hd, mem_hd, false_and, and_false]
  rw [I, I, List.map_reverse]
end LW

namespace LW
open PySem Mir L2 M8
theorem gdl {n : Nat} {xs : List D} (hl : xs.length ≤ 1000) (h : ∀ x ∈ xs, Gd n x) : Gd (n + 1) (.list xs) := ⟨hl, h⟩
theorem gdt {n : Nat} {xs : List D} (hl : xs.length ≤ 1000) (h : ∀ x ∈ xs, Gd n x) : Gd (n + 1) (.tuple xs) := ⟨hl, h⟩
theorem gda_nil {n : Nat} : ∀ y ∈ ([] : List D), Gd n y := fun _ h => by cases h
theorem gda_cons {n : Nat} {x : D} {xs : List D} (hx : Gd n x) (h : ∀ y ∈ xs, Gd n y) : ∀ y ∈ x :: xs, Gd n y := fun y hy => by
  rcases List.mem_cons.mp hy with rfl | hy
  · exact hx
  · exact h y hy
theorem gda_map {n : Nat} {α : Type} {g : α → D} {zs : List α} (h : ∀ z ∈ zs, Gd n (g z)) : ∀ y ∈ zs.map g, Gd n y := fun y hy => by
  obtain ⟨z, hz, rfl⟩ := List.mem_map.mp hy
  exact h z hz
theorem gda_app {n : Nat} {xs ys : List D} (hx : ∀ y ∈ xs, Gd n y) (hy : ∀ y ∈ ys, Gd n y) : ∀ y ∈ xs ++ ys, Gd n y := fun y h => by
  rcases List.mem_append.mp h with h | h
  · exact hx y h
  · exact hy y h
theorem gdi {n : Nat} {i : Int} : Gd n (.int i) := by cases n <;> trivial
theorem gdb {n : Nat} {i : Bool} : Gd n (.bool i) := by cases n <;> trivial
theorem gds {n : Nat} {i : Str} : Gd n (.str i) := by cases n <;> trivial
theorem gdn0 {n : Nat} : Gd n .none := by cases n <;> trivial
end LW

namespace LW
open PySem Mir L2 M8
/-- a dune as a list or as a tuple -/
def Dn (f : List Int) (d : D) : Prop := d = .list (I f) ∨ d = .tuple (I f)
theorem Dn.l {f : List Int} : Dn f (.list (I f)) := .inl rfl
theorem Dn.t {f : List Int} : Dn f (.tuple (I f)) := .inr rfl
theorem steep_two {f : List Int} (h1 : f.length ≤ 900) : ∃ m : Int, 0 ≤ m ∧ Z_l_steep [.tuple (I f)] = some (.d (.int m)) ∧ ∀ d, Dn f d → Z_steepest [d] = some (.d (.int m)) := by
  obtain ⟨r, e, m, rfl, hm, m0, _⟩ := steep_ok (d := .tuple (I f)) rfl h1
  refine ⟨m, m0, e, fun d hd => ?_⟩
  obtain ⟨r, e', m', rfl, hm', m0'⟩ := steep_any hd h1
  have h1 := (hm m' m0').mpr ((hm' m' m0').mp (Int.le_refl _))
  have h2 := (hm' m m0).mpr ((hm m m0).mp (Int.le_refl _))
  rw [e', show m' = m by omega]
theorem sand_any {f : List Int} {d : D} (hd : Dn f d) : Z_sand [d] = some (.d (.int f.sum)) := by
  refine wR_eq ?_
  unfold Z_sand
  refine wR_run rfl ?_
  show wS _ [.dt _] _
  unfold B_sand
  rcases hd with rfl | rfl <;> simp only [wE_var, wE_c, wE_1, wE_2, wA_nil, wA_cons, wE_A, wT_bool, wT_yes, wT_not, wT_and, wT_or, wE_ofT, wE_if, wE_chain, wO_no, wO_part, wE_sl, wE_isa, wE_ownLen, wE_ownIx, wE_app, wE_ext, wE_ins, wE_rg1, wE_rg2, wE_rev, wE_popAt, wE_pop, wS_putIx, wE_box, wE_boxNew, wS_seq, wS_nx, wS_ct, wS_bk, wS_set, wS_own, wS_ret, wS_drop, wS_if, wS_retO, wS_frz, wS_asg, wU_name, wUs_nil, wUs_cons, wU_tup2, wU_tup3, wPar_nil, wPar_cons, wS_par, wS_aug, wA_zip2, wA_zip3, wA_zipS, wA_seqIt, wA_range1, wA_range2, wA_enum, wS_for, seqK, lpK, rtK, rbK, wR_some, wB_some, wR_ite, mAnd, mOr, mNot, toD_d, toD_l, f1_one, f2_two, add_i, add_l, add_t, iadd_i, sub_i, mul_i, mul_l, mod_i, fdiv_w, fdOk_2, fdOk_64, fdOk_7, fdOk_m, na10, na2, at3_0, at3_1, at3_2, at2_0, at2_1, Mir.atI_last, ix3_0, ix3_1, ix3_2, pow_i, neg_i, len_l, len_t, abs_i, max2_i, min2_i, int_i, int_b, list_l, list_t, tuple_l, tuple_t, lt_i, le_i, gt_i, ge_i, eq_i, ne_i, eq_b, ne_b, eq_s, ne_s, sl_l, sl_t, src_l, src_t, revL_l, revT_l, slot_f, slot_l, wS_new, ix_l, ix_t, all_b, any_b, sum_l, dLst, dTup, setAll, ownAt, putOwn, frzE, boAt, wipeE, cut_map, cut_from1, cut_to1, List.getElem?_cons_zero, List.getElem?_cons_succ, List.set_cons_zero, List.set_cons_succ, Option.some.injEq, Sl.dt.injEq, Sl.ow.injEq, Sl.bo.injEq, Rv.d.injEq, Rv.l.injEq, PyData.int.injEq, PyData.bool.injEq, PyData.str.injEq, PyData.list.injEq, PyData.tuple.injEq, List.cons.injEq, exists_eq_left', exists_eq_left, exists_eq_right', exists_eq, exists_eq', exists_and_left, exists_const, and_true, true_and, and_assoc, Int.reduceLT, Int.reduceLE, Int.reducePow, Int.reduceToNat, Int.reduceNeg, Int.reduceMul, Int.reduceAdd, Int.reduceSub, Nat.reduceLT, Nat.reduceLeDiff, Nat.reducePow, Nat.reduceAdd, List.length_cons, List.length_nil, List.length_map, forall_const, decide_true, decide_false, Bool.not_true, Bool.not_false, Bool.false_eq_true, Bool.true_eq_false, false_implies, true_implies, reduceCtorEq, eq_self, eq_tI, ne_tI, eq_lI, ne_lI, all_T, wU_lst2, wU_lst3, sz_0, sz_1, sz_2, sz_3, sz_4, sz_5, sz_6, sz_7, sz_8, implies_true, revA_l, revA_t, isB_b, isntB_b, zRev_1, zRev_2, zRev_3, zRev_4, zRev_5, revS_l, revS_t, sumT_l, sumT_t, xW_seq, xW_if, xW_arg, xW_call, xW_raise, xW_raise0, xK, wE_xnone, wE_xfld, wE_xis, Sl.xt.injEq, Xt.exn.injEq, or_false, false_or, lk_hd, inCs_hd, mem_hd, false_and, and_false]
theorem raised_any {f : List Int} {d : D} {b : Int} (hd : Dn f d) (h1 : f.length ≤ 900) : Z_raised [d, .int b] = some (.d (.tuple (I (f.map (· + b))))) := by
  refine wR_eq ?_
  unfold Z_raised
  refine wR_run rfl ?_
  show wS _ [.dt _, .dt _, .un] _
  unfold B_raised
  rcases hd with rfl | rfl
  all_goals
    simp only [wE_var, wE_c, wE_1, wE_2, wA_nil, wA_cons, wE_A, wT_bool, wT_yes, wT_not, wT_and, wT_or, wE_ofT, wE_if, wE_chain, wO_no, wO_part, wE_sl, wE_isa, wE_ownLen, wE_ownIx, wE_app, wE_ext, wE_ins, wE_rg1, wE_rg2, wE_rev, wE_popAt, wE_pop, wS_putIx, wE_box, wE_boxNew, wS_seq, wS_nx, wS_ct, wS_bk, wS_set, wS_own, wS_ret, wS_drop, wS_if, wS_retO, wS_frz, wS_asg, wU_name, wUs_nil, wUs_cons, wU_tup2, wU_tup3, wPar_nil, wPar_cons, wS_par, wS_aug, wA_zip2, wA_zip3, wA_zipS, wA_seqIt, wA_range1, wA_range2, wA_enum, wS_for, seqK, lpK, rtK, rbK, wR_some, wB_some, wR_ite, mAnd, mOr, mNot, toD_d, toD_l, f1_one, f2_two, add_i, add_l, add_t, iadd_i, sub_i, mul_i, mul_l, mod_i, fdiv_w, fdOk_2, fdOk_64, fdOk_7, fdOk_m, na10, na2, at3_0, at3_1, at3_2, at2_0, at2_1, Mir.atI_last, ix3_0, ix3_1, ix3_2, pow_i, neg_i, len_l, len_t, abs_i, max2_i, min2_i, int_i, int_b, list_l, list_t, tuple_l, tuple_t, lt_i, le_i, gt_i, ge_i, eq_i, ne_i, eq_b, ne_b, eq_s, ne_s, sl_l, sl_t, src_l, src_t, revL_l, revT_l, slot_f, slot_l, wS_new, ix_l, ix_t, all_b, any_b, sum_l, dLst, dTup, setAll, ownAt, putOwn, frzE, boAt, wipeE, cut_map, cut_from1, cut_to1, List.getElem?_cons_zero, List.getElem?_cons_succ, List.set_cons_zero, List.set_cons_succ, Option.some.injEq, Sl.dt.injEq, Sl.ow.injEq, Sl.bo.injEq, Rv.d.injEq, Rv.l.injEq, PyData.int.injEq, PyData.bool.injEq, PyData.str.injEq, PyData.list.injEq, PyData.tuple.injEq, List.cons.injEq, exists_eq_left', exists_eq_left, exists_eq_right', exists_eq, exists_eq', exists_and_left, exists_const, and_true, true_and, and_assoc, Int.reduceLT, Int.reduceLE, Int.reducePow, Int.reduceToNat, Int.reduceNeg, Int.reduceMul, Int.reduceAdd, Int.reduceSub, Nat.reduceLT, Nat.reduceLeDiff, Nat.reducePow, Nat.reduceAdd, List.length_cons, List.length_nil, List.length_map, forall_const, decide_true, decide_false, Bool.not_true, Bool.not_false, Bool.false_eq_true, Bool.true_eq_false, false_implies, true_implies, reduceCtorEq, eq_self, eq_tI, ne_tI, eq_lI, ne_lI, all_T, wU_lst2, wU_lst3, sz_0, sz_1, sz_2, sz_3, sz_4, sz_5, sz_6, sz_7, sz_8, implies_true, revA_l, revA_t, isB_b, isntB_b, zRev_1, zRev_2, zRev_3, zRev_4, zRev_5, revS_l, revS_t, sumT_l, sumT_t, xW_seq, xW_if, xW_arg, xW_call, xW_raise, xW_raise0, xK, wE_xnone, wE_xfld, wE_xis, Sl.xt.injEq, Xt.exn.injEq, or_false, false_or, lk_hd, inCs_hd, mem_hd, false_and, and_false]
    refine wE_pure (zs := f) PyData.int (fun x => .int (x + b)) (by simp only [wE_var, wE_c, wE_1, wE_2, wA_nil, wA_cons, wE_A, wT_bool, wT_yes, wT_not, wT_and, wT_or, wE_ofT, wE_if, wE_chain, wO_no, wO_part, wE_sl, wE_isa, wE_ownLen, wE_ownIx, wE_app, wE_ext, wE_ins, wE_rg1, wE_rg2, wE_rev, wE_popAt, wE_pop, wS_putIx, wE_box, wE_boxNew, wS_seq, wS_nx, wS_ct, wS_bk, wS_set, wS_own, wS_ret, wS_drop, wS_if, wS_retO, wS_frz, wS_asg, wU_name, wUs_nil, wUs_cons, wU_tup2, wU_tup3, wPar_nil, wPar_cons, wS_par, wS_aug, wA_zip2, wA_zip3, wA_zipS, wA_seqIt, wA_range1, wA_range2, wA_enum, wS_for, seqK, lpK, rtK, rbK, wR_some, wB_some, wR_ite, mAnd, mOr, mNot, toD_d, toD_l, f1_one, f2_two, add_i, add_l, add_t, iadd_i, sub_i, mul_i, mul_l, mod_i, fdiv_w, fdOk_2, fdOk_64, fdOk_7, fdOk_m, na10, na2, at3_0, at3_1, at3_2, at2_0, at2_1, Mir.atI_last, ix3_0, ix3_1, ix3_2, pow_i, neg_i, len_l, len_t, abs_i, max2_i, min2_i, int_i, int_b, list_l, list_t, tuple_l, tuple_t, lt_i, le_i, gt_i, ge_i, eq_i, ne_i, eq_b, ne_b, eq_s, ne_s, sl_l, sl_t, src_l, src_t, revL_l, revT_l, slot_f, slot_l, wS_new, ix_l, ix_t, all_b, any_b, sum_l, dLst, dTup, setAll, ownAt, putOwn, frzE, boAt, wipeE, cut_map, cut_from1, cut_to1, List.getElem?_cons_zero, List.getElem?_cons_succ, List.set_cons_zero, List.set_cons_succ, Option.some.injEq, Sl.dt.injEq, Sl.ow.injEq, Sl.bo.injEq, Rv.d.injEq, Rv.l.injEq, PyData.int.injEq, PyData.bool.injEq, PyData.str.injEq, PyData.list.injEq, PyData.tuple.injEq, List.cons.injEq, exists_eq_left', exists_eq_left, exists_eq_right', exists_eq, exists_eq', exists_and_left, exists_const, and_true, true_and, and_assoc, Int.reduceLT, Int.reduceLE, Int.reducePow, Int.reduceToNat, Int.reduceNeg, Int.reduceMul, Int.reduceAdd, Int.reduceSub, Nat.reduceLT, Nat.reduceLeDiff, Nat.reducePow, Nat.reduceAdd, List.length_cons, List.length_nil, List.length_map, forall_const, decide_true, decide_false, Bool.not_true, Bool.not_false, Bool.false_eq_true, Bool.true_eq_false, false_implies, true_implies, reduceCtorEq, eq_self, eq_tI, ne_tI, eq_lI, ne_lI, all_T, wU_lst2, wU_lst3, sz_0, sz_1, sz_2, sz_3, sz_4, sz_5, sz_6, sz_7, sz_8, implies_true, revA_l, revA_t, isB_b, isntB_b, zRev_1, zRev_2, zRev_3, zRev_4, zRev_5, revS_l, revS_t, sumT_l, sumT_t, xW_seq, xW_if, xW_arg, xW_call, xW_raise, xW_raise0, xK, wE_xnone, wE_xfld, wE_xis, Sl.xt.injEq, Xt.exn.injEq, or_false, false_or, lk_hd, inCs_hd, mem_hd, false_and, and_false] <;> rfl) rfl (szl (by omega)) (fun x _ => by simp only [wE_var, wE_c, wE_1, wE_2, wA_nil, wA_cons, wE_A, wT_bool, wT_yes, wT_not, wT_and, wT_or, wE_ofT, wE_if, wE_chain, wO_no, wO_part, wE_sl, wE_isa, wE_ownLen, wE_ownIx, wE_app, wE_ext, wE_ins, wE_rg1, wE_rg2, wE_rev, wE_popAt, wE_pop, wS_putIx, wE_box, wE_boxNew, wS_seq, wS_nx, wS_ct, wS_bk, wS_set, wS_own, wS_ret, wS_drop, wS_if, wS_retO, wS_frz, wS_asg, wU_name, wUs_nil, wUs_cons, wU_tup2, wU_tup3, wPar_nil, wPar_cons, wS_par, wS_aug, wA_zip2, wA_zip3, wA_zipS, wA_seqIt, wA_range1, wA_range2, wA_enum, wS_for, seqK, lpK, rtK, rbK, wR_some, wB_some, wR_ite, mAnd, mOr, mNot, toD_d, toD_l, f1_one, f2_two, add_i, add_l, add_t, iadd_i, sub_i, mul_i, mul_l, mod_i, fdiv_w, fdOk_2, fdOk_64, fdOk_7, fdOk_m, na10, na2, at3_0, at3_1, at3_2, at2_0, at2_1, Mir.atI_last, ix3_0, ix3_1, ix3_2, pow_i, neg_i, len_l, len_t, abs_i, max2_i, min2_i, int_i, int_b, list_l, list_t, tuple_l, tuple_t, lt_i, le_i, gt_i, ge_i, eq_i, ne_i, eq_b, ne_b, eq_s, ne_s, sl_l, sl_t, src_l, src_t, revL_l, revT_l, slot_f, slot_l, wS_new, ix_l, ix_t, all_b, any_b, sum_l, dLst, dTup, setAll, ownAt, putOwn, frzE, boAt, wipeE, cut_map, cut_from1, cut_to1, List.getElem?_cons_zero, List.getElem?_cons_succ, List.set_cons_zero, List.set_cons_succ, Option.some.injEq, Sl.dt.injEq, Sl.ow.injEq, Sl.bo.injEq, Rv.d.injEq, Rv.l.injEq, PyData.int.injEq, PyData.bool.injEq, PyData.str.injEq, PyData.list.injEq, PyData.tuple.injEq, List.cons.injEq, exists_eq_left', exists_eq_left, exists_eq_right', exists_eq, exists_eq', exists_and_left, exists_const, and_true, true_and, and_assoc, Int.reduceLT, Int.reduceLE, Int.reducePow, Int.reduceToNat, Int.reduceNeg, Int.reduceMul, Int.reduceAdd, Int.reduceSub, Nat.reduceLT, Nat.reduceLeDiff, Nat.reducePow, Nat.reduceAdd, List.length_cons, List.length_nil, List.length_map, forall_const, decide_true, decide_false, Bool.not_true, Bool.not_false, Bool.false_eq_true, Bool.true_eq_false, false_implies, true_implies, reduceCtorEq, eq_self, eq_tI, ne_tI, eq_lI, ne_lI, all_T, wU_lst2, wU_lst3, sz_0, sz_1, sz_2, sz_3, sz_4, sz_5, sz_6, sz_7, sz_8, implies_true, revA_l, revA_t, isB_b, isntB_b, zRev_1, zRev_2, zRev_3, zRev_4, zRev_5, revS_l, revS_t, sumT_l, sumT_t, xW_seq, xW_if, xW_arg, xW_call, xW_raise, xW_raise0, xK, wE_xnone, wE_xfld, wE_xis, Sl.xt.injEq, Xt.exn.injEq, or_false, false_or, lk_hd, inCs_hd, mem_hd, false_and, and_false]) ?_
    simp only [wE_var, wE_c, wE_1, wE_2, wA_nil, wA_cons, wE_A, wT_bool, wT_yes, wT_not, wT_and, wT_or, wE_ofT, wE_if, wE_chain, wO_no, wO_part, wE_sl, wE_isa, wE_ownLen, wE_ownIx, wE_app, wE_ext, wE_ins, wE_rg1, wE_rg2, wE_rev, wE_popAt, wE_pop, wS_putIx, wE_box, wE_boxNew, wS_seq, wS_nx, wS_ct, wS_bk, wS_set, wS_own, wS_ret, wS_drop, wS_if, wS_retO, wS_frz, wS_asg, wU_name, wUs_nil, wUs_cons, wU_tup2, wU_tup3, wPar_nil, wPar_cons, wS_par, wS_aug, wA_zip2, wA_zip3, wA_zipS, wA_seqIt, wA_range1, wA_range2, wA_enum, wS_for, seqK, lpK, rtK, rbK, wR_some, wB_some, wR_ite, mAnd, mOr, mNot, toD_d, toD_l, f1_one, f2_two, add_i, add_l, add_t, iadd_i, sub_i, mul_i, mul_l, mod_i, fdiv_w, fdOk_2, fdOk_64, fdOk_7, fdOk_m, na10, na2, at3_0, at3_1, at3_2, at2_0, at2_1, Mir.atI_last, ix3_0, ix3_1, ix3_2, pow_i, neg_i, len_l, len_t, abs_i, max2_i, min2_i, int_i, int_b, list_l, list_t, tuple_l, tuple_t, lt_i, le_i, gt_i, ge_i, eq_i, ne_i, eq_b, ne_b, eq_s, ne_s, sl_l, sl_t, src_l, src_t, revL_l, revT_l, slot_f, slot_l, wS_new, ix_l, ix_t, all_b, any_b, sum_l, dLst, dTup, setAll, ownAt, putOwn, frzE, boAt, wipeE, cut_map, cut_from1, cut_to1, List.getElem?_cons_zero, List.getElem?_cons_succ, List.set_cons_zero, List.set_cons_succ, Option.some.injEq, Sl.dt.injEq, Sl.ow.injEq, Sl.bo.injEq, Rv.d.injEq, Rv.l.injEq, PyData.int.injEq, PyData.bool.injEq, PyData.str.injEq, PyData.list.injEq, PyData.tuple.injEq, List.cons.injEq, exists_eq_left', exists_eq_left, exists_eq_right', exists_eq, exists_eq', exists_and_left, exists_const, and_true, true_and, and_assoc, Int.reduceLT, Int.reduceLE, Int.reducePow, Int.reduceToNat, Int.reduceNeg, Int.reduceMul, Int.reduceAdd, Int.reduceSub, Nat.reduceLT, Nat.reduceLeDiff, Nat.reducePow, Nat.reduceAdd, List.length_cons, List.length_nil, List.length_map, forall_const, decide_true, decide_false, Bool.not_true, Bool.not_false, Bool.false_eq_true, Bool.true_eq_false, false_implies, true_implies, reduceCtorEq, eq_self, eq_tI, ne_tI, eq_lI, ne_lI, all_T, wU_lst2, wU_lst3, sz_0, sz_1, sz_2, sz_3, sz_4, sz_5, sz_6, sz_7, sz_8, implies_true, revA_l, revA_t, isB_b, isntB_b, zRev_1, zRev_2, zRev_3, zRev_4, zRev_5, revS_l, revS_t, sumT_l, sumT_t, xW_seq, xW_if, xW_arg, xW_call, xW_raise, xW_raise0, xK, wE_xnone, wE_xfld, wE_xis, Sl.xt.injEq, Xt.exn.injEq, or_false, false_or, lk_hd, inCs_hd, mem_hd, false_and, and_false]
    rw [I, List.map_map]
    rfl
theorem mirrored_any {f : List Int} {d : D} (hd : Dn f d) : Z_mirrored [d] = some (.d (.tuple (I f.reverse))) := by
  refine wR_eq ?_
  unfold Z_mirrored
  refine wR_run rfl ?_
  show wS _ [.dt _] _
  unfold B_mirrored
  rcases hd with rfl | rfl <;> simp only [wE_var, wE_c, wE_1, wE_2, wA_nil, wA_cons, wE_A, wT_bool, wT_yes, wT_not, wT_and, wT_or, wE_ofT, wE_if, wE_chain, wO_no, wO_part, wE_sl, wE_isa, wE_ownLen, wE_ownIx, wE_app, wE_ext, wE_ins, wE_rg1, wE_rg2, wE_rev, wE_popAt, wE_pop, wS_putIx, wE_box, wE_boxNew, wS_seq, wS_nx, wS_ct, wS_bk, wS_set, wS_own, wS_ret, wS_drop, wS_if, wS_retO, wS_frz, wS_asg, wU_name, wUs_nil, wUs_cons, wU_tup2, wU_tup3, wPar_nil, wPar_cons, wS_par, wS_aug, wA_zip2, wA_zip3, wA_zipS, wA_seqIt, wA_range1, wA_range2, wA_enum, wS_for, seqK, lpK, rtK, rbK, wR_some, wB_some, wR_ite, mAnd, mOr, mNot, toD_d, toD_l, f1_one, f2_two, add_i, add_l, add_t, iadd_i, sub_i, mul_i, mul_l, mod_i, fdiv_w, fdOk_2, fdOk_64, fdOk_7, fdOk_m, na10, na2, at3_0, at3_1, at3_2, at2_0, at2_1, Mir.atI_last, ix3_0, ix3_1, ix3_2, pow_i, neg_i, len_l, len_t, abs_i, max2_i, min2_i, int_i, int_b, list_l, list_t, tuple_l, tuple_t, lt_i, le_i, gt_i, ge_i, eq_i, ne_i, eq_b, ne_b, eq_s, ne_s, sl_l, sl_t, src_l, src_t, revL_l, revT_l, slot_f, slot_l, wS_new, ix_l, ix_t, all_b, any_b, sum_l, dLst, dTup, setAll, ownAt, putOwn, frzE, boAt, wipeE, cut_map, cut_from1, cut_to1, List.getElem?_cons_zero, List.getElem?_cons_succ, List.set_cons_zero, List.set_cons_succ, Option.some.injEq, Sl.dt.injEq, Sl.ow.injEq, Sl.bo.injEq, Rv.d.injEq, Rv.l.injEq, PyData.int.injEq, PyData.bool.injEq, PyData.str.injEq, PyData.list.injEq, PyData.tuple.injEq, List.cons.injEq, exists_eq_left', exists_eq_left, exists_eq_right', exists_eq, exists_eq', exists_and_left, exists_const, and_true, true_and, and_assoc, Int.reduceLT, Int.reduceLE, Int.reducePow, Int.reduceToNat, Int.reduceNeg, Int.reduceMul, Int.reduceAdd, Int.reduceSub, Nat.reduceLT, Nat.reduceLeDiff, Nat.reducePow, Nat.reduceAdd, List.length_cons, List.length_nil, List.length_map, forall_const, decide_true, decide_false, Bool.not_true, Bool.not_false, Bool.false_eq_true, Bool.true_eq_false, false_implies, true_implies, reduceCtorEq, eq_self, eq_tI, ne_tI, eq_lI, ne_lI, all_T, wU_lst2, wU_lst3, sz_0, sz_1, sz_2, sz_3, sz_4, sz_5, sz_6, sz_7, sz_8, implies_true, revA_l, revA_t, isB_b, isntB_b, zRev_1, zRev_2, zRev_3, zRev_4, zRev_5, revS_l, revS_t, sumT_l, sumT_t, xW_seq, xW_if, xW_arg, xW_call, xW_raise, xW_raise0, xK, wE_xnone, wE_xfld, wE_xis, Sl.xt.injEq, Xt.exn.injEq, or_false, false_or, lk_hd, inCs_hd, mem_hd, false_and, and_false] <;> rw [I, I, List.map_reverse]
theorem upside_any {f : List Int} {d : D} (hd : Dn f d) (h1 : f.length ≤ 900) : Z_upside [d] = some (.d (.tuple (I (f.map (- ·))))) := by
  refine wR_eq ?_
  unfold Z_upside
  refine wR_run rfl ?_
  show wS _ [.dt _, .un] _
  unfold B_upside
  rcases hd with rfl | rfl
  all_goals
    simp only [wE_var, wE_c, wE_1, wE_2, wA_nil, wA_cons, wE_A, wT_bool, wT_yes, wT_not, wT_and, wT_or, wE_ofT, wE_if, wE_chain, wO_no, wO_part, wE_sl, wE_isa, wE_ownLen, wE_ownIx, wE_app, wE_ext, wE_ins, wE_rg1, wE_rg2, wE_rev, wE_popAt, wE_pop, wS_putIx, wE_box, wE_boxNew, wS_seq, wS_nx, wS_ct, wS_bk, wS_set, wS_own, wS_ret, wS_drop, wS_if, wS_retO, wS_frz, wS_asg, wU_name, wUs_nil, wUs_cons, wU_tup2, wU_tup3, wPar_nil, wPar_cons, wS_par, wS_aug, wA_zip2, wA_zip3, wA_zipS, wA_seqIt, wA_range1, wA_range2, wA_enum, wS_for, seqK, lpK, rtK, rbK, wR_some, wB_some, wR_ite, mAnd, mOr, mNot, toD_d, toD_l, f1_one, f2_two, add_i, add_l, add_t, iadd_i, sub_i, mul_i, mul_l, mod_i, fdiv_w, fdOk_2, fdOk_64, fdOk_7, fdOk_m, na10, na2, at3_0, at3_1, at3_2, at2_0, at2_1, Mir.atI_last, ix3_0, ix3_1, ix3_2, pow_i, neg_i, len_l, len_t, abs_i, max2_i, min2_i, int_i, int_b, list_l, list_t, tuple_l, tuple_t, lt_i, le_i, gt_i, ge_i, eq_i, ne_i, eq_b, ne_b, eq_s, ne_s, sl_l, sl_t, src_l, src_t, revL_l, revT_l, slot_f, slot_l, wS_new, ix_l, ix_t, all_b, any_b, sum_l, dLst, dTup, setAll, ownAt, putOwn, frzE, boAt, wipeE, cut_map, cut_from1, cut_to1, List.getElem?_cons_zero, List.getElem?_cons_succ, List.set_cons_zero, List.set_cons_succ, Option.some.injEq, Sl.dt.injEq, Sl.ow.injEq, Sl.bo.injEq, Rv.d.injEq, Rv.l.injEq, PyData.int.injEq, PyData.bool.injEq, PyData.str.injEq, PyData.list.injEq, PyData.tuple.injEq, List.cons.injEq, exists_eq_left', exists_eq_left, exists_eq_right', exists_eq, exists_eq', exists_and_left, exists_const, and_true, true_and, and_assoc, Int.reduceLT, Int.reduceLE, Int.reducePow, Int.reduceToNat, Int.reduceNeg, Int.reduceMul, Int.reduceAdd, Int.reduceSub, Nat.reduceLT, Nat.reduceLeDiff, Nat.reducePow, Nat.reduceAdd, List.length_cons, List.length_nil, List.length_map, forall_const, decide_true, decide_false, Bool.not_true, Bool.not_false, Bool.false_eq_true, Bool.true_eq_false, false_implies, true_implies, reduceCtorEq, eq_self, eq_tI, ne_tI, eq_lI, ne_lI, all_T, wU_lst2, wU_lst3, sz_0, sz_1, sz_2, sz_3, sz_4, sz_5, sz_6, sz_7, sz_8, implies_true, revA_l, revA_t, isB_b, isntB_b, zRev_1, zRev_2, zRev_3, zRev_4, zRev_5, revS_l, revS_t, sumT_l, sumT_t, xW_seq, xW_if, xW_arg, xW_call, xW_raise, xW_raise0, xK, wE_xnone, wE_xfld, wE_xis, Sl.xt.injEq, Xt.exn.injEq, or_false, false_or, lk_hd, inCs_hd, mem_hd, false_and, and_false]
    refine wE_pure (zs := f) PyData.int (fun x => .int (-x)) (by simp only [wE_var, wE_c, wE_1, wE_2, wA_nil, wA_cons, wE_A, wT_bool, wT_yes, wT_not, wT_and, wT_or, wE_ofT, wE_if, wE_chain, wO_no, wO_part, wE_sl, wE_isa, wE_ownLen, wE_ownIx, wE_app, wE_ext, wE_ins, wE_rg1, wE_rg2, wE_rev, wE_popAt, wE_pop, wS_putIx, wE_box, wE_boxNew, wS_seq, wS_nx, wS_ct, wS_bk, wS_set, wS_own, wS_ret, wS_drop, wS_if, wS_retO, wS_frz, wS_asg, wU_name, wUs_nil, wUs_cons, wU_tup2, wU_tup3, wPar_nil, wPar_cons, wS_par, wS_aug, wA_zip2, wA_zip3, wA_zipS, wA_seqIt, wA_range1, wA_range2, wA_enum, wS_for, seqK, lpK, rtK, rbK, wR_some, wB_some, wR_ite, mAnd, mOr, mNot, toD_d, toD_l, f1_one, f2_two, add_i, add_l, add_t, iadd_i, sub_i, mul_i, mul_l, mod_i, fdiv_w, fdOk_2, fdOk_64, fdOk_7, fdOk_m, na10, na2, at3_0, at3_1, at3_2, at2_0, at2_1, Mir.atI_last, ix3_0, ix3_1, ix3_2, pow_i, neg_i, len_l, len_t, abs_i, max2_i, min2_i, int_i, int_b, list_l, list_t, tuple_l, tuple_t, lt_i, le_i, gt_i, ge_i, eq_i, ne_i, eq_b, ne_b, eq_s, ne_s, sl_l, sl_t, src_l, src_t, revL_l, revT_l, slot_f, slot_l, wS_new, ix_l, ix_t, all_b, any_b, sum_l, dLst, dTup, setAll, ownAt, putOwn, frzE, boAt, wipeE, cut_map, cut_from1, cut_to1, List.getElem?_cons_zero, List.getElem?_cons_succ, List.set_cons_zero, List.set_cons_succ, Option.some.injEq, Sl.dt.injEq, Sl.ow.injEq, Sl.bo.injEq, Rv.d.injEq, Rv.l.injEq, PyData.int.injEq, PyData.bool.injEq, PyData.str.injEq, PyData.list.injEq, PyData.tuple.injEq, List.cons.injEq, exists_eq_left', exists_eq_left, exists_eq_right', exists_eq, exists_eq', exists_and_left, exists_const, and_true, true_and, and_assoc, Int.reduceLT, Int.reduceLE, Int.reducePow, Int.reduceToNat, Int.reduceNeg, Int.reduceMul, Int.reduceAdd, Int.reduceSub, Nat.reduceLT, Nat.reduceLeDiff, Nat.reducePow, Nat.reduceAdd, List.length_cons, List.length_nil, List.length_map, forall_const, decide_true, decide_false, Bool.not_true, Bool.not_false, Bool.false_eq_true, Bool.true_eq_false, false_implies, true_implies, reduceCtorEq, eq_self, eq_tI, ne_tI, eq_lI, ne_lI, all_T, wU_lst2, wU_lst3, sz_0, sz_1, sz_2, sz_3, sz_4, sz_5, sz_6, sz_7, sz_8, implies_true, revA_l, revA_t, isB_b, isntB_b, zRev_1, zRev_2, zRev_3, zRev_4, zRev_5, revS_l, revS_t, sumT_l, sumT_t, xW_seq, xW_if, xW_arg, xW_call, xW_raise, xW_raise0, xK, wE_xnone, wE_xfld, wE_xis, Sl.xt.injEq, Xt.exn.injEq, or_false, false_or, lk_hd, inCs_hd, mem_hd, false_and, and_false] <;> rfl) rfl (szl (by omega)) (fun x _ => by simp only [wE_var, wE_c, wE_1, wE_2, wA_nil, wA_cons, wE_A, wT_bool, wT_yes, wT_not, wT_and, wT_or, wE_ofT, wE_if, wE_chain, wO_no, wO_part, wE_sl, wE_isa, wE_ownLen, wE_ownIx, wE_app, wE_ext, wE_ins, wE_rg1, wE_rg2, wE_rev, wE_popAt, wE_pop, wS_putIx, wE_box, wE_boxNew, wS_seq, wS_nx, wS_ct, wS_bk, wS_set, wS_own, wS_ret, wS_drop, wS_if, wS_retO, wS_frz, wS_asg, wU_name, wUs_nil, wUs_cons, wU_tup2, wU_tup3, wPar_nil, wPar_cons, wS_par, wS_aug, wA_zip2, wA_zip3, wA_zipS, wA_seqIt, wA_range1, wA_range2, wA_enum, wS_for, seqK, lpK, rtK, rbK, wR_some, wB_some, wR_ite, mAnd, mOr, mNot, toD_d, toD_l, f1_one, f2_two, add_i, add_l, add_t, iadd_i, sub_i, mul_i, mul_l, mod_i, fdiv_w, fdOk_2, fdOk_64, fdOk_7, fdOk_m, na10, na2, at3_0, at3_1, at3_2, at2_0, at2_1, Mir.atI_last, ix3_0, ix3_1, ix3_2, pow_i, neg_i, len_l, len_t, abs_i, max2_i, min2_i, int_i, int_b, list_l, list_t, tuple_l, tuple_t, lt_i, le_i, gt_i, ge_i, eq_i, ne_i, eq_b, ne_b, eq_s, ne_s, sl_l, sl_t, src_l, src_t, revL_l, revT_l, slot_f, slot_l, wS_new, ix_l, ix_t, all_b, any_b, sum_l, dLst, dTup, setAll, ownAt, putOwn, frzE, boAt, wipeE, cut_map, cut_from1, cut_to1, List.getElem?_cons_zero, List.getElem?_cons_succ, List.set_cons_zero, List.set_cons_succ, Option.some.injEq, Sl.dt.injEq, Sl.ow.injEq, Sl.bo.injEq, Rv.d.injEq, Rv.l.injEq, PyData.int.injEq, PyData.bool.injEq, PyData.str.injEq, PyData.list.injEq, PyData.tuple.injEq, List.cons.injEq, exists_eq_left', exists_eq_left, exists_eq_right', exists_eq, exists_eq', exists_and_left, exists_const, and_true, true_and, and_assoc, Int.reduceLT, Int.reduceLE, Int.reducePow, Int.reduceToNat, Int.reduceNeg, Int.reduceMul, Int.reduceAdd, Int.reduceSub, Nat.reduceLT, Nat.reduceLeDiff, Nat.reducePow, Nat.reduceAdd, List.length_cons, List.length_nil, List.length_map, forall_const, decide_true, decide_false, Bool.not_true, Bool.not_false, Bool.false_eq_true, Bool.true_eq_false, false_implies, true_implies, reduceCtorEq, eq_self, eq_tI, ne_tI, eq_lI, ne_lI, all_T, wU_lst2, wU_lst3, sz_0, sz_1, sz_2, sz_3, sz_4, sz_5, sz_6, sz_7, sz_8, implies_true, revA_l, revA_t, isB_b, isntB_b, zRev_1, zRev_2, zRev_3, zRev_4, zRev_5, revS_l, revS_t, sumT_l, sumT_t, xW_seq, xW_if, xW_arg, xW_call, xW_raise, xW_raise0, xK, wE_xnone, wE_xfld, wE_xis, Sl.xt.injEq, Xt.exn.injEq, or_false, false_or, lk_hd, inCs_hd, mem_hd, false_and, and_false]) ?_
    simp only [wE_var, wE_c, wE_1, wE_2, wA_nil, wA_cons, wE_A, wT_bool, wT_yes, wT_not, wT_and, wT_or, wE_ofT, wE_if, wE_chain, wO_no, wO_part, wE_sl, wE_isa, wE_ownLen, wE_ownIx, wE_app, wE_ext, wE_ins, wE_rg1, wE_rg2, wE_rev, wE_popAt, wE_pop, wS_putIx, wE_box, wE_boxNew, wS_seq, wS_nx, wS_ct, wS_bk, wS_set, wS_own, wS_ret, wS_drop, wS_if, wS_retO, wS_frz, wS_asg, wU_name, wUs_nil, wUs_cons, wU_tup2, wU_tup3, wPar_nil, wPar_cons, wS_par, wS_aug, wA_zip2, wA_zip3, wA_zipS, wA_seqIt, wA_range1, wA_range2, wA_enum, wS_for, seqK, lpK, rtK, rbK, wR_some, wB_some, wR_ite, mAnd, mOr, mNot, toD_d, toD_l, f1_one, f2_two, add_i, add_l, add_t, iadd_i, sub_i, mul_i, mul_l, mod_i, fdiv_w, fdOk_2, fdOk_64, fdOk_7, fdOk_m, na10, na2, at3_0, at3_1, at3_2, at2_0, at2_1, Mir.atI_last, ix3_0, ix3_1, ix3_2, pow_i, neg_i, len_l, len_t, abs_i, max2_i, min2_i, int_i, int_b, list_l, list_t, tuple_l, tuple_t, lt_i, le_i, gt_i, ge_i, eq_i, ne_i, eq_b, ne_b, eq_s, ne_s, sl_l, sl_t, src_l, src_t, revL_l, revT_l, slot_f, slot_l, wS_new, ix_l, ix_t, all_b, any_b, sum_l, dLst, dTup, setAll, ownAt, putOwn, frzE, boAt, wipeE, cut_map, cut_from1, cut_to1, List.getElem?_cons_zero, List.getElem?_cons_succ, List.set_cons_zero, List.set_cons_succ, Option.some.injEq, Sl.dt.injEq, Sl.ow.injEq, Sl.bo.injEq, Rv.d.injEq, Rv.l.injEq, PyData.int.injEq, PyData.bool.injEq, PyData.str.injEq, PyData.list.injEq, PyData.tuple.injEq, List.cons.injEq, exists_eq_left', exists_eq_left, exists_eq_right', exists_eq, exists_eq', exists_and_left, exists_const, and_true, true_and, and_assoc, Int.reduceLT, Int.reduceLE, Int.reducePow, Int.reduceToNat, Int.reduceNeg, Int.reduceMul, Int.reduceAdd, Int.reduceSub, Nat.reduceLT, Nat.reduceLeDiff, Nat.reducePow, Nat.reduceAdd, List.length_cons, List.length_nil, List.length_map, forall_const, decide_true, decide_false, Bool.not_true, Bool.not_false, Bool.false_eq_true, Bool.true_eq_false, false_implies, true_implies, reduceCtorEq, eq_self, eq_tI, ne_tI, eq_lI, ne_lI, all_T, wU_lst2, wU_lst3, sz_0, sz_1, sz_2, sz_3, sz_4, sz_5, sz_6, sz_7, sz_8, implies_true, revA_l, revA_t, isB_b, isntB_b, zRev_1, zRev_2, zRev_3, zRev_4, zRev_5, revS_l, revS_t, sumT_l, sumT_t, xW_seq, xW_if, xW_arg, xW_call, xW_raise, xW_raise0, xK, wE_xnone, wE_xfld, wE_xis, Sl.xt.injEq, Xt.exn.injEq, or_false, false_or, lk_hd, inCs_hd, mem_hd, false_and, and_false]
    rw [I, List.map_map]
    rfl
theorem look_any {f : List Int} {d : D} {p : Nat} (hd : Dn f d) (h : p < f.length) : Z_look_post [d, .int (p : Int)] = some (.d .none) := by
  refine wR_eq ?_
  unfold Z_look_post
  refine wR_run rfl ?_
  show wS _ [.dt _, .dt _] _
  unfold B_look_post
  have h0 : decide ((0 : Int) ≤ (p : Int)) = true := decide_eq_true (by omega)
  have h1 : decide ((p : Int) < (f.length : Int)) = true := decide_eq_true (by omega)
  rcases hd with rfl | rfl <;> simp only [wE_var, wE_c, wE_1, wE_2, wA_nil, wA_cons, wE_A, wT_bool, wT_yes, wT_not, wT_and, wT_or, wE_ofT, wE_if, wE_chain, wO_no, wO_part, wE_sl, wE_isa, wE_ownLen, wE_ownIx, wE_app, wE_ext, wE_ins, wE_rg1, wE_rg2, wE_rev, wE_popAt, wE_pop, wS_putIx, wE_box, wE_boxNew, wS_seq, wS_nx, wS_ct, wS_bk, wS_set, wS_own, wS_ret, wS_drop, wS_if, wS_retO, wS_frz, wS_asg, wU_name, wUs_nil, wUs_cons, wU_tup2, wU_tup3, wPar_nil, wPar_cons, wS_par, wS_aug, wA_zip2, wA_zip3, wA_zipS, wA_seqIt, wA_range1, wA_range2, wA_enum, wS_for, seqK, lpK, rtK, rbK, wR_some, wB_some, wR_ite, mAnd, mOr, mNot, toD_d, toD_l, f1_one, f2_two, add_i, add_l, add_t, iadd_i, sub_i, mul_i, mul_l, mod_i, fdiv_w, fdOk_2, fdOk_64, fdOk_7, fdOk_m, na10, na2, at3_0, at3_1, at3_2, at2_0, at2_1, Mir.atI_last, ix3_0, ix3_1, ix3_2, pow_i, neg_i, len_l, len_t, abs_i, max2_i, min2_i, int_i, int_b, list_l, list_t, tuple_l, tuple_t, lt_i, le_i, gt_i, ge_i, eq_i, ne_i, eq_b, ne_b, eq_s, ne_s, sl_l, sl_t, src_l, src_t, revL_l, revT_l, slot_f, slot_l, wS_new, ix_l, ix_t, all_b, any_b, sum_l, dLst, dTup, setAll, ownAt, putOwn, frzE, boAt, wipeE, cut_map, cut_from1, cut_to1, List.getElem?_cons_zero, List.getElem?_cons_succ, List.set_cons_zero, List.set_cons_succ, Option.some.injEq, Sl.dt.injEq, Sl.ow.injEq, Sl.bo.injEq, Rv.d.injEq, Rv.l.injEq, PyData.int.injEq, PyData.bool.injEq, PyData.str.injEq, PyData.list.injEq, PyData.tuple.injEq, List.cons.injEq, exists_eq_left', exists_eq_left, exists_eq_right', exists_eq, exists_eq', exists_and_left, exists_const, and_true, true_and, and_assoc, Int.reduceLT, Int.reduceLE, Int.reducePow, Int.reduceToNat, Int.reduceNeg, Int.reduceMul, Int.reduceAdd, Int.reduceSub, Nat.reduceLT, Nat.reduceLeDiff, Nat.reducePow, Nat.reduceAdd, List.length_cons, List.length_nil, List.length_map, forall_const, decide_true, decide_false, Bool.not_true, Bool.not_false, Bool.false_eq_true, Bool.true_eq_false, false_implies, true_implies, reduceCtorEq, eq_self, eq_tI, ne_tI, eq_lI, ne_lI, all_T, wU_lst2, wU_lst3, sz_0, sz_1, sz_2, sz_3, sz_4, sz_5, sz_6, sz_7, sz_8, implies_true, revA_l, revA_t, isB_b, isntB_b, zRev_1, zRev_2, zRev_3, zRev_4, zRev_5, revS_l, revS_t, sumT_l, sumT_t, xW_seq, xW_if, xW_arg, xW_call, xW_raise, xW_raise0, xK, wE_xnone, wE_xfld, wE_xis, Sl.xt.injEq, Xt.exn.injEq, or_false, false_or, lk_hd, inCs_hd, mem_hd, false_and, and_false, h0, h1]
theorem handed_any {f : List Int} {d : D} {p : Nat} {b : Int} (hd : Dn f d) (h : p < f.length) (h1 : f.length ≤ 1000) : Z_handed [d, .int (p : Int), .int b] = some (.d (.tuple (I (hnd f p b)))) := by
  refine wR_eq ?_
  unfold Z_handed
  refine wR_run rfl ?_
  show wS _ [.dt _, .dt _, .dt _, .un, .un] _
  unfold B_handed
  have lk := look_any hd h
  have e : ∀ k : Nat, decide (((0 + k : Nat) : Int) = (p : Int)) = decide (k = p) := fun k => by
    by_cases q : k = p
    · rw [decide_eq_true q, decide_eq_true (by omega)]
    · rw [decide_eq_false q, decide_eq_false (by omega)]
  rcases hd with rfl | rfl
  all_goals
    simp only [wE_var, wE_c, wE_1, wE_2, wA_nil, wA_cons, wE_A, wT_bool, wT_yes, wT_not, wT_and, wT_or, wE_ofT, wE_chain, wO_no, wO_part, wE_sl, wE_isa, wE_ownLen, wE_ownIx, wE_app, wE_ext, wE_ins, wE_rg1, wE_rg2, wE_rev, wE_popAt, wE_pop, wS_putIx, wE_box, wE_boxNew, wS_seq, wS_nx, wS_ct, wS_bk, wS_set, wS_own, wS_ret, wS_drop, wS_if, wS_retO, wS_frz, wS_asg, wU_name, wUs_nil, wUs_cons, wU_tup2, wU_tup3, wPar_nil, wPar_cons, wS_par, wS_aug, wA_zip2, wA_zip3, wA_zipS, wA_seqIt, wA_range1, wA_range2, wA_enum, wS_for, seqK, lpK, rtK, rbK, wR_some, wB_some, wR_ite, mAnd, mOr, mNot, toD_d, toD_l, f1_one, f2_two, add_i, add_l, add_t, iadd_i, sub_i, mul_i, mul_l, mod_i, fdiv_w, fdOk_2, fdOk_64, fdOk_7, fdOk_m, na10, na2, at3_0, at3_1, at3_2, at2_0, at2_1, Mir.atI_last, ix3_0, ix3_1, ix3_2, pow_i, neg_i, len_l, len_t, abs_i, max2_i, min2_i, int_i, int_b, list_l, list_t, tuple_l, tuple_t, lt_i, le_i, gt_i, ge_i, eq_i, ne_i, eq_b, ne_b, eq_s, ne_s, sl_l, sl_t, src_l, src_t, revL_l, revT_l, slot_f, slot_l, wS_new, ix_l, ix_t, all_b, any_b, sum_l, dLst, dTup, setAll, ownAt, putOwn, frzE, boAt, wipeE, cut_map, cut_from1, cut_to1, List.getElem?_cons_zero, List.getElem?_cons_succ, List.set_cons_zero, List.set_cons_succ, Option.some.injEq, Sl.dt.injEq, Sl.ow.injEq, Sl.bo.injEq, Rv.d.injEq, Rv.l.injEq, PyData.int.injEq, PyData.bool.injEq, PyData.str.injEq, PyData.list.injEq, PyData.tuple.injEq, List.cons.injEq, exists_eq_left', exists_eq_left, exists_eq_right', exists_eq, exists_eq', exists_and_left, exists_const, and_true, true_and, and_assoc, Int.reduceLT, Int.reduceLE, Int.reducePow, Int.reduceToNat, Int.reduceNeg, Int.reduceMul, Int.reduceAdd, Int.reduceSub, Nat.reduceLT, Nat.reduceLeDiff, Nat.reducePow, Nat.reduceAdd, List.length_cons, List.length_nil, List.length_map, forall_const, decide_true, decide_false, Bool.not_true, Bool.not_false, Bool.false_eq_true, Bool.true_eq_false, false_implies, true_implies, reduceCtorEq, eq_self, eq_tI, ne_tI, eq_lI, ne_lI, all_T, wU_lst2, wU_lst3, sz_0, sz_1, sz_2, sz_3, sz_4, sz_5, sz_6, sz_7, sz_8, implies_true, revA_l, revA_t, isB_b, isntB_b, zRev_1, zRev_2, zRev_3, zRev_4, zRev_5, revS_l, revS_t, sumT_l, sumT_t, xW_seq, xW_if, xW_arg, xW_call, xW_raise, xW_raise0, xK, wE_xnone, wE_xfld, wE_xis, Sl.xt.injEq, Xt.exn.injEq, or_false, false_or, lk_hd, inCs_hd, mem_hd, false_and, and_false, lk]
    refine wE_pure (zs := List.range f.length) (fun k => .tuple [.int ((0 + k : Nat) : Int), .int (at' f k)]) (fun k => .int (if k = p then at' f k + b else at' f k)) (by simp only [wE_var, wE_c, wE_1, wE_2, wA_nil, wA_cons, wE_A, wT_bool, wT_yes, wT_not, wT_and, wT_or, wE_ofT, wE_if, wE_chain, wO_no, wO_part, wE_sl, wE_isa, wE_ownLen, wE_ownIx, wE_app, wE_ext, wE_ins, wE_rg1, wE_rg2, wE_rev, wE_popAt, wE_pop, wS_putIx, wE_box, wE_boxNew, wS_seq, wS_nx, wS_ct, wS_bk, wS_set, wS_own, wS_ret, wS_drop, wS_if, wS_retO, wS_frz, wS_asg, wU_name, wUs_nil, wUs_cons, wU_tup2, wU_tup3, wPar_nil, wPar_cons, wS_par, wS_aug, wA_zip2, wA_zip3, wA_zipS, wA_seqIt, wA_range1, wA_range2, wA_enum, wS_for, seqK, lpK, rtK, rbK, wR_some, wB_some, wR_ite, mAnd, mOr, mNot, toD_d, toD_l, f1_one, f2_two, add_i, add_l, add_t, iadd_i, sub_i, mul_i, mul_l, mod_i, fdiv_w, fdOk_2, fdOk_64, fdOk_7, fdOk_m, na10, na2, at3_0, at3_1, at3_2, at2_0, at2_1, Mir.atI_last, ix3_0, ix3_1, ix3_2, pow_i, neg_i, len_l, len_t, abs_i, max2_i, min2_i, int_i, int_b, list_l, list_t, tuple_l, tuple_t, lt_i, le_i, gt_i, ge_i, eq_i, ne_i, eq_b, ne_b, eq_s, ne_s, sl_l, sl_t, src_l, src_t, revL_l, revT_l, slot_f, slot_l, wS_new, ix_l, ix_t, all_b, any_b, sum_l, dLst, dTup, setAll, ownAt, putOwn, frzE, boAt, wipeE, cut_map, cut_from1, cut_to1, List.getElem?_cons_zero, List.getElem?_cons_succ, List.set_cons_zero, List.set_cons_succ, Option.some.injEq, Sl.dt.injEq, Sl.ow.injEq, Sl.bo.injEq, Rv.d.injEq, Rv.l.injEq, PyData.int.injEq, PyData.bool.injEq, PyData.str.injEq, PyData.list.injEq, PyData.tuple.injEq, List.cons.injEq, exists_eq_left', exists_eq_left, exists_eq_right', exists_eq, exists_eq', exists_and_left, exists_const, and_true, true_and, and_assoc, Int.reduceLT, Int.reduceLE, Int.reducePow, Int.reduceToNat, Int.reduceNeg, Int.reduceMul, Int.reduceAdd, Int.reduceSub, Nat.reduceLT, Nat.reduceLeDiff, Nat.reducePow, Nat.reduceAdd, List.length_cons, List.length_nil, List.length_map, forall_const, decide_true, decide_false, Bool.not_true, Bool.not_false, Bool.false_eq_true, Bool.true_eq_false, false_implies, true_implies, reduceCtorEq, eq_self, eq_tI, ne_tI, eq_lI, ne_lI, all_T, wU_lst2, wU_lst3, sz_0, sz_1, sz_2, sz_3, sz_4, sz_5, sz_6, sz_7, sz_8, implies_true, revA_l, revA_t, isB_b, isntB_b, zRev_1, zRev_2, zRev_3, zRev_4, zRev_5, revS_l, revS_t, sumT_l, sumT_t, xW_seq, xW_if, xW_arg, xW_call, xW_raise, xW_raise0, xK, wE_xnone, wE_xfld, wE_xis, Sl.xt.injEq, Xt.exn.injEq, or_false, false_or, lk_hd, inCs_hd, mem_hd, false_and, and_false] <;> exact ⟨enum_I f 0, rfl⟩) rfl (szl (by rw [List.length_range]; exact h1)) (fun k hk => ?_) ?_
    · simp only [wE_var, wE_c, wE_1, wE_2, wA_nil, wA_cons, wE_A, wT_bool, wT_yes, wT_not, wT_and, wT_or, wE_ofT, wE_if, wE_chain, wO_no, wO_part, wE_sl, wE_isa, wE_ownLen, wE_ownIx, wE_app, wE_ext, wE_ins, wE_rg1, wE_rg2, wE_rev, wE_popAt, wE_pop, wS_putIx, wE_box, wE_boxNew, wS_seq, wS_nx, wS_ct, wS_bk, wS_set, wS_own, wS_ret, wS_drop, wS_if, wS_retO, wS_frz, wS_asg, wU_name, wUs_nil, wUs_cons, wU_tup2, wU_tup3, wPar_nil, wPar_cons, wS_par, wS_aug, wA_zip2, wA_zip3, wA_zipS, wA_seqIt, wA_range1, wA_range2, wA_enum, wS_for, seqK, lpK, rtK, rbK, wR_some, wB_some, wR_ite, mAnd, mOr, mNot, toD_d, toD_l, f1_one, f2_two, add_i, add_l, add_t, iadd_i, sub_i, mul_i, mul_l, mod_i, fdiv_w, fdOk_2, fdOk_64, fdOk_7, fdOk_m, na10, na2, at3_0, at3_1, at3_2, at2_0, at2_1, Mir.atI_last, ix3_0, ix3_1, ix3_2, pow_i, neg_i, len_l, len_t, abs_i, max2_i, min2_i, int_i, int_b, list_l, list_t, tuple_l, tuple_t, lt_i, le_i, gt_i, ge_i, eq_i, ne_i, eq_b, ne_b, eq_s, ne_s, sl_l, sl_t, src_l, src_t, revL_l, revT_l, slot_f, slot_l, wS_new, ix_l, ix_t, all_b, any_b, sum_l, dLst, dTup, setAll, ownAt, putOwn, frzE, boAt, wipeE, cut_map, cut_from1, cut_to1, List.getElem?_cons_zero, List.getElem?_cons_succ, List.set_cons_zero, List.set_cons_succ, Option.some.injEq, Sl.dt.injEq, Sl.ow.injEq, Sl.bo.injEq, Rv.d.injEq, Rv.l.injEq, PyData.int.injEq, PyData.bool.injEq, PyData.str.injEq, PyData.list.injEq, PyData.tuple.injEq, List.cons.injEq, exists_eq_left', exists_eq_left, exists_eq_right', exists_eq, exists_eq', exists_and_left, exists_const, and_true, true_and, and_assoc, Int.reduceLT, Int.reduceLE, Int.reducePow, Int.reduceToNat, Int.reduceNeg, Int.reduceMul, Int.reduceAdd, Int.reduceSub, Nat.reduceLT, Nat.reduceLeDiff, Nat.reducePow, Nat.reduceAdd, List.length_cons, List.length_nil, List.length_map, forall_const, decide_true, decide_false, Bool.not_true, Bool.not_false, Bool.false_eq_true, Bool.true_eq_false, false_implies, true_implies, reduceCtorEq, eq_self, eq_tI, ne_tI, eq_lI, ne_lI, all_T, wU_lst2, wU_lst3, sz_0, sz_1, sz_2, sz_3, sz_4, sz_5, sz_6, sz_7, sz_8, implies_true, revA_l, revA_t, isB_b, isntB_b, zRev_1, zRev_2, zRev_3, zRev_4, zRev_5, revS_l, revS_t, sumT_l, sumT_t, xW_seq, xW_if, xW_arg, xW_call, xW_raise, xW_raise0, xK, wE_xnone, wE_xfld, wE_xis, Sl.xt.injEq, Xt.exn.injEq, or_false, false_or, lk_hd, inCs_hd, mem_hd, false_and, and_false, e k]
      by_cases q : k = p
      · rw [decide_eq_true q, if_pos q]; exact ⟨fun _ => rfl, fun z => by cases z⟩
      · rw [decide_eq_false q, if_neg q]; exact ⟨fun z => (by cases z), fun _ => rfl⟩
    · simp only [wE_var, wE_c, wE_1, wE_2, wA_nil, wA_cons, wE_A, wT_bool, wT_yes, wT_not, wT_and, wT_or, wE_ofT, wE_if, wE_chain, wO_no, wO_part, wE_sl, wE_isa, wE_ownLen, wE_ownIx, wE_app, wE_ext, wE_ins, wE_rg1, wE_rg2, wE_rev, wE_popAt, wE_pop, wS_putIx, wE_box, wE_boxNew, wS_seq, wS_nx, wS_ct, wS_bk, wS_set, wS_own, wS_ret, wS_drop, wS_if, wS_retO, wS_frz, wS_asg, wU_name, wUs_nil, wUs_cons, wU_tup2, wU_tup3, wPar_nil, wPar_cons, wS_par, wS_aug, wA_zip2, wA_zip3, wA_zipS, wA_seqIt, wA_range1, wA_range2, wA_enum, wS_for, seqK, lpK, rtK, rbK, wR_some, wB_some, wR_ite, mAnd, mOr, mNot, toD_d, toD_l, f1_one, f2_two, add_i, add_l, add_t, iadd_i, sub_i, mul_i, mul_l, mod_i, fdiv_w, fdOk_2, fdOk_64, fdOk_7, fdOk_m, na10, na2, at3_0, at3_1, at3_2, at2_0, at2_1, Mir.atI_last, ix3_0, ix3_1, ix3_2, pow_i, neg_i, len_l, len_t, abs_i, max2_i, min2_i, int_i, int_b, list_l, list_t, tuple_l, tuple_t, lt_i, le_i, gt_i, ge_i, eq_i, ne_i, eq_b, ne_b, eq_s, ne_s, sl_l, sl_t, src_l, src_t, revL_l, revT_l, slot_f, slot_l, wS_new, ix_l, ix_t, all_b, any_b, sum_l, dLst, dTup, setAll, ownAt, putOwn, frzE, boAt, wipeE, cut_map, cut_from1, cut_to1, List.getElem?_cons_zero, List.getElem?_cons_succ, List.set_cons_zero, List.set_cons_succ, Option.some.injEq, Sl.dt.injEq, Sl.ow.injEq, Sl.bo.injEq, Rv.d.injEq, Rv.l.injEq, PyData.int.injEq, PyData.bool.injEq, PyData.str.injEq, PyData.list.injEq, PyData.tuple.injEq, List.cons.injEq, exists_eq_left', exists_eq_left, exists_eq_right', exists_eq, exists_eq', exists_and_left, exists_const, and_true, true_and, and_assoc, Int.reduceLT, Int.reduceLE, Int.reducePow, Int.reduceToNat, Int.reduceNeg, Int.reduceMul, Int.reduceAdd, Int.reduceSub, Nat.reduceLT, Nat.reduceLeDiff, Nat.reducePow, Nat.reduceAdd, List.length_cons, List.length_nil, List.length_map, forall_const, decide_true, decide_false, Bool.not_true, Bool.not_false, Bool.false_eq_true, Bool.true_eq_false, false_implies, true_implies, reduceCtorEq, eq_self, eq_tI, ne_tI, eq_lI, ne_lI, all_T, wU_lst2, wU_lst3, sz_0, sz_1, sz_2, sz_3, sz_4, sz_5, sz_6, sz_7, sz_8, implies_true, revA_l, revA_t, isB_b, isntB_b, zRev_1, zRev_2, zRev_3, zRev_4, zRev_5, revS_l, revS_t, sumT_l, sumT_t, xW_seq, xW_if, xW_arg, xW_call, xW_raise, xW_raise0, xK, wE_xnone, wE_xfld, wE_xis, Sl.xt.injEq, Xt.exn.injEq, or_false, false_or, lk_hd, inCs_hd, mem_hd, false_and, and_false]
      rw [← hnd_range, I, List.map_map]
      rfl
/-- no such post -/
abbrev noPost (p : Int) : Exn := ⟨"NoPost", [("post", .int p)]⟩
theorem look_x {f : List Int} {d : D} {p : Int} (hd : Dn f d) (h : ¬ (0 ≤ p ∧ p < f.length)) : R_look_post [d, .int p] = some (noPost p) := by
  refine runX_ok rfl ?_
  show xW _ [.dt _, .dt _] _
  unfold X_look_post
  by_cases h0 : 0 ≤ p
  · have h1 : decide (p < (f.length : Int)) = false := decide_eq_false (by omega)
    have h0 : decide (0 ≤ p) = true := decide_eq_true h0
    rcases hd with rfl | rfl <;> simp only [wE_var, wE_c, wE_1, wE_2, wA_nil, wA_cons, wE_A, wT_bool, wT_yes, wT_not, wT_and, wT_or, wE_ofT, wE_if, wE_chain, wO_no, wO_part, wE_sl, wE_isa, wE_ownLen, wE_ownIx, wE_app, wE_ext, wE_ins, wE_rg1, wE_rg2, wE_rev, wE_popAt, wE_pop, wS_putIx, wE_box, wE_boxNew, wS_seq, wS_nx, wS_ct, wS_bk, wS_set, wS_own, wS_ret, wS_drop, wS_if, wS_retO, wS_frz, wS_asg, wU_name, wUs_nil, wUs_cons, wU_tup2, wU_tup3, wPar_nil, wPar_cons, wS_par, wS_aug, wA_zip2, wA_zip3, wA_zipS, wA_seqIt, wA_range1, wA_range2, wA_enum, wS_for, seqK, lpK, rtK, rbK, wR_some, wB_some, wR_ite, mAnd, mOr, mNot, toD_d, toD_l, f1_one, f2_two, add_i, add_l, add_t, iadd_i, sub_i, mul_i, mul_l, mod_i, fdiv_w, fdOk_2, fdOk_64, fdOk_7, fdOk_m, na10, na2, at3_0, at3_1, at3_2, at2_0, at2_1, Mir.atI_last, ix3_0, ix3_1, ix3_2, pow_i, neg_i, len_l, len_t, abs_i, max2_i, min2_i, int_i, int_b, list_l, list_t, tuple_l, tuple_t, lt_i, le_i, gt_i, ge_i, eq_i, ne_i, eq_b, ne_b, eq_s, ne_s, sl_l, sl_t, src_l, src_t, revL_l, revT_l, slot_f, slot_l, wS_new, ix_l, ix_t, all_b, any_b, sum_l, dLst, dTup, setAll, ownAt, putOwn, frzE, boAt, wipeE, cut_map, cut_from1, cut_to1, List.getElem?_cons_zero, List.getElem?_cons_succ, List.set_cons_zero, List.set_cons_succ, Option.some.injEq, Sl.dt.injEq, Sl.ow.injEq, Sl.bo.injEq, Rv.d.injEq, Rv.l.injEq, PyData.int.injEq, PyData.bool.injEq, PyData.str.injEq, PyData.list.injEq, PyData.tuple.injEq, List.cons.injEq, exists_eq_left', exists_eq_left, exists_eq_right', exists_eq, exists_eq', exists_and_left, exists_const, and_true, true_and, and_assoc, Int.reduceLT, Int.reduceLE, Int.reducePow, Int.reduceToNat, Int.reduceNeg, Int.reduceMul, Int.reduceAdd, Int.reduceSub, Nat.reduceLT, Nat.reduceLeDiff, Nat.reducePow, Nat.reduceAdd, List.length_cons, List.length_nil, List.length_map, forall_const, decide_true, decide_false, Bool.not_true, Bool.not_false, Bool.false_eq_true, Bool.true_eq_false, false_implies, true_implies, reduceCtorEq, eq_self, eq_tI, ne_tI, eq_lI, ne_lI, all_T, wU_lst2, wU_lst3, sz_0, sz_1, sz_2, sz_3, sz_4, sz_5, sz_6, sz_7, sz_8, implies_true, revA_l, revA_t, isB_b, isntB_b, zRev_1, zRev_2, zRev_3, zRev_4, zRev_5, revS_l, revS_t, sumT_l, sumT_t, xW_seq, xW_if, xW_arg, xW_call, xW_raise, xW_raise0, xK, wE_xnone, wE_xfld, wE_xis, Sl.xt.injEq, Xt.exn.injEq, or_false, false_or, lk_hd, inCs_hd, mem_hd, false_and, and_false, h0, h1]
  · have h0 : decide (0 ≤ p) = false := decide_eq_false h0
    rcases hd with rfl | rfl <;> simp only [wE_var, wE_c, wE_1, wE_2, wA_nil, wA_cons, wE_A, wT_bool, wT_yes, wT_not, wT_and, wT_or, wE_ofT, wE_if, wE_chain, wO_no, wO_part, wE_sl, wE_isa, wE_ownLen, wE_ownIx, wE_app, wE_ext, wE_ins, wE_rg1, wE_rg2, wE_rev, wE_popAt, wE_pop, wS_putIx, wE_box, wE_boxNew, wS_seq, wS_nx, wS_ct, wS_bk, wS_set, wS_own, wS_ret, wS_drop, wS_if, wS_retO, wS_frz, wS_asg, wU_name, wUs_nil, wUs_cons, wU_tup2, wU_tup3, wPar_nil, wPar_cons, wS_par, wS_aug, wA_zip2, wA_zip3, wA_zipS, wA_seqIt, wA_range1, wA_range2, wA_enum, wS_for, seqK, lpK, rtK, rbK, wR_some, wB_some, wR_ite, mAnd, mOr, mNot, toD_d, toD_l, f1_one, f2_two, add_i, add_l, add_t, iadd_i, sub_i, mul_i, mul_l, mod_i, fdiv_w, fdOk_2, fdOk_64, fdOk_7, fdOk_m, na10, na2, at3_0, at3_1, at3_2, at2_0, at2_1, Mir.atI_last, ix3_0, ix3_1, ix3_2, pow_i, neg_i, len_l, len_t, abs_i, max2_i, min2_i, int_i, int_b, list_l, list_t, tuple_l, tuple_t, lt_i, le_i, gt_i, ge_i, eq_i, ne_i, eq_b, ne_b, eq_s, ne_s, sl_l, sl_t, src_l, src_t, revL_l, revT_l, slot_f, slot_l, wS_new, ix_l, ix_t, all_b, any_b, sum_l, dLst, dTup, setAll, ownAt, putOwn, frzE, boAt, wipeE, cut_map, cut_from1, cut_to1, List.getElem?_cons_zero, List.getElem?_cons_succ, List.set_cons_zero, List.set_cons_succ, Option.some.injEq, Sl.dt.injEq, Sl.ow.injEq, Sl.bo.injEq, Rv.d.injEq, Rv.l.injEq, PyData.int.injEq, PyData.bool.injEq, PyData.str.injEq, PyData.list.injEq, PyData.tuple.injEq, List.cons.injEq, exists_eq_left', exists_eq_left, exists_eq_right', exists_eq, exists_eq', exists_and_left, exists_const, and_true, true_and, and_assoc, Int.reduceLT, Int.reduceLE, Int.reducePow, Int.reduceToNat, Int.reduceNeg, Int.reduceMul, Int.reduceAdd, Int.reduceSub, Nat.reduceLT, Nat.reduceLeDiff, Nat.reducePow, Nat.reduceAdd, List.length_cons, List.length_nil, List.length_map, forall_const, decide_true, decide_false, Bool.not_true, Bool.not_false, Bool.false_eq_true, Bool.true_eq_false, false_implies, true_implies, reduceCtorEq, eq_self, eq_tI, ne_tI, eq_lI, ne_lI, all_T, wU_lst2, wU_lst3, sz_0, sz_1, sz_2, sz_3, sz_4, sz_5, sz_6, sz_7, sz_8, implies_true, revA_l, revA_t, isB_b, isntB_b, zRev_1, zRev_2, zRev_3, zRev_4, zRev_5, revS_l, revS_t, sumT_l, sumT_t, xW_seq, xW_if, xW_arg, xW_call, xW_raise, xW_raise0, xK, wE_xnone, wE_xfld, wE_xis, Sl.xt.injEq, Xt.exn.injEq, or_false, false_or, lk_hd, inCs_hd, mem_hd, false_and, and_false, h0]
theorem handed_x {f : List Int} {d : D} {p b : Int} (hd : Dn f d) (h : ¬ (0 ≤ p ∧ p < f.length)) : R_handed [d, .int p, .int b] = some (noPost p) := by
  refine runX_ok rfl ?_
  show xW _ [.dt _, .dt _, .dt _, .un, .un] _
  unfold X_handed
  simp only [wE_var, wE_c, wE_1, wE_2, wA_nil, wA_cons, wE_A, wT_bool, wT_yes, wT_not, wT_and, wT_or, wE_ofT, wE_if, wE_chain, wO_no, wO_part, wE_sl, wE_isa, wE_ownLen, wE_ownIx, wE_app, wE_ext, wE_ins, wE_rg1, wE_rg2, wE_rev, wE_popAt, wE_pop, wS_putIx, wE_box, wE_boxNew, wS_seq, wS_nx, wS_ct, wS_bk, wS_set, wS_own, wS_ret, wS_drop, wS_if, wS_retO, wS_frz, wS_asg, wU_name, wUs_nil, wUs_cons, wU_tup2, wU_tup3, wPar_nil, wPar_cons, wS_par, wS_aug, wA_zip2, wA_zip3, wA_zipS, wA_seqIt, wA_range1, wA_range2, wA_enum, wS_for, seqK, lpK, rtK, rbK, wR_some, wB_some, wR_ite, mAnd, mOr, mNot, toD_d, toD_l, f1_one, f2_two, add_i, add_l, add_t, iadd_i, sub_i, mul_i, mul_l, mod_i, fdiv_w, fdOk_2, fdOk_64, fdOk_7, fdOk_m, na10, na2, at3_0, at3_1, at3_2, at2_0, at2_1, Mir.atI_last, ix3_0, ix3_1, ix3_2, pow_i, neg_i, len_l, len_t, abs_i, max2_i, min2_i, int_i, int_b, list_l, list_t, tuple_l, tuple_t, lt_i, le_i, gt_i, ge_i, eq_i, ne_i, eq_b, ne_b, eq_s, ne_s, sl_l, sl_t, src_l, src_t, revL_l, revT_l, slot_f, slot_l, wS_new, ix_l, ix_t, all_b, any_b, sum_l, dLst, dTup, setAll, ownAt, putOwn, frzE, boAt, wipeE, cut_map, cut_from1, cut_to1, List.getElem?_cons_zero, List.getElem?_cons_succ, List.set_cons_zero, List.set_cons_succ, Option.some.injEq, Sl.dt.injEq, Sl.ow.injEq, Sl.bo.injEq, Rv.d.injEq, Rv.l.injEq, PyData.int.injEq, PyData.bool.injEq, PyData.str.injEq, PyData.list.injEq, PyData.tuple.injEq, List.cons.injEq, exists_eq_left', exists_eq_left, exists_eq_right', exists_eq, exists_eq', exists_and_left, exists_const, and_true, true_and, and_assoc, Int.reduceLT, Int.reduceLE, Int.reducePow, Int.reduceToNat, Int.reduceNeg, Int.reduceMul, Int.reduceAdd, Int.reduceSub, Nat.reduceLT, Nat.reduceLeDiff, Nat.reducePow, Nat.reduceAdd, List.length_cons, List.length_nil, List.length_map, forall_const, decide_true, decide_false, Bool.not_true, Bool.not_false, Bool.false_eq_true, Bool.true_eq_false, false_implies, true_implies, reduceCtorEq, eq_self, eq_tI, ne_tI, eq_lI, ne_lI, all_T, wU_lst2, wU_lst3, sz_0, sz_1, sz_2, sz_3, sz_4, sz_5, sz_6, sz_7, sz_8, implies_true, revA_l, revA_t, isB_b, isntB_b, zRev_1, zRev_2, zRev_3, zRev_4, zRev_5, revS_l, revS_t, sumT_l, sumT_t, xW_seq, xW_if, xW_arg, xW_call, xW_raise, xW_raise0, xK, wE_xnone, wE_xfld, wE_xis, Sl.xt.injEq, Xt.exn.injEq, or_false, false_or, lk_hd, inCs_hd, mem_hd, false_and, and_false, look_x hd h]
end LW

namespace LW
open PySem Mir L2 M8
def invDune (N : Nat) (w : Int) (i : Nat) (e : MEnv) : Prop := ∃ (b : List D) (f : List Int) (y : Sl) (m z : Sl), e = [.bo b, z, .ow (I f), y, m, .dt (.int w)] ∧ Bx (N + 8 + 8 * i) b ∧ f.length = i ∧ ∀ x ∈ f, -1000000000 ≤ x ∧ x ≤ 1000000000
theorem dune_ok {N : Nat} {xs : List D} {k : Int} (h : Bx N xs) (hN : N ≤ 2 ^ 38) (k0 : 0 < k) (k1 : k ≤ 100) : wB (Z_l_dune xs [.int k]) fun r ys => ∃ f : List Int, r = .d (.tuple (I f)) ∧ f ≠ [] ∧ (f.length : Int) ≤ k ∧ (∀ x ∈ f, -1000000000 ≤ x ∧ x ≤ 1000000000) ∧ Bx (N + 1000) ys := by
  unfold Z_l_dune
  refine wB_run rfl ?_
  show wS _ [.bo _, .dt _, .un, .un, .un, .un] _
  unfold B_l_dune
  simp only [wE_var, wE_c, wE_1, wE_2, wA_nil, wA_cons, wE_A, wT_bool, wT_yes, wT_not, wT_and, wT_or, wE_ofT, wE_if, wE_chain, wO_no, wO_part, wE_sl, wE_isa, wE_ownLen, wE_ownIx, wE_app, wE_ext, wE_ins, wE_rg1, wE_rg2, wE_rev, wE_popAt, wE_pop, wS_putIx, wE_box, wE_boxNew, wS_seq, wS_nx, wS_ct, wS_bk, wS_set, wS_own, wS_ret, wS_drop, wS_if, wS_retO, wS_frz, wS_asg, wU_name, wUs_nil, wUs_cons, wU_tup2, wU_tup3, wPar_nil, wPar_cons, wS_par, wS_aug, wA_zip2, wA_zip3, wA_zipS, wA_seqIt, wA_range1, wA_range2, wA_enum, wS_for, seqK, lpK, rtK, rbK, wR_some, wB_some, wR_ite, mAnd, mOr, mNot, toD_d, toD_l, f1_one, f2_two, add_i, add_l, add_t, iadd_i, sub_i, mul_i, mul_l, mod_i, fdiv_w, fdOk_2, fdOk_64, fdOk_7, fdOk_m, na10, na2, at3_0, at3_1, at3_2, at2_0, at2_1, Mir.atI_last, ix3_0, ix3_1, ix3_2, pow_i, neg_i, len_l, len_t, abs_i, max2_i, min2_i, int_i, int_b, list_l, list_t, tuple_l, tuple_t, lt_i, le_i, gt_i, ge_i, eq_i, ne_i, eq_b, ne_b, eq_s, ne_s, sl_l, sl_t, src_l, src_t, revL_l, revT_l, slot_f, slot_l, wS_new, ix_l, ix_t, all_b, any_b, sum_l, dLst, dTup, setAll, ownAt, putOwn, frzE, boAt, wipeE, cut_map, cut_from1, cut_to1, List.getElem?_cons_zero, List.getElem?_cons_succ, List.set_cons_zero, List.set_cons_succ, Option.some.injEq, Sl.dt.injEq, Sl.ow.injEq, Sl.bo.injEq, Rv.d.injEq, Rv.l.injEq, PyData.int.injEq, PyData.bool.injEq, PyData.str.injEq, PyData.list.injEq, PyData.tuple.injEq, List.cons.injEq, exists_eq_left', exists_eq_left, exists_eq_right', exists_eq, exists_eq', exists_and_left, exists_const, and_true, true_and, and_assoc, Int.reduceLT, Int.reduceLE, Int.reducePow, Int.reduceToNat, Int.reduceNeg, Int.reduceMul, Int.reduceAdd, Int.reduceSub, Nat.reduceLT, Nat.reduceLeDiff, Nat.reducePow, Nat.reduceAdd, List.length_cons, List.length_nil, List.length_map, forall_const, decide_true, decide_false, Bool.not_true, Bool.not_false, Bool.false_eq_true, Bool.true_eq_false, false_implies, true_implies, reduceCtorEq, eq_self, eq_tI, ne_tI, eq_lI, ne_lI, all_T, wU_lst2, wU_lst3, sz_0, sz_1, sz_2, sz_3, sz_4, sz_5, sz_6, sz_7, sz_8, implies_true, revA_l, revA_t, isB_b, isntB_b, zRev_1, zRev_2, zRev_3, zRev_4, zRev_5, revS_l, revS_t, sumT_l, sumT_t, xW_seq, xW_if, xW_arg, xW_call, xW_raise, xW_raise0, xK, wE_xnone, wE_xfld, wE_xis, Sl.xt.injEq, Xt.exn.injEq, or_false, false_or, lk_hd, inCs_hd, mem_hd, false_and, and_false]
  refine wB_mono (take_ok h (by omega) (by omega) (by omega)) ?_
  rintro _ ys ⟨v, rfl, v0, v1, hy⟩
  simp only [wE_var, wE_c, wE_1, wE_2, wA_nil, wA_cons, wE_A, wT_bool, wT_yes, wT_not, wT_and, wT_or, wE_ofT, wE_if, wE_chain, wO_no, wO_part, wE_sl, wE_isa, wE_ownLen, wE_ownIx, wE_app, wE_ext, wE_ins, wE_rg1, wE_rg2, wE_rev, wE_popAt, wE_pop, wS_putIx, wE_box, wE_boxNew, wS_seq, wS_nx, wS_ct, wS_bk, wS_set, wS_own, wS_ret, wS_drop, wS_if, wS_retO, wS_frz, wS_asg, wU_name, wUs_nil, wUs_cons, wU_tup2, wU_tup3, wPar_nil, wPar_cons, wS_par, wS_aug, wA_zip2, wA_zip3, wA_zipS, wA_seqIt, wA_range1, wA_range2, wA_enum, wS_for, seqK, lpK, rtK, rbK, wR_some, wB_some, wR_ite, mAnd, mOr, mNot, toD_d, toD_l, f1_one, f2_two, add_i, add_l, add_t, iadd_i, sub_i, mul_i, mul_l, mod_i, fdiv_w, fdOk_2, fdOk_64, fdOk_7, fdOk_m, na10, na2, at3_0, at3_1, at3_2, at2_0, at2_1, Mir.atI_last, ix3_0, ix3_1, ix3_2, pow_i, neg_i, len_l, len_t, abs_i, max2_i, min2_i, int_i, int_b, list_l, list_t, tuple_l, tuple_t, lt_i, le_i, gt_i, ge_i, eq_i, ne_i, eq_b, ne_b, eq_s, ne_s, sl_l, sl_t, src_l, src_t, revL_l, revT_l, slot_f, slot_l, wS_new, ix_l, ix_t, all_b, any_b, sum_l, dLst, dTup, setAll, ownAt, putOwn, frzE, boAt, wipeE, cut_map, cut_from1, cut_to1, List.getElem?_cons_zero, List.getElem?_cons_succ, List.set_cons_zero, List.set_cons_succ, Option.some.injEq, Sl.dt.injEq, Sl.ow.injEq, Sl.bo.injEq, Rv.d.injEq, Rv.l.injEq, PyData.int.injEq, PyData.bool.injEq, PyData.str.injEq, PyData.list.injEq, PyData.tuple.injEq, List.cons.injEq, exists_eq_left', exists_eq_left, exists_eq_right', exists_eq, exists_eq', exists_and_left, exists_const, and_true, true_and, and_assoc, Int.reduceLT, Int.reduceLE, Int.reducePow, Int.reduceToNat, Int.reduceNeg, Int.reduceMul, Int.reduceAdd, Int.reduceSub, Nat.reduceLT, Nat.reduceLeDiff, Nat.reducePow, Nat.reduceAdd, List.length_cons, List.length_nil, List.length_map, forall_const, decide_true, decide_false, Bool.not_true, Bool.not_false, Bool.false_eq_true, Bool.true_eq_false, false_implies, true_implies, reduceCtorEq, eq_self, eq_tI, ne_tI, eq_lI, ne_lI, all_T, wU_lst2, wU_lst3, sz_0, sz_1, sz_2, sz_3, sz_4, sz_5, sz_6, sz_7, sz_8, implies_true, revA_l, revA_t, isB_b, isntB_b, zRev_1, zRev_2, zRev_3, zRev_4, zRev_5, revS_l, revS_t, sumT_l, sumT_t, xW_seq, xW_if, xW_arg, xW_call, xW_raise, xW_raise0, xK, wE_xnone, wE_xfld, wE_xis, Sl.xt.injEq, Xt.exn.injEq, or_false, false_or, lk_hd, inCs_hd, mem_hd, false_and, and_false]
  refine wB_mono (take_ok hy (by omega) (by omega) (by omega)) ?_
  rintro _ zs ⟨w, rfl, w0, w1, hz⟩
  simp only [wE_var, wE_c, wE_1, wE_2, wA_nil, wA_cons, wE_A, wT_bool, wT_yes, wT_not, wT_and, wT_or, wE_ofT, wE_if, wE_chain, wO_no, wO_part, wE_sl, wE_isa, wE_ownLen, wE_ownIx, wE_app, wE_ext, wE_ins, wE_rg1, wE_rg2, wE_rev, wE_popAt, wE_pop, wS_putIx, wE_box, wE_boxNew, wS_seq, wS_nx, wS_ct, wS_bk, wS_set, wS_own, wS_ret, wS_drop, wS_if, wS_retO, wS_frz, wS_asg, wU_name, wUs_nil, wUs_cons, wU_tup2, wU_tup3, wPar_nil, wPar_cons, wS_par, wS_aug, wA_zip2, wA_zip3, wA_zipS, wA_seqIt, wA_range1, wA_range2, wA_enum, wS_for, seqK, lpK, rtK, rbK, wR_some, wB_some, wR_ite, mAnd, mOr, mNot, toD_d, toD_l, f1_one, f2_two, add_i, add_l, add_t, iadd_i, sub_i, mul_i, mul_l, mod_i, fdiv_w, fdOk_2, fdOk_64, fdOk_7, fdOk_m, na10, na2, at3_0, at3_1, at3_2, at2_0, at2_1, Mir.atI_last, ix3_0, ix3_1, ix3_2, pow_i, neg_i, len_l, len_t, abs_i, max2_i, min2_i, int_i, int_b, list_l, list_t, tuple_l, tuple_t, lt_i, le_i, gt_i, ge_i, eq_i, ne_i, eq_b, ne_b, eq_s, ne_s, sl_l, sl_t, src_l, src_t, revL_l, revT_l, slot_f, slot_l, wS_new, ix_l, ix_t, all_b, any_b, sum_l, dLst, dTup, setAll, ownAt, putOwn, frzE, boAt, wipeE, cut_map, cut_from1, cut_to1, List.getElem?_cons_zero, List.getElem?_cons_succ, List.set_cons_zero, List.set_cons_succ, Option.some.injEq, Sl.dt.injEq, Sl.ow.injEq, Sl.bo.injEq, Rv.d.injEq, Rv.l.injEq, PyData.int.injEq, PyData.bool.injEq, PyData.str.injEq, PyData.list.injEq, PyData.tuple.injEq, List.cons.injEq, exists_eq_left', exists_eq_left, exists_eq_right', exists_eq, exists_eq', exists_and_left, exists_const, and_true, true_and, and_assoc, Int.reduceLT, Int.reduceLE, Int.reducePow, Int.reduceToNat, Int.reduceNeg, Int.reduceMul, Int.reduceAdd, Int.reduceSub, Nat.reduceLT, Nat.reduceLeDiff, Nat.reducePow, Nat.reduceAdd, List.length_cons, List.length_nil, List.length_map, forall_const, decide_true, decide_false, Bool.not_true, Bool.not_false, Bool.false_eq_true, Bool.true_eq_false, false_implies, true_implies, reduceCtorEq, eq_self, eq_tI, ne_tI, eq_lI, ne_lI, all_T, wU_lst2, wU_lst3, sz_0, sz_1, sz_2, sz_3, sz_4, sz_5, sz_6, sz_7, sz_8, implies_true, revA_l, revA_t, isB_b, isntB_b, zRev_1, zRev_2, zRev_3, zRev_4, zRev_5, revS_l, revS_t, sumT_l, sumT_t, xW_seq, xW_if, xW_arg, xW_call, xW_raise, xW_raise0, xK, wE_xnone, wE_xfld, wE_xis, Sl.xt.injEq, Xt.exn.injEq, or_false, false_or, lk_hd, inCs_hd, mem_hd, false_and, and_false]
  have hw : ∃ x : Int, atI [PyData.int 2, PyData.int 12, PyData.int 60, PyData.int 1000000000] w = some (.int x) ∧ 0 < x ∧ x ≤ 1000000000 := by
    have : w = 0 ∨ w = 1 ∨ w = 2 ∨ w = 3 := by omega
    rcases this with rfl | rfl | rfl | rfl
    · exact ⟨2, rfl, by decide, by decide⟩
    · exact ⟨12, rfl, by decide, by decide⟩
    · exact ⟨60, rfl, by decide, by decide⟩
    · exact ⟨1000000000, rfl, by decide, by decide⟩
  obtain ⟨x, e, x0, x1⟩ := hw
  refine ⟨_, e, by omega, by omega, ?_⟩
  refine lp_inv (zs := List.range (1 + v).toNat) (fun i => .int (0 + (i : Int))) (invDune N x) ⟨_, [], _, _, _, rfl, hz.mono (by omega), rfl, by simp⟩ ?_ ?_
  · rintro i z e hz ⟨b, f, y, m, q, rfl, hb, hf, hr⟩
    have hi := (List.getElem?_eq_some_iff.mp hz).1
    rw [List.length_range] at hi
    simp only [wE_var, wE_c, wE_1, wE_2, wA_nil, wA_cons, wE_A, wT_bool, wT_yes, wT_not, wT_and, wT_or, wE_ofT, wE_if, wE_chain, wO_no, wO_part, wE_sl, wE_isa, wE_ownLen, wE_ownIx, wE_app, wE_ext, wE_ins, wE_rg1, wE_rg2, wE_rev, wE_popAt, wE_pop, wS_putIx, wE_box, wE_boxNew, wS_seq, wS_nx, wS_ct, wS_bk, wS_set, wS_own, wS_ret, wS_drop, wS_if, wS_retO, wS_frz, wS_asg, wU_name, wUs_nil, wUs_cons, wU_tup2, wU_tup3, wPar_nil, wPar_cons, wS_par, wS_aug, wA_zip2, wA_zip3, wA_zipS, wA_seqIt, wA_range1, wA_range2, wA_enum, wS_for, seqK, lpK, rtK, rbK, wR_some, wB_some, wR_ite, mAnd, mOr, mNot, toD_d, toD_l, f1_one, f2_two, add_i, add_l, add_t, iadd_i, sub_i, mul_i, mul_l, mod_i, fdiv_w, fdOk_2, fdOk_64, fdOk_7, fdOk_m, na10, na2, at3_0, at3_1, at3_2, at2_0, at2_1, Mir.atI_last, ix3_0, ix3_1, ix3_2, pow_i, neg_i, len_l, len_t, abs_i, max2_i, min2_i, int_i, int_b, list_l, list_t, tuple_l, tuple_t, lt_i, le_i, gt_i, ge_i, eq_i, ne_i, eq_b, ne_b, eq_s, ne_s, sl_l, sl_t, src_l, src_t, revL_l, revT_l, slot_f, slot_l, wS_new, ix_l, ix_t, all_b, any_b, sum_l, dLst, dTup, setAll, ownAt, putOwn, frzE, boAt, wipeE, cut_map, cut_from1, cut_to1, List.getElem?_cons_zero, List.getElem?_cons_succ, List.set_cons_zero, List.set_cons_succ, Option.some.injEq, Sl.dt.injEq, Sl.ow.injEq, Sl.bo.injEq, Rv.d.injEq, Rv.l.injEq, PyData.int.injEq, PyData.bool.injEq, PyData.str.injEq, PyData.list.injEq, PyData.tuple.injEq, List.cons.injEq, exists_eq_left', exists_eq_left, exists_eq_right', exists_eq, exists_eq', exists_and_left, exists_const, and_true, true_and, and_assoc, Int.reduceLT, Int.reduceLE, Int.reducePow, Int.reduceToNat, Int.reduceNeg, Int.reduceMul, Int.reduceAdd, Int.reduceSub, Nat.reduceLT, Nat.reduceLeDiff, Nat.reducePow, Nat.reduceAdd, List.length_cons, List.length_nil, List.length_map, forall_const, decide_true, decide_false, Bool.not_true, Bool.not_false, Bool.false_eq_true, Bool.true_eq_false, false_implies, true_implies, reduceCtorEq, eq_self, eq_tI, ne_tI, eq_lI, ne_lI, all_T, wU_lst2, wU_lst3, sz_0, sz_1, sz_2, sz_3, sz_4, sz_5, sz_6, sz_7, sz_8, implies_true, revA_l, revA_t, isB_b, isntB_b, zRev_1, zRev_2, zRev_3, zRev_4, zRev_5, revS_l, revS_t, sumT_l, sumT_t, xW_seq, xW_if, xW_arg, xW_call, xW_raise, xW_raise0, xK, wE_xnone, wE_xfld, wE_xis, Sl.xt.injEq, Xt.exn.injEq, or_false, false_or, lk_hd, inCs_hd, mem_hd, false_and, and_false]
    refine ⟨mulOk_l (by decide), wB_mono (take_ok hb (by omega) (by omega) (by omega)) ?_⟩
    rintro _ ys ⟨v1, rfl, v10, v11, h1⟩
    simp only [wE_var, wE_c, wE_1, wE_2, wA_nil, wA_cons, wE_A, wT_bool, wT_yes, wT_not, wT_and, wT_or, wE_ofT, wE_if, wE_chain, wO_no, wO_part, wE_sl, wE_isa, wE_ownLen, wE_ownIx, wE_app, wE_ext, wE_ins, wE_rg1, wE_rg2, wE_rev, wE_popAt, wE_pop, wS_putIx, wE_box, wE_boxNew, wS_seq, wS_nx, wS_ct, wS_bk, wS_set, wS_own, wS_ret, wS_drop, wS_if, wS_retO, wS_frz, wS_asg, wU_name, wUs_nil, wUs_cons, wU_tup2, wU_tup3, wPar_nil, wPar_cons, wS_par, wS_aug, wA_zip2, wA_zip3, wA_zipS, wA_seqIt, wA_range1, wA_range2, wA_enum, wS_for, seqK, lpK, rtK, rbK, wR_some, wB_some, wR_ite, mAnd, mOr, mNot, toD_d, toD_l, f1_one, f2_two, add_i, add_l, add_t, iadd_i, sub_i, mul_i, mul_l, mod_i, fdiv_w, fdOk_2, fdOk_64, fdOk_7, fdOk_m, na10, na2, at3_0, at3_1, at3_2, at2_0, at2_1, Mir.atI_last, ix3_0, ix3_1, ix3_2, pow_i, neg_i, len_l, len_t, abs_i, max2_i, min2_i, int_i, int_b, list_l, list_t, tuple_l, tuple_t, lt_i, le_i, gt_i, ge_i, eq_i, ne_i, eq_b, ne_b, eq_s, ne_s, sl_l, sl_t, src_l, src_t, revL_l, revT_l, slot_f, slot_l, wS_new, ix_l, ix_t, all_b, any_b, sum_l, dLst, dTup, setAll, ownAt, putOwn, frzE, boAt, wipeE, cut_map, cut_from1, cut_to1, List.getElem?_cons_zero, List.getElem?_cons_succ, List.set_cons_zero, List.set_cons_succ, Option.some.injEq, Sl.dt.injEq, Sl.ow.injEq, Sl.bo.injEq, Rv.d.injEq, Rv.l.injEq, PyData.int.injEq, PyData.bool.injEq, PyData.str.injEq, PyData.list.injEq, PyData.tuple.injEq, List.cons.injEq, exists_eq_left', exists_eq_left, exists_eq_right', exists_eq, exists_eq', exists_and_left, exists_const, and_true, true_and, and_assoc, Int.reduceLT, Int.reduceLE, Int.reducePow, Int.reduceToNat, Int.reduceNeg, Int.reduceMul, Int.reduceAdd, Int.reduceSub, Nat.reduceLT, Nat.reduceLeDiff, Nat.reducePow, Nat.reduceAdd, List.length_cons, List.length_nil, List.length_map, forall_const, decide_true, decide_false, Bool.not_true, Bool.not_false, Bool.false_eq_true, Bool.true_eq_false, false_implies, true_implies, reduceCtorEq, eq_self, eq_tI, ne_tI, eq_lI, ne_lI, all_T, wU_lst2, wU_lst3, sz_0, sz_1, sz_2, sz_3, sz_4, sz_5, sz_6, sz_7, sz_8, implies_true, revA_l, revA_t, isB_b, isntB_b, zRev_1, zRev_2, zRev_3, zRev_4, zRev_5, revS_l, revS_t, sumT_l, sumT_t, xW_seq, xW_if, xW_arg, xW_call, xW_raise, xW_raise0, xK, wE_xnone, wE_xfld, wE_xis, Sl.xt.injEq, Xt.exn.injEq, or_false, false_or, lk_hd, inCs_hd, mem_hd, false_and, and_false]
    refine wB_mono (take_ok h1 (by omega) (by omega) (by omega)) ?_
    rintro _ ys ⟨v2, rfl, v20, v21, h2⟩
    simp only [wE_var, wE_c, wE_1, wE_2, wA_nil, wA_cons, wE_A, wT_bool, wT_yes, wT_not, wT_and, wT_or, wE_ofT, wE_if, wE_chain, wO_no, wO_part, wE_sl, wE_isa, wE_ownLen, wE_ownIx, wE_app, wE_ext, wE_ins, wE_rg1, wE_rg2, wE_rev, wE_popAt, wE_pop, wS_putIx, wE_box, wE_boxNew, wS_seq, wS_nx, wS_ct, wS_bk, wS_set, wS_own, wS_ret, wS_drop, wS_if, wS_retO, wS_frz, wS_asg, wU_name, wUs_nil, wUs_cons, wU_tup2, wU_tup3, wPar_nil, wPar_cons, wS_par, wS_aug, wA_zip2, wA_zip3, wA_zipS, wA_seqIt, wA_range1, wA_range2, wA_enum, wS_for, seqK, lpK, rtK, rbK, wR_some, wB_some, wR_ite, mAnd, mOr, mNot, toD_d, toD_l, f1_one, f2_two, add_i, add_l, add_t, iadd_i, sub_i, mul_i, mul_l, mod_i, fdiv_w, fdOk_2, fdOk_64, fdOk_7, fdOk_m, na10, na2, at3_0, at3_1, at3_2, at2_0, at2_1, Mir.atI_last, ix3_0, ix3_1, ix3_2, pow_i, neg_i, len_l, len_t, abs_i, max2_i, min2_i, int_i, int_b, list_l, list_t, tuple_l, tuple_t, lt_i, le_i, gt_i, ge_i, eq_i, ne_i, eq_b, ne_b, eq_s, ne_s, sl_l, sl_t, src_l, src_t, revL_l, revT_l, slot_f, slot_l, wS_new, ix_l, ix_t, all_b, any_b, sum_l, dLst, dTup, setAll, ownAt, putOwn, frzE, boAt, wipeE, cut_map, cut_from1, cut_to1, List.getElem?_cons_zero, List.getElem?_cons_succ, List.set_cons_zero, List.set_cons_succ, Option.some.injEq, Sl.dt.injEq, Sl.ow.injEq, Sl.bo.injEq, Rv.d.injEq, Rv.l.injEq, PyData.int.injEq, PyData.bool.injEq, PyData.str.injEq, PyData.list.injEq, PyData.tuple.injEq, List.cons.injEq, exists_eq_left', exists_eq_left, exists_eq_right', exists_eq, exists_eq', exists_and_left, exists_const, and_true, true_and, and_assoc, Int.reduceLT, Int.reduceLE, Int.reducePow, Int.reduceToNat, Int.reduceNeg, Int.reduceMul, Int.reduceAdd, Int.reduceSub, Nat.reduceLT, Nat.reduceLeDiff, Nat.reducePow, Nat.reduceAdd, List.length_cons, List.length_nil, List.length_map, forall_const, decide_true, decide_false, Bool.not_true, Bool.not_false, Bool.false_eq_true, Bool.true_eq_false, false_implies, true_implies, reduceCtorEq, eq_self, eq_tI, ne_tI, eq_lI, ne_lI, all_T, wU_lst2, wU_lst3, sz_0, sz_1, sz_2, sz_3, sz_4, sz_5, sz_6, sz_7, sz_8, implies_true, revA_l, revA_t, isB_b, isntB_b, zRev_1, zRev_2, zRev_3, zRev_4, zRev_5, revS_l, revS_t, sumT_l, sumT_t, xW_seq, xW_if, xW_arg, xW_call, xW_raise, xW_raise0, xK, wE_xnone, wE_xfld, wE_xis, Sl.xt.injEq, Xt.exn.injEq, or_false, false_or, lk_hd, inCs_hd, mem_hd, false_and, and_false]
    refine wB_mono (take_ok h2 (by omega) (by omega) (by omega)) ?_
    rintro _ ys ⟨v3, rfl, v30, v31, h3⟩
    simp only [wE_var, wE_c, wE_1, wE_2, wA_nil, wA_cons, wE_A, wT_bool, wT_yes, wT_not, wT_and, wT_or, wE_ofT, wE_if, wE_chain, wO_no, wO_part, wE_sl, wE_isa, wE_ownLen, wE_ownIx, wE_app, wE_ext, wE_ins, wE_rg1, wE_rg2, wE_rev, wE_popAt, wE_pop, wS_putIx, wE_box, wE_boxNew, wS_seq, wS_nx, wS_ct, wS_bk, wS_set, wS_own, wS_ret, wS_drop, wS_if, wS_retO, wS_frz, wS_asg, wU_name, wUs_nil, wUs_cons, wU_tup2, wU_tup3, wPar_nil, wPar_cons, wS_par, wS_aug, wA_zip2, wA_zip3, wA_zipS, wA_seqIt, wA_range1, wA_range2, wA_enum, wS_for, seqK, lpK, rtK, rbK, wR_some, wB_some, wR_ite, mAnd, mOr, mNot, toD_d, toD_l, f1_one, f2_two, add_i, add_l, add_t, iadd_i, sub_i, mul_i, mul_l, mod_i, fdiv_w, fdOk_2, fdOk_64, fdOk_7, fdOk_m, na10, na2, at3_0, at3_1, at3_2, at2_0, at2_1, Mir.atI_last, ix3_0, ix3_1, ix3_2, pow_i, neg_i, len_l, len_t, abs_i, max2_i, min2_i, int_i, int_b, list_l, list_t, tuple_l, tuple_t, lt_i, le_i, gt_i, ge_i, eq_i, ne_i, eq_b, ne_b, eq_s, ne_s, sl_l, sl_t, src_l, src_t, revL_l, revT_l, slot_f, slot_l, wS_new, ix_l, ix_t, all_b, any_b, sum_l, dLst, dTup, setAll, ownAt, putOwn, frzE, boAt, wipeE, cut_map, cut_from1, cut_to1, List.getElem?_cons_zero, List.getElem?_cons_succ, List.set_cons_zero, List.set_cons_succ, Option.some.injEq, Sl.dt.injEq, Sl.ow.injEq, Sl.bo.injEq, Rv.d.injEq, Rv.l.injEq, PyData.int.injEq, PyData.bool.injEq, PyData.str.injEq, PyData.list.injEq, PyData.tuple.injEq, List.cons.injEq, exists_eq_left', exists_eq_left, exists_eq_right', exists_eq, exists_eq', exists_and_left, exists_const, and_true, true_and, and_assoc, Int.reduceLT, Int.reduceLE, Int.reducePow, Int.reduceToNat, Int.reduceNeg, Int.reduceMul, Int.reduceAdd, Int.reduceSub, Nat.reduceLT, Nat.reduceLeDiff, Nat.reducePow, Nat.reduceAdd, List.length_cons, List.length_nil, List.length_map, forall_const, decide_true, decide_false, Bool.not_true, Bool.not_false, Bool.false_eq_true, Bool.true_eq_false, false_implies, true_implies, reduceCtorEq, eq_self, eq_tI, ne_tI, eq_lI, ne_lI, all_T, wU_lst2, wU_lst3, sz_0, sz_1, sz_2, sz_3, sz_4, sz_5, sz_6, sz_7, sz_8, implies_true, revA_l, revA_t, isB_b, isntB_b, zRev_1, zRev_2, zRev_3, zRev_4, zRev_5, revS_l, revS_t, sumT_l, sumT_t, xW_seq, xW_if, xW_arg, xW_call, xW_raise, xW_raise0, xK, wE_xnone, wE_xfld, wE_xis, Sl.xt.injEq, Xt.exn.injEq, or_false, false_or, lk_hd, inCs_hd, mem_hd, false_and, and_false]
    have hx : ∃ t : Int, atI [PyData.int 0, PyData.int x, PyData.int (v1 - x), PyData.int v2] v3 = some (.int t) ∧ -1000000000 ≤ t ∧ t ≤ 1000000000 := by
      have : v3 = 0 ∨ v3 = 1 ∨ v3 = 2 ∨ v3 = 3 := by omega
      rcases this with rfl | rfl | rfl | rfl
      · exact ⟨_, rfl, by omega, by omega⟩
      · exact ⟨_, rfl, by omega, by omega⟩
      · exact ⟨_, rfl, by omega, by omega⟩
      · exact ⟨_, rfl, by omega, by omega⟩
    obtain ⟨t, e, t0, t1⟩ := hx
    refine ⟨_, e, Nat.lt_of_lt_of_le (by omega : _ < 1000) (by decide), ?_⟩
    rw [I_snoc]
    exact ⟨_, f ++ [t], _, _, _, rfl, h3.mono (by omega), by simp [hf], fun x hx => by
      rcases List.mem_append.mp hx with hx | hx
      · exact hr x hx
      · rw [List.mem_singleton.mp hx]; exact ⟨t0, t1⟩⟩
  · rintro e ⟨b, f, y, m, q, rfl, hb, hf, hr⟩
    rw [List.length_range] at hf hb
    simp only [wE_var, wE_c, wE_1, wE_2, wA_nil, wA_cons, wE_A, wT_bool, wT_yes, wT_not, wT_and, wT_or, wE_ofT, wE_if, wE_chain, wO_no, wO_part, wE_sl, wE_isa, wE_ownLen, wE_ownIx, wE_app, wE_ext, wE_ins, wE_rg1, wE_rg2, wE_rev, wE_popAt, wE_pop, wS_putIx, wE_box, wE_boxNew, wS_seq, wS_nx, wS_ct, wS_bk, wS_set, wS_own, wS_ret, wS_drop, wS_if, wS_retO, wS_frz, wS_asg, wU_name, wUs_nil, wUs_cons, wU_tup2, wU_tup3, wPar_nil, wPar_cons, wS_par, wS_aug, wA_zip2, wA_zip3, wA_zipS, wA_seqIt, wA_range1, wA_range2, wA_enum, wS_for, seqK, lpK, rtK, rbK, wR_some, wB_some, wR_ite, mAnd, mOr, mNot, toD_d, toD_l, f1_one, f2_two, add_i, add_l, add_t, iadd_i, sub_i, mul_i, mul_l, mod_i, fdiv_w, fdOk_2, fdOk_64, fdOk_7, fdOk_m, na10, na2, at3_0, at3_1, at3_2, at2_0, at2_1, Mir.atI_last, ix3_0, ix3_1, ix3_2, pow_i, neg_i, len_l, len_t, abs_i, max2_i, min2_i, int_i, int_b, list_l, list_t, tuple_l, tuple_t, lt_i, le_i, gt_i, ge_i, eq_i, ne_i, eq_b, ne_b, eq_s, ne_s, sl_l, sl_t, src_l, src_t, revL_l, revT_l, slot_f, slot_l, wS_new, ix_l, ix_t, all_b, any_b, sum_l, dLst, dTup, setAll, ownAt, putOwn, frzE, boAt, wipeE, cut_map, cut_from1, cut_to1, List.getElem?_cons_zero, List.getElem?_cons_succ, List.set_cons_zero, List.set_cons_succ, Option.some.injEq, Sl.dt.injEq, Sl.ow.injEq, Sl.bo.injEq, Rv.d.injEq, Rv.l.injEq, PyData.int.injEq, PyData.bool.injEq, PyData.str.injEq, PyData.list.injEq, PyData.tuple.injEq, List.cons.injEq, exists_eq_left', exists_eq_left, exists_eq_right', exists_eq, exists_eq', exists_and_left, exists_const, and_true, true_and, and_assoc, Int.reduceLT, Int.reduceLE, Int.reducePow, Int.reduceToNat, Int.reduceNeg, Int.reduceMul, Int.reduceAdd, Int.reduceSub, Nat.reduceLT, Nat.reduceLeDiff, Nat.reducePow, Nat.reduceAdd, List.length_cons, List.length_nil, List.length_map, forall_const, decide_true, decide_false, Bool.not_true, Bool.not_false, Bool.false_eq_true, Bool.true_eq_false, false_implies, true_implies, reduceCtorEq, eq_self, eq_tI, ne_tI, eq_lI, ne_lI, all_T, wU_lst2, wU_lst3, sz_0, sz_1, sz_2, sz_3, sz_4, sz_5, sz_6, sz_7, sz_8, implies_true, revA_l, revA_t, isB_b, isntB_b, zRev_1, zRev_2, zRev_3, zRev_4, zRev_5, revS_l, revS_t, sumT_l, sumT_t, xW_seq, xW_if, xW_arg, xW_call, xW_raise, xW_raise0, xK, wE_xnone, wE_xfld, wE_xis, Sl.xt.injEq, Xt.exn.injEq, or_false, false_or, lk_hd, inCs_hd, mem_hd, false_and, and_false]
    refine ⟨f, rfl, fun z => ?_, by omega, hr, hb.mono (by omega)⟩
    subst z
    simp at hf
    omega
end LW

namespace LW
open PySem Mir L2 M8
theorem refused_ok {f : List Int} {p : Int} (h : ¬ (0 ≤ p ∧ p < f.length)) : Z_l_refused [.tuple (I f), .int p] = some (.d (.bool true)) := by
  refine wR_eq ?_
  unfold Z_l_refused
  refine wR_run rfl ?_
  show wS _ [.dt _, .dt _, .un, .un] _
  unfold B_l_refused
  simp only [wE_var, wE_c, wE_1, wE_2, wA_nil, wA_cons, wE_A, wT_bool, wT_yes, wT_not, wT_and, wT_or, wE_ofT, wE_if, wE_chain, wO_no, wO_part, wE_sl, wE_isa, wE_ownLen, wE_ownIx, wE_app, wE_ext, wE_ins, wE_rg1, wE_rg2, wE_rev, wE_popAt, wE_pop, wS_putIx, wE_box, wE_boxNew, wS_seq, wS_nx, wS_ct, wS_bk, wS_set, wS_own, wS_ret, wS_drop, wS_if, wS_retO, wS_frz, wS_asg, wU_name, wUs_nil, wUs_cons, wU_tup2, wU_tup3, wPar_nil, wPar_cons, wS_par, wS_aug, wA_zip2, wA_zip3, wA_zipS, wA_seqIt, wA_range1, wA_range2, wA_enum, wS_for, seqK, lpK, rtK, rbK, wR_some, wB_some, wR_ite, mAnd, mOr, mNot, toD_d, toD_l, f1_one, f2_two, add_i, add_l, add_t, iadd_i, sub_i, mul_i, mul_l, mod_i, fdiv_w, fdOk_2, fdOk_64, fdOk_7, fdOk_m, na10, na2, at3_0, at3_1, at3_2, at2_0, at2_1, Mir.atI_last, ix3_0, ix3_1, ix3_2, pow_i, neg_i, len_l, len_t, abs_i, max2_i, min2_i, int_i, int_b, list_l, list_t, tuple_l, tuple_t, lt_i, le_i, gt_i, ge_i, eq_i, ne_i, eq_b, ne_b, eq_s, ne_s, sl_l, sl_t, src_l, src_t, revL_l, revT_l, slot_f, slot_l, wS_new, ix_l, ix_t, all_b, any_b, sum_l, dLst, dTup, setAll, ownAt, putOwn, frzE, boAt, wipeE, cut_map, cut_from1, cut_to1, List.getElem?_cons_zero, List.getElem?_cons_succ, List.set_cons_zero, List.set_cons_succ, Option.some.injEq, Sl.dt.injEq, Sl.ow.injEq, Sl.bo.injEq, Rv.d.injEq, Rv.l.injEq, PyData.int.injEq, PyData.bool.injEq, PyData.str.injEq, PyData.list.injEq, PyData.tuple.injEq, List.cons.injEq, exists_eq_left', exists_eq_left, exists_eq_right', exists_eq, exists_eq', exists_and_left, exists_const, and_true, true_and, and_assoc, Int.reduceLT, Int.reduceLE, Int.reducePow, Int.reduceToNat, Int.reduceNeg, Int.reduceMul, Int.reduceAdd, Int.reduceSub, Nat.reduceLT, Nat.reduceLeDiff, Nat.reducePow, Nat.reduceAdd, List.length_cons, List.length_nil, List.length_map, forall_const, decide_true, decide_false, Bool.not_true, Bool.not_false, Bool.false_eq_true, Bool.true_eq_false, false_implies, true_implies, reduceCtorEq, eq_self, eq_tI, ne_tI, eq_lI, ne_lI, all_T, wU_lst2, wU_lst3, sz_0, sz_1, sz_2, sz_3, sz_4, sz_5, sz_6, sz_7, sz_8, implies_true, revA_l, revA_t, isB_b, isntB_b, zRev_1, zRev_2, zRev_3, zRev_4, zRev_5, revS_l, revS_t, sumT_l, sumT_t, xW_seq, xW_if, xW_arg, xW_call, xW_raise, xW_raise0, xK, wE_xnone, wE_xfld, wE_xis, Sl.xt.injEq, Xt.exn.injEq, or_false, false_or, lk_hd, inCs_hd, mem_hd, false_and, and_false]
  refine wS_tryX ?_
  have g : Z_l_same 12 [.int p, .int p] = some (.d (.bool true)) := same_ok 11 _ gdi
  simp only [wE_var, wE_c, wE_1, wE_2, wA_nil, wA_cons, wE_A, wT_bool, wT_yes, wT_not, wT_and, wT_or, wE_ofT, wE_if, wE_chain, wO_no, wO_part, wE_sl, wE_isa, wE_ownLen, wE_ownIx, wE_app, wE_ext, wE_ins, wE_rg1, wE_rg2, wE_rev, wE_popAt, wE_pop, wS_putIx, wE_box, wE_boxNew, wS_seq, wS_nx, wS_ct, wS_bk, wS_set, wS_own, wS_ret, wS_drop, wS_if, wS_retO, wS_frz, wS_asg, wU_name, wUs_nil, wUs_cons, wU_tup2, wU_tup3, wPar_nil, wPar_cons, wS_par, wS_aug, wA_zip2, wA_zip3, wA_zipS, wA_seqIt, wA_range1, wA_range2, wA_enum, wS_for, seqK, lpK, rtK, rbK, wR_some, wB_some, wR_ite, mAnd, mOr, mNot, toD_d, toD_l, f1_one, f2_two, add_i, add_l, add_t, iadd_i, sub_i, mul_i, mul_l, mod_i, fdiv_w, fdOk_2, fdOk_64, fdOk_7, fdOk_m, na10, na2, at3_0, at3_1, at3_2, at2_0, at2_1, Mir.atI_last, ix3_0, ix3_1, ix3_2, pow_i, neg_i, len_l, len_t, abs_i, max2_i, min2_i, int_i, int_b, list_l, list_t, tuple_l, tuple_t, lt_i, le_i, gt_i, ge_i, eq_i, ne_i, eq_b, ne_b, eq_s, ne_s, sl_l, sl_t, src_l, src_t, revL_l, revT_l, slot_f, slot_l, wS_new, ix_l, ix_t, all_b, any_b, sum_l, dLst, dTup, setAll, ownAt, putOwn, frzE, boAt, wipeE, cut_map, cut_from1, cut_to1, List.getElem?_cons_zero, List.getElem?_cons_succ, List.set_cons_zero, List.set_cons_succ, Option.some.injEq, Sl.dt.injEq, Sl.ow.injEq, Sl.bo.injEq, Rv.d.injEq, Rv.l.injEq, PyData.int.injEq, PyData.bool.injEq, PyData.str.injEq, PyData.list.injEq, PyData.tuple.injEq, List.cons.injEq, exists_eq_left', exists_eq_left, exists_eq_right', exists_eq, exists_eq', exists_and_left, exists_const, and_true, true_and, and_assoc, Int.reduceLT, Int.reduceLE, Int.reducePow, Int.reduceToNat, Int.reduceNeg, Int.reduceMul, Int.reduceAdd, Int.reduceSub, Nat.reduceLT, Nat.reduceLeDiff, Nat.reducePow, Nat.reduceAdd, List.length_cons, List.length_nil, List.length_map, forall_const, decide_true, decide_false, Bool.not_true, Bool.not_false, Bool.false_eq_true, Bool.true_eq_false, false_implies, true_implies, reduceCtorEq, eq_self, eq_tI, ne_tI, eq_lI, ne_lI, all_T, wU_lst2, wU_lst3, sz_0, sz_1, sz_2, sz_3, sz_4, sz_5, sz_6, sz_7, sz_8, implies_true, revA_l, revA_t, isB_b, isntB_b, zRev_1, zRev_2, zRev_3, zRev_4, zRev_5, revS_l, revS_t, sumT_l, sumT_t, xW_seq, xW_if, xW_arg, xW_call, xW_raise, xW_raise0, xK, wE_xnone, wE_xfld, wE_xis, Sl.xt.injEq, Xt.exn.injEq, or_false, false_or, lk_hd, inCs_hd, mem_hd, false_and, and_false, handed_x (Dn.t) h, g]
def Fin_ (N : Nat) (s0 s1 : Sl) (e : MEnv) : Prop := ∃ (b : List D) (a3 a4 a5 a6 a7 a8 a9 a10 : Sl), e = [s0, s1, .ow b, a3, a4, a5, a6, a7, a8, a9, a10, .un, .un] ∧ Bx N b
theorem cutm {f : List Int} {p : Nat} {r : Int} (h : p < f.length) : I (f.take p) ++ [.int (at' f p + r)] ++ I (f.drop (p + 1)) = I (hnd f p r) := by
  have e : f.take p ++ [at' f p + r] ++ f.drop (p + 1) = hnd f p r := by
    refine ext_at (by simp [hnd_len]; omega) fun i hi => ?_
    have hi' : i < f.length := by simp at hi; omega
    rw [hnd_at hi', at_of hi]
    have gg := at_of hi'
    by_cases h1 : i < p
    · simp only [List.append_assoc]
      rw [List.getElem_append_left (by simp; omega), List.getElem_take, if_neg (by omega), gg]
    · by_cases h2 : i = p
      · subst h2
        simp only [List.append_assoc]
        rw [List.getElem_append_right (by simp; omega)]
        simp [Nat.min_eq_left (Nat.le_of_lt h)]
      · rw [List.getElem_append_right (by simp; omega), if_neg h2, gg, List.getElem_drop]
        congr 1
        simp; omega
  rw [← e]
  simp [I]
theorem hnd_back {f : List Int} {p : Nat} {r : Int} (h : p < f.length) : hnd (hnd f p r) p (-r) = f := by
  refine ext_at (by rw [hnd_len, hnd_len]) fun i hi => ?_
  have hi' : i < f.length := by rw [hnd_len, hnd_len] at hi; exact hi
  rw [hnd_at (by rw [hnd_len]; exact hi'), hnd_at hi']
  split <;> omega
theorem same_g {d : D} (h : Gd 11 d) : wR (Z_l_same 12 [d, d]) fun z => ∃ b, z = Rv.d (PyData.bool b) ∧ (!b) = false := ⟨_, same_ok 11 _ h, _, rfl, rfl⟩
theorem body_ok {f : List Int} {p : Nat} {r : Int} {b : List D} {s0 a1 a3 a4 a5 a6 : Sl} {PS : Fl → MEnv → Prop} (f0 : f ≠ []) (f1 : f.length ≤ 100) (h : p < f.length) (k : ∀ e, (∃ a3 a4 a5 a6 a7 a8 a9 a10 : Sl, e = [s0, a1, .ow b, a3, a4, a5, a6, a7, a8, a9, a10, .un, .un]) → PS .nx e) :
    wS T_law_12 [s0, a1, .ow b, a3, a4, a5, a6, .dt (.tuple (I f)), .dt (.int r), .dt (.list (I f)), .dt (.int (p : Int)), .un, .un] PS := by
  unfold T_law_12
  obtain ⟨m, m0, e1, e2⟩ := steep_two (f := f) (by omega)
  simp only [wE_var, wE_c, wE_1, wE_2, wA_nil, wA_cons, wE_A, wT_bool, wT_yes, wT_not, wT_and, wT_or, wE_ofT, wE_if, wE_chain, wO_no, wO_part, wE_sl, wE_isa, wE_ownLen, wE_ownIx, wE_app, wE_ext, wE_ins, wE_rg1, wE_rg2, wE_rev, wE_popAt, wE_pop, wS_putIx, wE_box, wE_boxNew, wS_seq, wS_nx, wS_ct, wS_bk, wS_set, wS_own, wS_ret, wS_drop, wS_if, wS_retO, wS_frz, wS_asg, wU_name, wUs_nil, wUs_cons, wU_tup2, wU_tup3, wPar_nil, wPar_cons, wS_par, wS_aug, wA_zip2, wA_zip3, wA_zipS, wA_seqIt, wA_range1, wA_range2, wA_enum, wS_for, seqK, lpK, rtK, rbK, wR_some, wB_some, wR_ite, mAnd, mOr, mNot, toD_d, toD_l, f1_one, f2_two, add_i, add_l, add_t, iadd_i, sub_i, mul_i, mul_l, mod_i, fdiv_w, fdOk_2, fdOk_64, fdOk_7, fdOk_m, na10, na2, at3_0, at3_1, at3_2, at2_0, at2_1, Mir.atI_last, ix3_0, ix3_1, ix3_2, pow_i, neg_i, len_l, len_t, abs_i, max2_i, min2_i, int_i, int_b, list_l, list_t, tuple_l, tuple_t, lt_i, le_i, gt_i, ge_i, eq_i, ne_i, eq_b, ne_b, eq_s, ne_s, sl_l, sl_t, src_l, src_t, revL_l, revT_l, slot_f, slot_l, wS_new, ix_l, ix_t, all_b, any_b, sum_l, dLst, dTup, setAll, ownAt, putOwn, frzE, boAt, wipeE, cut_map, cut_from1, cut_to1, List.getElem?_cons_zero, List.getElem?_cons_succ, List.set_cons_zero, List.set_cons_succ, Option.some.injEq, Sl.dt.injEq, Sl.ow.injEq, Sl.bo.injEq, Rv.d.injEq, Rv.l.injEq, PyData.int.injEq, PyData.bool.injEq, PyData.str.injEq, PyData.list.injEq, PyData.tuple.injEq, List.cons.injEq, exists_eq_left', exists_eq_left, exists_eq_right', exists_eq, exists_eq', exists_and_left, exists_const, and_true, true_and, and_assoc, Int.reduceLT, Int.reduceLE, Int.reducePow, Int.reduceToNat, Int.reduceNeg, Int.reduceMul, Int.reduceAdd, Int.reduceSub, Nat.reduceLT, Nat.reduceLeDiff, Nat.reducePow, Nat.reduceAdd, List.length_cons, List.length_nil, List.length_map, forall_const, decide_true, decide_false, Bool.not_true, Bool.not_false, Bool.false_eq_true, Bool.true_eq_false, false_implies, true_implies, reduceCtorEq, eq_self, eq_tI, ne_tI, eq_lI, ne_lI, all_T, wU_lst2, wU_lst3, sz_0, sz_1, sz_2, sz_3, sz_4, sz_5, sz_6, sz_7, sz_8, implies_true, revA_l, revA_t, isB_b, isntB_b, zRev_1, zRev_2, zRev_3, zRev_4, zRev_5, revS_l, revS_t, sumT_l, sumT_t, xW_seq, xW_if, xW_arg, xW_call, xW_raise, xW_raise0, xK, wE_xnone, wE_xfld, wE_xis, Sl.xt.injEq, Xt.exn.injEq, or_false, false_or, lk_hd, inCs_hd, mem_hd, false_and, and_false, e2 _ Dn.t, e2 _ Dn.l, sand_any Dn.t, sand_any Dn.l]
  unfold T_law_11
  refine w_guard ?_ ?_
  · simp only [wE_var, wE_c, wE_1, wE_2, wA_nil, wA_cons, wE_A, wT_bool, wT_yes, wT_not, wT_and, wT_or, wE_ofT, wE_if, wE_chain, wO_no, wO_part, wE_sl, wE_isa, wE_ownLen, wE_ownIx, wE_app, wE_ext, wE_ins, wE_rg1, wE_rg2, wE_rev, wE_popAt, wE_pop, wS_putIx, wE_box, wE_boxNew, wS_seq, wS_nx, wS_ct, wS_bk, wS_set, wS_own, wS_ret, wS_drop, wS_if, wS_retO, wS_frz, wS_asg, wU_name, wUs_nil, wUs_cons, wU_tup2, wU_tup3, wPar_nil, wPar_cons, wS_par, wS_aug, wA_zip2, wA_zip3, wA_zipS, wA_seqIt, wA_range1, wA_range2, wA_enum, wS_for, seqK, lpK, rtK, rbK, wR_some, wB_some, wR_ite, mAnd, mOr, mNot, toD_d, toD_l, f1_one, f2_two, add_i, add_l, add_t, iadd_i, sub_i, mul_i, mul_l, mod_i, fdiv_w, fdOk_2, fdOk_64, fdOk_7, fdOk_m, na10, na2, at3_0, at3_1, at3_2, at2_0, at2_1, Mir.atI_last, ix3_0, ix3_1, ix3_2, pow_i, neg_i, len_l, len_t, abs_i, max2_i, min2_i, int_i, int_b, list_l, list_t, tuple_l, tuple_t, lt_i, le_i, gt_i, ge_i, eq_i, ne_i, eq_b, ne_b, eq_s, ne_s, sl_l, sl_t, src_l, src_t, revL_l, revT_l, slot_f, slot_l, wS_new, ix_l, ix_t, all_b, any_b, sum_l, dLst, dTup, setAll, ownAt, putOwn, frzE, boAt, wipeE, cut_map, cut_from1, cut_to1, List.getElem?_cons_zero, List.getElem?_cons_succ, List.set_cons_zero, List.set_cons_succ, Option.some.injEq, Sl.dt.injEq, Sl.ow.injEq, Sl.bo.injEq, Rv.d.injEq, Rv.l.injEq, PyData.int.injEq, PyData.bool.injEq, PyData.str.injEq, PyData.list.injEq, PyData.tuple.injEq, List.cons.injEq, exists_eq_left', exists_eq_left, exists_eq_right', exists_eq, exists_eq', exists_and_left, exists_const, and_true, true_and, and_assoc, Int.reduceLT, Int.reduceLE, Int.reducePow, Int.reduceToNat, Int.reduceNeg, Int.reduceMul, Int.reduceAdd, Int.reduceSub, Nat.reduceLT, Nat.reduceLeDiff, Nat.reducePow, Nat.reduceAdd, List.length_cons, List.length_nil, List.length_map, forall_const, decide_true, decide_false, Bool.not_true, Bool.not_false, Bool.false_eq_true, Bool.true_eq_false, false_implies, true_implies, reduceCtorEq, eq_self, eq_tI, ne_tI, eq_lI, ne_lI, all_T, wU_lst2, wU_lst3, sz_0, sz_1, sz_2, sz_3, sz_4, sz_5, sz_6, sz_7, sz_8, implies_true, revA_l, revA_t, isB_b, isntB_b, zRev_1, zRev_2, zRev_3, zRev_4, zRev_5, revS_l, revS_t, sumT_l, sumT_t, xW_seq, xW_if, xW_arg, xW_call, xW_raise, xW_raise0, xK, wE_xnone, wE_xfld, wE_xis, Sl.xt.injEq, Xt.exn.injEq, or_false, false_or, lk_hd, inCs_hd, mem_hd, false_and, and_false, e1]
    refine ⟨by decide, by decide, szl (by simp), ?_⟩
    exact same_g (gdl (by simp) (gda_cons gdi (gda_cons gdi (gda_cons gdi (gda_cons gdi gda_nil)))))
  unfold T_law_10
  simp only [wE_var, wE_c, wE_1, wE_2, wA_nil, wA_cons, wE_A, wT_bool, wT_yes, wT_not, wT_and, wT_or, wE_ofT, wE_if, wE_chain, wO_no, wO_part, wE_sl, wE_isa, wE_ownLen, wE_ownIx, wE_app, wE_ext, wE_ins, wE_rg1, wE_rg2, wE_rev, wE_popAt, wE_pop, wS_putIx, wE_box, wE_boxNew, wS_seq, wS_nx, wS_ct, wS_bk, wS_set, wS_own, wS_ret, wS_drop, wS_if, wS_retO, wS_frz, wS_asg, wU_name, wUs_nil, wUs_cons, wU_tup2, wU_tup3, wPar_nil, wPar_cons, wS_par, wS_aug, wA_zip2, wA_zip3, wA_zipS, wA_seqIt, wA_range1, wA_range2, wA_enum, wS_for, seqK, lpK, rtK, rbK, wR_some, wB_some, wR_ite, mAnd, mOr, mNot, toD_d, toD_l, f1_one, f2_two, add_i, add_l, add_t, iadd_i, sub_i, mul_i, mul_l, mod_i, fdiv_w, fdOk_2, fdOk_64, fdOk_7, fdOk_m, na10, na2, at3_0, at3_1, at3_2, at2_0, at2_1, Mir.atI_last, ix3_0, ix3_1, ix3_2, pow_i, neg_i, len_l, len_t, abs_i, max2_i, min2_i, int_i, int_b, list_l, list_t, tuple_l, tuple_t, lt_i, le_i, gt_i, ge_i, eq_i, ne_i, eq_b, ne_b, eq_s, ne_s, sl_l, sl_t, src_l, src_t, revL_l, revT_l, slot_f, slot_l, wS_new, ix_l, ix_t, all_b, any_b, sum_l, dLst, dTup, setAll, ownAt, putOwn, frzE, boAt, wipeE, cut_map, cut_from1, cut_to1, List.getElem?_cons_zero, List.getElem?_cons_succ, List.set_cons_zero, List.set_cons_succ, Option.some.injEq, Sl.dt.injEq, Sl.ow.injEq, Sl.bo.injEq, Rv.d.injEq, Rv.l.injEq, PyData.int.injEq, PyData.bool.injEq, PyData.str.injEq, PyData.list.injEq, PyData.tuple.injEq, List.cons.injEq, exists_eq_left', exists_eq_left, exists_eq_right', exists_eq, exists_eq', exists_and_left, exists_const, and_true, true_and, and_assoc, Int.reduceLT, Int.reduceLE, Int.reducePow, Int.reduceToNat, Int.reduceNeg, Int.reduceMul, Int.reduceAdd, Int.reduceSub, Nat.reduceLT, Nat.reduceLeDiff, Nat.reducePow, Nat.reduceAdd, List.length_cons, List.length_nil, List.length_map, forall_const, decide_true, decide_false, Bool.not_true, Bool.not_false, Bool.false_eq_true, Bool.true_eq_false, false_implies, true_implies, reduceCtorEq, eq_self, eq_tI, ne_tI, eq_lI, ne_lI, all_T, wU_lst2, wU_lst3, sz_0, sz_1, sz_2, sz_3, sz_4, sz_5, sz_6, sz_7, sz_8, implies_true, revA_l, revA_t, isB_b, isntB_b, zRev_1, zRev_2, zRev_3, zRev_4, zRev_5, revS_l, revS_t, sumT_l, sumT_t, xW_seq, xW_if, xW_arg, xW_call, xW_raise, xW_raise0, xK, wE_xnone, wE_xfld, wE_xis, Sl.xt.injEq, Xt.exn.injEq, or_false, false_or, lk_hd, inCs_hd, mem_hd, false_and, and_false]
  refine wE_pure (zs := f) PyData.int (fun x => .int (x + r)) (by simp only [wE_var, wE_c, wE_1, wE_2, wA_nil, wA_cons, wE_A, wT_bool, wT_yes, wT_not, wT_and, wT_or, wE_ofT, wE_if, wE_chain, wO_no, wO_part, wE_sl, wE_isa, wE_ownLen, wE_ownIx, wE_app, wE_ext, wE_ins, wE_rg1, wE_rg2, wE_rev, wE_popAt, wE_pop, wS_putIx, wE_box, wE_boxNew, wS_seq, wS_nx, wS_ct, wS_bk, wS_set, wS_own, wS_ret, wS_drop, wS_if, wS_retO, wS_frz, wS_asg, wU_name, wUs_nil, wUs_cons, wU_tup2, wU_tup3, wPar_nil, wPar_cons, wS_par, wS_aug, wA_zip2, wA_zip3, wA_zipS, wA_seqIt, wA_range1, wA_range2, wA_enum, wS_for, seqK, lpK, rtK, rbK, wR_some, wB_some, wR_ite, mAnd, mOr, mNot, toD_d, toD_l, f1_one, f2_two, add_i, add_l, add_t, iadd_i, sub_i, mul_i, mul_l, mod_i, fdiv_w, fdOk_2, fdOk_64, fdOk_7, fdOk_m, na10, na2, at3_0, at3_1, at3_2, at2_0, at2_1, Mir.atI_last, ix3_0, ix3_1, ix3_2, pow_i, neg_i, len_l, len_t, abs_i, max2_i, min2_i, int_i, int_b, list_l, list_t, tuple_l, tuple_t, lt_i, le_i, gt_i, ge_i, eq_i, ne_i, eq_b, ne_b, eq_s, ne_s, sl_l, sl_t, src_l, src_t, revL_l, revT_l, slot_f, slot_l, wS_new, ix_l, ix_t, all_b, any_b, sum_l, dLst, dTup, setAll, ownAt, putOwn, frzE, boAt, wipeE, cut_map, cut_from1, cut_to1, List.getElem?_cons_zero, List.getElem?_cons_succ, List.set_cons_zero, List.set_cons_succ, Option.some.injEq, Sl.dt.injEq, Sl.ow.injEq, Sl.bo.injEq, Rv.d.injEq, Rv.l.injEq, PyData.int.injEq, PyData.bool.injEq, PyData.str.injEq, PyData.list.injEq, PyData.tuple.injEq, List.cons.injEq, exists_eq_left', exists_eq_left, exists_eq_right', exists_eq, exists_eq', exists_and_left, exists_const, and_true, true_and, and_assoc, Int.reduceLT, Int.reduceLE, Int.reducePow, Int.reduceToNat, Int.reduceNeg, Int.reduceMul, Int.reduceAdd, Int.reduceSub, Nat.reduceLT, Nat.reduceLeDiff, Nat.reducePow, Nat.reduceAdd, List.length_cons, List.length_nil, List.length_map, forall_const, decide_true, decide_false, Bool.not_true, Bool.not_false, Bool.false_eq_true, Bool.true_eq_false, false_implies, true_implies, reduceCtorEq, eq_self, eq_tI, ne_tI, eq_lI, ne_lI, all_T, wU_lst2, wU_lst3, sz_0, sz_1, sz_2, sz_3, sz_4, sz_5, sz_6, sz_7, sz_8, implies_true, revA_l, revA_t, isB_b, isntB_b, zRev_1, zRev_2, zRev_3, zRev_4, zRev_5, revS_l, revS_t, sumT_l, sumT_t, xW_seq, xW_if, xW_arg, xW_call, xW_raise, xW_raise0, xK, wE_xnone, wE_xfld, wE_xis, Sl.xt.injEq, Xt.exn.injEq, or_false, false_or, lk_hd, inCs_hd, mem_hd, false_and, and_false] <;> rfl) rfl (szl (by omega)) (fun x _ => by simp only [wE_var, wE_c, wE_1, wE_2, wA_nil, wA_cons, wE_A, wT_bool, wT_yes, wT_not, wT_and, wT_or, wE_ofT, wE_if, wE_chain, wO_no, wO_part, wE_sl, wE_isa, wE_ownLen, wE_ownIx, wE_app, wE_ext, wE_ins, wE_rg1, wE_rg2, wE_rev, wE_popAt, wE_pop, wS_putIx, wE_box, wE_boxNew, wS_seq, wS_nx, wS_ct, wS_bk, wS_set, wS_own, wS_ret, wS_drop, wS_if, wS_retO, wS_frz, wS_asg, wU_name, wUs_nil, wUs_cons, wU_tup2, wU_tup3, wPar_nil, wPar_cons, wS_par, wS_aug, wA_zip2, wA_zip3, wA_zipS, wA_seqIt, wA_range1, wA_range2, wA_enum, wS_for, seqK, lpK, rtK, rbK, wR_some, wB_some, wR_ite, mAnd, mOr, mNot, toD_d, toD_l, f1_one, f2_two, add_i, add_l, add_t, iadd_i, sub_i, mul_i, mul_l, mod_i, fdiv_w, fdOk_2, fdOk_64, fdOk_7, fdOk_m, na10, na2, at3_0, at3_1, at3_2, at2_0, at2_1, Mir.atI_last, ix3_0, ix3_1, ix3_2, pow_i, neg_i, len_l, len_t, abs_i, max2_i, min2_i, int_i, int_b, list_l, list_t, tuple_l, tuple_t, lt_i, le_i, gt_i, ge_i, eq_i, ne_i, eq_b, ne_b, eq_s, ne_s, sl_l, sl_t, src_l, src_t, revL_l, revT_l, slot_f, slot_l, wS_new, ix_l, ix_t, all_b, any_b, sum_l, dLst, dTup, setAll, ownAt, putOwn, frzE, boAt, wipeE, cut_map, cut_from1, cut_to1, List.getElem?_cons_zero, List.getElem?_cons_succ, List.set_cons_zero, List.set_cons_succ, Option.some.injEq, Sl.dt.injEq, Sl.ow.injEq, Sl.bo.injEq, Rv.d.injEq, Rv.l.injEq, PyData.int.injEq, PyData.bool.injEq, PyData.str.injEq, PyData.list.injEq, PyData.tuple.injEq, List.cons.injEq, exists_eq_left', exists_eq_left, exists_eq_right', exists_eq, exists_eq', exists_and_left, exists_const, and_true, true_and, and_assoc, Int.reduceLT, Int.reduceLE, Int.reducePow, Int.reduceToNat, Int.reduceNeg, Int.reduceMul, Int.reduceAdd, Int.reduceSub, Nat.reduceLT, Nat.reduceLeDiff, Nat.reducePow, Nat.reduceAdd, List.length_cons, List.length_nil, List.length_map, forall_const, decide_true, decide_false, Bool.not_true, Bool.not_false, Bool.false_eq_true, Bool.true_eq_false, false_implies, true_implies, reduceCtorEq, eq_self, eq_tI, ne_tI, eq_lI, ne_lI, all_T, wU_lst2, wU_lst3, sz_0, sz_1, sz_2, sz_3, sz_4, sz_5, sz_6, sz_7, sz_8, implies_true, revA_l, revA_t, isB_b, isntB_b, zRev_1, zRev_2, zRev_3, zRev_4, zRev_5, revS_l, revS_t, sumT_l, sumT_t, xW_seq, xW_if, xW_arg, xW_call, xW_raise, xW_raise0, xK, wE_xnone, wE_xfld, wE_xis, Sl.xt.injEq, Xt.exn.injEq, or_false, false_or, lk_hd, inCs_hd, mem_hd, false_and, and_false]) ?_
  have hI : f.map (fun x => PyData.int (x + r)) = I (f.map (· + r)) := by rw [I, List.map_map]; rfl
  have hb : (f.map (· + r)).map (· + -r) = f := by
    rw [List.map_map]
    exact (List.map_congr_left (fun x _ => by show x + r + -r = id x; simp only [id]; omega)).trans (List.map_id f)
  simp only [wE_var, wE_c, wE_1, wE_2, wA_nil, wA_cons, wE_A, wT_bool, wT_yes, wT_not, wT_and, wT_or, wE_ofT, wE_if, wE_chain, wO_no, wO_part, wE_sl, wE_isa, wE_ownLen, wE_ownIx, wE_app, wE_ext, wE_ins, wE_rg1, wE_rg2, wE_rev, wE_popAt, wE_pop, wS_putIx, wE_box, wE_boxNew, wS_seq, wS_nx, wS_ct, wS_bk, wS_set, wS_own, wS_ret, wS_drop, wS_if, wS_retO, wS_frz, wS_asg, wU_name, wUs_nil, wUs_cons, wU_tup2, wU_tup3, wPar_nil, wPar_cons, wS_par, wS_aug, wA_zip2, wA_zip3, wA_zipS, wA_seqIt, wA_range1, wA_range2, wA_enum, wS_for, seqK, lpK, rtK, rbK, wR_some, wB_some, wR_ite, mAnd, mOr, mNot, toD_d, toD_l, f1_one, f2_two, add_i, add_l, add_t, iadd_i, sub_i, mul_i, mul_l, mod_i, fdiv_w, fdOk_2, fdOk_64, fdOk_7, fdOk_m, na10, na2, at3_0, at3_1, at3_2, at2_0, at2_1, Mir.atI_last, ix3_0, ix3_1, ix3_2, pow_i, neg_i, len_l, len_t, abs_i, max2_i, min2_i, int_i, int_b, list_l, list_t, tuple_l, tuple_t, lt_i, le_i, gt_i, ge_i, eq_i, ne_i, eq_b, ne_b, eq_s, ne_s, sl_l, sl_t, src_l, src_t, revL_l, revT_l, slot_f, slot_l, wS_new, ix_l, ix_t, all_b, any_b, sum_l, dLst, dTup, setAll, ownAt, putOwn, frzE, boAt, wipeE, cut_map, cut_from1, cut_to1, List.getElem?_cons_zero, List.getElem?_cons_succ, List.set_cons_zero, List.set_cons_succ, Option.some.injEq, Sl.dt.injEq, Sl.ow.injEq, Sl.bo.injEq, Rv.d.injEq, Rv.l.injEq, PyData.int.injEq, PyData.bool.injEq, PyData.str.injEq, PyData.list.injEq, PyData.tuple.injEq, List.cons.injEq, exists_eq_left', exists_eq_left, exists_eq_right', exists_eq, exists_eq', exists_and_left, exists_const, and_true, true_and, and_assoc, Int.reduceLT, Int.reduceLE, Int.reducePow, Int.reduceToNat, Int.reduceNeg, Int.reduceMul, Int.reduceAdd, Int.reduceSub, Nat.reduceLT, Nat.reduceLeDiff, Nat.reducePow, Nat.reduceAdd, List.length_cons, List.length_nil, List.length_map, forall_const, decide_true, decide_false, Bool.not_true, Bool.not_false, Bool.false_eq_true, Bool.true_eq_false, false_implies, true_implies, reduceCtorEq, eq_self, eq_tI, ne_tI, eq_lI, ne_lI, all_T, wU_lst2, wU_lst3, sz_0, sz_1, sz_2, sz_3, sz_4, sz_5, sz_6, sz_7, sz_8, implies_true, revA_l, revA_t, isB_b, isntB_b, zRev_1, zRev_2, zRev_3, zRev_4, zRev_5, revS_l, revS_t, sumT_l, sumT_t, xW_seq, xW_if, xW_arg, xW_call, xW_raise, xW_raise0, xK, wE_xnone, wE_xfld, wE_xis, Sl.xt.injEq, Xt.exn.injEq, or_false, false_or, lk_hd, inCs_hd, mem_hd, false_and, and_false, hI]
  unfold T_law_9
  simp only [wE_var, wE_c, wE_1, wE_2, wA_nil, wA_cons, wE_A, wT_bool, wT_yes, wT_not, wT_and, wT_or, wE_ofT, wE_if, wE_chain, wO_no, wO_part, wE_sl, wE_isa, wE_ownLen, wE_ownIx, wE_app, wE_ext, wE_ins, wE_rg1, wE_rg2, wE_rev, wE_popAt, wE_pop, wS_putIx, wE_box, wE_boxNew, wS_seq, wS_nx, wS_ct, wS_bk, wS_set, wS_own, wS_ret, wS_drop, wS_if, wS_retO, wS_frz, wS_asg, wU_name, wUs_nil, wUs_cons, wU_tup2, wU_tup3, wPar_nil, wPar_cons, wS_par, wS_aug, wA_zip2, wA_zip3, wA_zipS, wA_seqIt, wA_range1, wA_range2, wA_enum, wS_for, seqK, lpK, rtK, rbK, wR_some, wB_some, wR_ite, mAnd, mOr, mNot, toD_d, toD_l, f1_one, f2_two, add_i, add_l, add_t, iadd_i, sub_i, mul_i, mul_l, mod_i, fdiv_w, fdOk_2, fdOk_64, fdOk_7, fdOk_m, na10, na2, at3_0, at3_1, at3_2, at2_0, at2_1, Mir.atI_last, ix3_0, ix3_1, ix3_2, pow_i, neg_i, len_l, len_t, abs_i, max2_i, min2_i, int_i, int_b, list_l, list_t, tuple_l, tuple_t, lt_i, le_i, gt_i, ge_i, eq_i, ne_i, eq_b, ne_b, eq_s, ne_s, sl_l, sl_t, src_l, src_t, revL_l, revT_l, slot_f, slot_l, wS_new, ix_l, ix_t, all_b, any_b, sum_l, dLst, dTup, setAll, ownAt, putOwn, frzE, boAt, wipeE, cut_map, cut_from1, cut_to1, List.getElem?_cons_zero, List.getElem?_cons_succ, List.set_cons_zero, List.set_cons_succ, Option.some.injEq, Sl.dt.injEq, Sl.ow.injEq, Sl.bo.injEq, Rv.d.injEq, Rv.l.injEq, PyData.int.injEq, PyData.bool.injEq, PyData.str.injEq, PyData.list.injEq, PyData.tuple.injEq, List.cons.injEq, exists_eq_left', exists_eq_left, exists_eq_right', exists_eq, exists_eq', exists_and_left, exists_const, and_true, true_and, and_assoc, Int.reduceLT, Int.reduceLE, Int.reducePow, Int.reduceToNat, Int.reduceNeg, Int.reduceMul, Int.reduceAdd, Int.reduceSub, Nat.reduceLT, Nat.reduceLeDiff, Nat.reducePow, Nat.reduceAdd, List.length_cons, List.length_nil, List.length_map, forall_const, decide_true, decide_false, Bool.not_true, Bool.not_false, Bool.false_eq_true, Bool.true_eq_false, false_implies, true_implies, reduceCtorEq, eq_self, eq_tI, ne_tI, eq_lI, ne_lI, all_T, wU_lst2, wU_lst3, sz_0, sz_1, sz_2, sz_3, sz_4, sz_5, sz_6, sz_7, sz_8, implies_true, revA_l, revA_t, isB_b, isntB_b, zRev_1, zRev_2, zRev_3, zRev_4, zRev_5, revS_l, revS_t, sumT_l, sumT_t, xW_seq, xW_if, xW_arg, xW_call, xW_raise, xW_raise0, xK, wE_xnone, wE_xfld, wE_xis, Sl.xt.injEq, Xt.exn.injEq, or_false, false_or, lk_hd, inCs_hd, mem_hd, false_and, and_false, raised_any (b := r) Dn.l (by omega : f.length ≤ 900), raised_any (b := r) Dn.t (by omega : f.length ≤ 900), raised_any (f := f.map (· + r)) (b := -r) Dn.t (by rw [List.length_map]; omega), hb]
  unfold T_law_8
  have g1 : Gd 10 (.tuple (I f)) := gd_I (n := 9) (by omega)
  have g2 : Gd 10 (.tuple (I (f.map (· + r)))) := gd_I (n := 9) (by rw [List.length_map]; omega)
  refine w_guard ?_ ?_
  · simp only [wE_var, wE_c, wE_1, wE_2, wA_nil, wA_cons, wE_A, wT_bool, wT_yes, wT_not, wT_and, wT_or, wE_ofT, wE_if, wE_chain, wO_no, wO_part, wE_sl, wE_isa, wE_ownLen, wE_ownIx, wE_app, wE_ext, wE_ins, wE_rg1, wE_rg2, wE_rev, wE_popAt, wE_pop, wS_putIx, wE_box, wE_boxNew, wS_seq, wS_nx, wS_ct, wS_bk, wS_set, wS_own, wS_ret, wS_drop, wS_if, wS_retO, wS_frz, wS_asg, wU_name, wUs_nil, wUs_cons, wU_tup2, wU_tup3, wPar_nil, wPar_cons, wS_par, wS_aug, wA_zip2, wA_zip3, wA_zipS, wA_seqIt, wA_range1, wA_range2, wA_enum, wS_for, seqK, lpK, rtK, rbK, wR_some, wB_some, wR_ite, mAnd, mOr, mNot, toD_d, toD_l, f1_one, f2_two, add_i, add_l, add_t, iadd_i, sub_i, mul_i, mul_l, mod_i, fdiv_w, fdOk_2, fdOk_64, fdOk_7, fdOk_m, na10, na2, at3_0, at3_1, at3_2, at2_0, at2_1, Mir.atI_last, ix3_0, ix3_1, ix3_2, pow_i, neg_i, len_l, len_t, abs_i, max2_i, min2_i, int_i, int_b, list_l, list_t, tuple_l, tuple_t, lt_i, le_i, gt_i, ge_i, eq_i, ne_i, eq_b, ne_b, eq_s, ne_s, sl_l, sl_t, src_l, src_t, revL_l, revT_l, slot_f, slot_l, wS_new, ix_l, ix_t, all_b, any_b, sum_l, dLst, dTup, setAll, ownAt, putOwn, frzE, boAt, wipeE, cut_map, cut_from1, cut_to1, List.getElem?_cons_zero, List.getElem?_cons_succ, List.set_cons_zero, List.set_cons_succ, Option.some.injEq, Sl.dt.injEq, Sl.ow.injEq, Sl.bo.injEq, Rv.d.injEq, Rv.l.injEq, PyData.int.injEq, PyData.bool.injEq, PyData.str.injEq, PyData.list.injEq, PyData.tuple.injEq, List.cons.injEq, exists_eq_left', exists_eq_left, exists_eq_right', exists_eq, exists_eq', exists_and_left, exists_const, and_true, true_and, and_assoc, Int.reduceLT, Int.reduceLE, Int.reducePow, Int.reduceToNat, Int.reduceNeg, Int.reduceMul, Int.reduceAdd, Int.reduceSub, Nat.reduceLT, Nat.reduceLeDiff, Nat.reducePow, Nat.reduceAdd, List.length_cons, List.length_nil, List.length_map, forall_const, decide_true, decide_false, Bool.not_true, Bool.not_false, Bool.false_eq_true, Bool.true_eq_false, false_implies, true_implies, reduceCtorEq, eq_self, eq_tI, ne_tI, eq_lI, ne_lI, all_T, wU_lst2, wU_lst3, sz_0, sz_1, sz_2, sz_3, sz_4, sz_5, sz_6, sz_7, sz_8, implies_true, revA_l, revA_t, isB_b, isntB_b, zRev_1, zRev_2, zRev_3, zRev_4, zRev_5, revS_l, revS_t, sumT_l, sumT_t, xW_seq, xW_if, xW_arg, xW_call, xW_raise, xW_raise0, xK, wE_xnone, wE_xfld, wE_xis, Sl.xt.injEq, Xt.exn.injEq, or_false, false_or, lk_hd, inCs_hd, mem_hd, false_and, and_false]
    exact same_g (gdl (by simp) (gda_cons g2 (gda_cons g2 (gda_cons g1 gda_nil))))
  unfold T_law_7
  have hn : (f.map (- ·)).map (- ·) = f := by
    rw [List.map_map]
    exact (List.map_congr_left (fun x _ => by show -(-x) = id x; simp only [id]; omega)).trans (List.map_id f)
  simp only [wE_var, wE_c, wE_1, wE_2, wA_nil, wA_cons, wE_A, wT_bool, wT_yes, wT_not, wT_and, wT_or, wE_ofT, wE_if, wE_chain, wO_no, wO_part, wE_sl, wE_isa, wE_ownLen, wE_ownIx, wE_app, wE_ext, wE_ins, wE_rg1, wE_rg2, wE_rev, wE_popAt, wE_pop, wS_putIx, wE_box, wE_boxNew, wS_seq, wS_nx, wS_ct, wS_bk, wS_set, wS_own, wS_ret, wS_drop, wS_if, wS_retO, wS_frz, wS_asg, wU_name, wUs_nil, wUs_cons, wU_tup2, wU_tup3, wPar_nil, wPar_cons, wS_par, wS_aug, wA_zip2, wA_zip3, wA_zipS, wA_seqIt, wA_range1, wA_range2, wA_enum, wS_for, seqK, lpK, rtK, rbK, wR_some, wB_some, wR_ite, mAnd, mOr, mNot, toD_d, toD_l, f1_one, f2_two, add_i, add_l, add_t, iadd_i, sub_i, mul_i, mul_l, mod_i, fdiv_w, fdOk_2, fdOk_64, fdOk_7, fdOk_m, na10, na2, at3_0, at3_1, at3_2, at2_0, at2_1, Mir.atI_last, ix3_0, ix3_1, ix3_2, pow_i, neg_i, len_l, len_t, abs_i, max2_i, min2_i, int_i, int_b, list_l, list_t, tuple_l, tuple_t, lt_i, le_i, gt_i, ge_i, eq_i, ne_i, eq_b, ne_b, eq_s, ne_s, sl_l, sl_t, src_l, src_t, revL_l, revT_l, slot_f, slot_l, wS_new, ix_l, ix_t, all_b, any_b, sum_l, dLst, dTup, setAll, ownAt, putOwn, frzE, boAt, wipeE, cut_map, cut_from1, cut_to1, List.getElem?_cons_zero, List.getElem?_cons_succ, List.set_cons_zero, List.set_cons_succ, Option.some.injEq, Sl.dt.injEq, Sl.ow.injEq, Sl.bo.injEq, Rv.d.injEq, Rv.l.injEq, PyData.int.injEq, PyData.bool.injEq, PyData.str.injEq, PyData.list.injEq, PyData.tuple.injEq, List.cons.injEq, exists_eq_left', exists_eq_left, exists_eq_right', exists_eq, exists_eq', exists_and_left, exists_const, and_true, true_and, and_assoc, Int.reduceLT, Int.reduceLE, Int.reducePow, Int.reduceToNat, Int.reduceNeg, Int.reduceMul, Int.reduceAdd, Int.reduceSub, Nat.reduceLT, Nat.reduceLeDiff, Nat.reducePow, Nat.reduceAdd, List.length_cons, List.length_nil, List.length_map, forall_const, decide_true, decide_false, Bool.not_true, Bool.not_false, Bool.false_eq_true, Bool.true_eq_false, false_implies, true_implies, reduceCtorEq, eq_self, eq_tI, ne_tI, eq_lI, ne_lI, all_T, wU_lst2, wU_lst3, sz_0, sz_1, sz_2, sz_3, sz_4, sz_5, sz_6, sz_7, sz_8, implies_true, revA_l, revA_t, isB_b, isntB_b, zRev_1, zRev_2, zRev_3, zRev_4, zRev_5, revS_l, revS_t, sumT_l, sumT_t, xW_seq, xW_if, xW_arg, xW_call, xW_raise, xW_raise0, xK, wE_xnone, wE_xfld, wE_xis, Sl.xt.injEq, Xt.exn.injEq, or_false, false_or, lk_hd, inCs_hd, mem_hd, false_and, and_false, mirrored_any (f := f) Dn.l, mirrored_any (f := f) Dn.t, upside_any (f := f) Dn.l (by omega), upside_any (f := f) Dn.t (by omega), upside_any (f := f.map (- ·)) Dn.t (by rw [List.length_map]; omega), hn]
  unfold T_law_6
  simp only [wE_var, wE_c, wE_1, wE_2, wA_nil, wA_cons, wE_A, wT_bool, wT_yes, wT_not, wT_and, wT_or, wE_ofT, wE_if, wE_chain, wO_no, wO_part, wE_sl, wE_isa, wE_ownLen, wE_ownIx, wE_app, wE_ext, wE_ins, wE_rg1, wE_rg2, wE_rev, wE_popAt, wE_pop, wS_putIx, wE_box, wE_boxNew, wS_seq, wS_nx, wS_ct, wS_bk, wS_set, wS_own, wS_ret, wS_drop, wS_if, wS_retO, wS_frz, wS_asg, wU_name, wUs_nil, wUs_cons, wU_tup2, wU_tup3, wPar_nil, wPar_cons, wS_par, wS_aug, wA_zip2, wA_zip3, wA_zipS, wA_seqIt, wA_range1, wA_range2, wA_enum, wS_for, seqK, lpK, rtK, rbK, wR_some, wB_some, wR_ite, mAnd, mOr, mNot, toD_d, toD_l, f1_one, f2_two, add_i, add_l, add_t, iadd_i, sub_i, mul_i, mul_l, mod_i, fdiv_w, fdOk_2, fdOk_64, fdOk_7, fdOk_m, na10, na2, at3_0, at3_1, at3_2, at2_0, at2_1, Mir.atI_last, ix3_0, ix3_1, ix3_2, pow_i, neg_i, len_l, len_t, abs_i, max2_i, min2_i, int_i, int_b, list_l, list_t, tuple_l, tuple_t, lt_i, le_i, gt_i, ge_i, eq_i, ne_i, eq_b, ne_b, eq_s, ne_s, sl_l, sl_t, src_l, src_t, revL_l, revT_l, slot_f, slot_l, wS_new, ix_l, ix_t, all_b, any_b, sum_l, dLst, dTup, setAll, ownAt, putOwn, frzE, boAt, wipeE, cut_map, cut_from1, cut_to1, List.getElem?_cons_zero, List.getElem?_cons_succ, List.set_cons_zero, List.set_cons_succ, Option.some.injEq, Sl.dt.injEq, Sl.ow.injEq, Sl.bo.injEq, Rv.d.injEq, Rv.l.injEq, PyData.int.injEq, PyData.bool.injEq, PyData.str.injEq, PyData.list.injEq, PyData.tuple.injEq, List.cons.injEq, exists_eq_left', exists_eq_left, exists_eq_right', exists_eq, exists_eq', exists_and_left, exists_const, and_true, true_and, and_assoc, Int.reduceLT, Int.reduceLE, Int.reducePow, Int.reduceToNat, Int.reduceNeg, Int.reduceMul, Int.reduceAdd, Int.reduceSub, Nat.reduceLT, Nat.reduceLeDiff, Nat.reducePow, Nat.reduceAdd, List.length_cons, List.length_nil, List.length_map, forall_const, decide_true, decide_false, Bool.not_true, Bool.not_false, Bool.false_eq_true, Bool.true_eq_false, false_implies, true_implies, reduceCtorEq, eq_self, eq_tI, ne_tI, eq_lI, ne_lI, all_T, wU_lst2, wU_lst3, sz_0, sz_1, sz_2, sz_3, sz_4, sz_5, sz_6, sz_7, sz_8, implies_true, revA_l, revA_t, isB_b, isntB_b, zRev_1, zRev_2, zRev_3, zRev_4, zRev_5, revS_l, revS_t, sumT_l, sumT_t, xW_seq, xW_if, xW_arg, xW_call, xW_raise, xW_raise0, xK, wE_xnone, wE_xfld, wE_xis, Sl.xt.injEq, Xt.exn.injEq, or_false, false_or, lk_hd, inCs_hd, mem_hd, false_and, and_false]
  refine wE_pure (zs := f) PyData.int (fun x => .int (-x)) (by simp only [wE_var, wE_c, wE_1, wE_2, wA_nil, wA_cons, wE_A, wT_bool, wT_yes, wT_not, wT_and, wT_or, wE_ofT, wE_if, wE_chain, wO_no, wO_part, wE_sl, wE_isa, wE_ownLen, wE_ownIx, wE_app, wE_ext, wE_ins, wE_rg1, wE_rg2, wE_rev, wE_popAt, wE_pop, wS_putIx, wE_box, wE_boxNew, wS_seq, wS_nx, wS_ct, wS_bk, wS_set, wS_own, wS_ret, wS_drop, wS_if, wS_retO, wS_frz, wS_asg, wU_name, wUs_nil, wUs_cons, wU_tup2, wU_tup3, wPar_nil, wPar_cons, wS_par, wS_aug, wA_zip2, wA_zip3, wA_zipS, wA_seqIt, wA_range1, wA_range2, wA_enum, wS_for, seqK, lpK, rtK, rbK, wR_some, wB_some, wR_ite, mAnd, mOr, mNot, toD_d, toD_l, f1_one, f2_two, add_i, add_l, add_t, iadd_i, sub_i, mul_i, mul_l, mod_i, fdiv_w, fdOk_2, fdOk_64, fdOk_7, fdOk_m, na10, na2, at3_0, at3_1, at3_2, at2_0, at2_1, Mir.atI_last, ix3_0, ix3_1, ix3_2, pow_i, neg_i, len_l, len_t, abs_i, max2_i, min2_i, int_i, int_b, list_l, list_t, tuple_l, tuple_t, lt_i, le_i, gt_i, ge_i, eq_i, ne_i, eq_b, ne_b, eq_s, ne_s, sl_l, sl_t, src_l, src_t, revL_l, revT_l, slot_f, slot_l, wS_new, ix_l, ix_t, all_b, any_b, sum_l, dLst, dTup, setAll, ownAt, putOwn, frzE, boAt, wipeE, cut_map, cut_from1, cut_to1, List.getElem?_cons_zero, List.getElem?_cons_succ, List.set_cons_zero, List.set_cons_succ, Option.some.injEq, Sl.dt.injEq, Sl.ow.injEq, Sl.bo.injEq, Rv.d.injEq, Rv.l.injEq, PyData.int.injEq, PyData.bool.injEq, PyData.str.injEq, PyData.list.injEq, PyData.tuple.injEq, List.cons.injEq, exists_eq_left', exists_eq_left, exists_eq_right', exists_eq, exists_eq', exists_and_left, exists_const, and_true, true_and, and_assoc, Int.reduceLT, Int.reduceLE, Int.reducePow, Int.reduceToNat, Int.reduceNeg, Int.reduceMul, Int.reduceAdd, Int.reduceSub, Nat.reduceLT, Nat.reduceLeDiff, Nat.reducePow, Nat.reduceAdd, List.length_cons, List.length_nil, List.length_map, forall_const, decide_true, decide_false, Bool.not_true, Bool.not_false, Bool.false_eq_true, Bool.true_eq_false, false_implies, true_implies, reduceCtorEq, eq_self, eq_tI, ne_tI, eq_lI, ne_lI, all_T, wU_lst2, wU_lst3, sz_0, sz_1, sz_2, sz_3, sz_4, sz_5, sz_6, sz_7, sz_8, implies_true, revA_l, revA_t, isB_b, isntB_b, zRev_1, zRev_2, zRev_3, zRev_4, zRev_5, revS_l, revS_t, sumT_l, sumT_t, xW_seq, xW_if, xW_arg, xW_call, xW_raise, xW_raise0, xK, wE_xnone, wE_xfld, wE_xis, Sl.xt.injEq, Xt.exn.injEq, or_false, false_or, lk_hd, inCs_hd, mem_hd, false_and, and_false] <;> rfl) rfl (szl (by omega)) (fun x _ => by simp only [wE_var, wE_c, wE_1, wE_2, wA_nil, wA_cons, wE_A, wT_bool, wT_yes, wT_not, wT_and, wT_or, wE_ofT, wE_if, wE_chain, wO_no, wO_part, wE_sl, wE_isa, wE_ownLen, wE_ownIx, wE_app, wE_ext, wE_ins, wE_rg1, wE_rg2, wE_rev, wE_popAt, wE_pop, wS_putIx, wE_box, wE_boxNew, wS_seq, wS_nx, wS_ct, wS_bk, wS_set, wS_own, wS_ret, wS_drop, wS_if, wS_retO, wS_frz, wS_asg, wU_name, wUs_nil, wUs_cons, wU_tup2, wU_tup3, wPar_nil, wPar_cons, wS_par, wS_aug, wA_zip2, wA_zip3, wA_zipS, wA_seqIt, wA_range1, wA_range2, wA_enum, wS_for, seqK, lpK, rtK, rbK, wR_some, wB_some, wR_ite, mAnd, mOr, mNot, toD_d, toD_l, f1_one, f2_two, add_i, add_l, add_t, iadd_i, sub_i, mul_i, mul_l, mod_i, fdiv_w, fdOk_2, fdOk_64, fdOk_7, fdOk_m, na10, na2, at3_0, at3_1, at3_2, at2_0, at2_1, Mir.atI_last, ix3_0, ix3_1, ix3_2, pow_i, neg_i, len_l, len_t, abs_i, max2_i, min2_i, int_i, int_b, list_l, list_t, tuple_l, tuple_t, lt_i, le_i, gt_i, ge_i, eq_i, ne_i, eq_b, ne_b, eq_s, ne_s, sl_l, sl_t, src_l, src_t, revL_l, revT_l, slot_f, slot_l, wS_new, ix_l, ix_t, all_b, any_b, sum_l, dLst, dTup, setAll, ownAt, putOwn, frzE, boAt, wipeE, cut_map, cut_from1, cut_to1, List.getElem?_cons_zero, List.getElem?_cons_succ, List.set_cons_zero, List.set_cons_succ, Option.some.injEq, Sl.dt.injEq, Sl.ow.injEq, Sl.bo.injEq, Rv.d.injEq, Rv.l.injEq, PyData.int.injEq, PyData.bool.injEq, PyData.str.injEq, PyData.list.injEq, PyData.tuple.injEq, List.cons.injEq, exists_eq_left', exists_eq_left, exists_eq_right', exists_eq, exists_eq', exists_and_left, exists_const, and_true, true_and, and_assoc, Int.reduceLT, Int.reduceLE, Int.reducePow, Int.reduceToNat, Int.reduceNeg, Int.reduceMul, Int.reduceAdd, Int.reduceSub, Nat.reduceLT, Nat.reduceLeDiff, Nat.reducePow, Nat.reduceAdd, List.length_cons, List.length_nil, List.length_map, forall_const, decide_true, decide_false, Bool.not_true, Bool.not_false, Bool.false_eq_true, Bool.true_eq_false, false_implies, true_implies, reduceCtorEq, eq_self, eq_tI, ne_tI, eq_lI, ne_lI, all_T, wU_lst2, wU_lst3, sz_0, sz_1, sz_2, sz_3, sz_4, sz_5, sz_6, sz_7, sz_8, implies_true, revA_l, revA_t, isB_b, isntB_b, zRev_1, zRev_2, zRev_3, zRev_4, zRev_5, revS_l, revS_t, sumT_l, sumT_t, xW_seq, xW_if, xW_arg, xW_call, xW_raise, xW_raise0, xK, wE_xnone, wE_xfld, wE_xis, Sl.xt.injEq, Xt.exn.injEq, or_false, false_or, lk_hd, inCs_hd, mem_hd, false_and, and_false]) ?_
  have hI2 : f.map (fun x => PyData.int (-x)) = I (f.map (- ·)) := by rw [I, List.map_map]; rfl
  simp only [wE_var, wE_c, wE_1, wE_2, wA_nil, wA_cons, wE_A, wT_bool, wT_yes, wT_not, wT_and, wT_or, wE_ofT, wE_if, wE_chain, wO_no, wO_part, wE_sl, wE_isa, wE_ownLen, wE_ownIx, wE_app, wE_ext, wE_ins, wE_rg1, wE_rg2, wE_rev, wE_popAt, wE_pop, wS_putIx, wE_box, wE_boxNew, wS_seq, wS_nx, wS_ct, wS_bk, wS_set, wS_own, wS_ret, wS_drop, wS_if, wS_retO, wS_frz, wS_asg, wU_name, wUs_nil, wUs_cons, wU_tup2, wU_tup3, wPar_nil, wPar_cons, wS_par, wS_aug, wA_zip2, wA_zip3, wA_zipS, wA_seqIt, wA_range1, wA_range2, wA_enum, wS_for, seqK, lpK, rtK, rbK, wR_some, wB_some, wR_ite, mAnd, mOr, mNot, toD_d, toD_l, f1_one, f2_two, add_i, add_l, add_t, iadd_i, sub_i, mul_i, mul_l, mod_i, fdiv_w, fdOk_2, fdOk_64, fdOk_7, fdOk_m, na10, na2, at3_0, at3_1, at3_2, at2_0, at2_1, Mir.atI_last, ix3_0, ix3_1, ix3_2, pow_i, neg_i, len_l, len_t, abs_i, max2_i, min2_i, int_i, int_b, list_l, list_t, tuple_l, tuple_t, lt_i, le_i, gt_i, ge_i, eq_i, ne_i, eq_b, ne_b, eq_s, ne_s, sl_l, sl_t, src_l, src_t, revL_l, revT_l, slot_f, slot_l, wS_new, ix_l, ix_t, all_b, any_b, sum_l, dLst, dTup, setAll, ownAt, putOwn, frzE, boAt, wipeE, cut_map, cut_from1, cut_to1, List.getElem?_cons_zero, List.getElem?_cons_succ, List.set_cons_zero, List.set_cons_succ, Option.some.injEq, Sl.dt.injEq, Sl.ow.injEq, Sl.bo.injEq, Rv.d.injEq, Rv.l.injEq, PyData.int.injEq, PyData.bool.injEq, PyData.str.injEq, PyData.list.injEq, PyData.tuple.injEq, List.cons.injEq, exists_eq_left', exists_eq_left, exists_eq_right', exists_eq, exists_eq', exists_and_left, exists_const, and_true, true_and, and_assoc, Int.reduceLT, Int.reduceLE, Int.reducePow, Int.reduceToNat, Int.reduceNeg, Int.reduceMul, Int.reduceAdd, Int.reduceSub, Nat.reduceLT, Nat.reduceLeDiff, Nat.reducePow, Nat.reduceAdd, List.length_cons, List.length_nil, List.length_map, forall_const, decide_true, decide_false, Bool.not_true, Bool.not_false, Bool.false_eq_true, Bool.true_eq_false, false_implies, true_implies, reduceCtorEq, eq_self, eq_tI, ne_tI, eq_lI, ne_lI, all_T, wU_lst2, wU_lst3, sz_0, sz_1, sz_2, sz_3, sz_4, sz_5, sz_6, sz_7, sz_8, implies_true, revA_l, revA_t, isB_b, isntB_b, zRev_1, zRev_2, zRev_3, zRev_4, zRev_5, revS_l, revS_t, sumT_l, sumT_t, xW_seq, xW_if, xW_arg, xW_call, xW_raise, xW_raise0, xK, wE_xnone, wE_xfld, wE_xis, Sl.xt.injEq, Xt.exn.injEq, or_false, false_or, lk_hd, inCs_hd, mem_hd, false_and, and_false, hI2]
  unfold T_law_5
  have g3 : Gd 10 (.tuple (I f.reverse)) := gd_I (n := 9) (by rw [List.length_reverse]; omega)
  have g4 : Gd 10 (.tuple (I (f.map (- ·)))) := gd_I (n := 9) (by rw [List.length_map]; omega)
  refine w_guard ?_ ?_
  · simp only [wE_var, wE_c, wE_1, wE_2, wA_nil, wA_cons, wE_A, wT_bool, wT_yes, wT_not, wT_and, wT_or, wE_ofT, wE_if, wE_chain, wO_no, wO_part, wE_sl, wE_isa, wE_ownLen, wE_ownIx, wE_app, wE_ext, wE_ins, wE_rg1, wE_rg2, wE_rev, wE_popAt, wE_pop, wS_putIx, wE_box, wE_boxNew, wS_seq, wS_nx, wS_ct, wS_bk, wS_set, wS_own, wS_ret, wS_drop, wS_if, wS_retO, wS_frz, wS_asg, wU_name, wUs_nil, wUs_cons, wU_tup2, wU_tup3, wPar_nil, wPar_cons, wS_par, wS_aug, wA_zip2, wA_zip3, wA_zipS, wA_seqIt, wA_range1, wA_range2, wA_enum, wS_for, seqK, lpK, rtK, rbK, wR_some, wB_some, wR_ite, mAnd, mOr, mNot, toD_d, toD_l, f1_one, f2_two, add_i, add_l, add_t, iadd_i, sub_i, mul_i, mul_l, mod_i, fdiv_w, fdOk_2, fdOk_64, fdOk_7, fdOk_m, na10, na2, at3_0, at3_1, at3_2, at2_0, at2_1, Mir.atI_last, ix3_0, ix3_1, ix3_2, pow_i, neg_i, len_l, len_t, abs_i, max2_i, min2_i, int_i, int_b, list_l, list_t, tuple_l, tuple_t, lt_i, le_i, gt_i, ge_i, eq_i, ne_i, eq_b, ne_b, eq_s, ne_s, sl_l, sl_t, src_l, src_t, revL_l, revT_l, slot_f, slot_l, wS_new, ix_l, ix_t, all_b, any_b, sum_l, dLst, dTup, setAll, ownAt, putOwn, frzE, boAt, wipeE, cut_map, cut_from1, cut_to1, List.getElem?_cons_zero, List.getElem?_cons_succ, List.set_cons_zero, List.set_cons_succ, Option.some.injEq, Sl.dt.injEq, Sl.ow.injEq, Sl.bo.injEq, Rv.d.injEq, Rv.l.injEq, PyData.int.injEq, PyData.bool.injEq, PyData.str.injEq, PyData.list.injEq, PyData.tuple.injEq, List.cons.injEq, exists_eq_left', exists_eq_left, exists_eq_right', exists_eq, exists_eq', exists_and_left, exists_const, and_true, true_and, and_assoc, Int.reduceLT, Int.reduceLE, Int.reducePow, Int.reduceToNat, Int.reduceNeg, Int.reduceMul, Int.reduceAdd, Int.reduceSub, Nat.reduceLT, Nat.reduceLeDiff, Nat.reducePow, Nat.reduceAdd, List.length_cons, List.length_nil, List.length_map, forall_const, decide_true, decide_false, Bool.not_true, Bool.not_false, Bool.false_eq_true, Bool.true_eq_false, false_implies, true_implies, reduceCtorEq, eq_self, eq_tI, ne_tI, eq_lI, ne_lI, all_T, wU_lst2, wU_lst3, sz_0, sz_1, sz_2, sz_3, sz_4, sz_5, sz_6, sz_7, sz_8, implies_true, revA_l, revA_t, isB_b, isntB_b, zRev_1, zRev_2, zRev_3, zRev_4, zRev_5, revS_l, revS_t, sumT_l, sumT_t, xW_seq, xW_if, xW_arg, xW_call, xW_raise, xW_raise0, xK, wE_xnone, wE_xfld, wE_xis, Sl.xt.injEq, Xt.exn.injEq, or_false, false_or, lk_hd, inCs_hd, mem_hd, false_and, and_false]
    rw [show (List.map PyData.int f).reverse = I f.reverse from by rw [I, List.map_reverse]]
    refine wR_mono (same_g (gdl (by simp) (gda_cons g3 (gda_cons g3 (gda_cons g4 (gda_cons g4 (gda_cons g1 gda_nil))))))) ?_
    rintro _ ⟨b, rfl, hb⟩
    exact ⟨b, rfl, fun z => absurd (hb.symm.trans z) (by decide)⟩
  unfold T_law_4
  have gp : atI (I f) (p : Int) = some (.int (at' f p)) := by
    unfold atI ixN
    rw [if_pos (by omega), if_pos (by simp; omega)]
    simp only [Int.toNat_natCast]
    show (I f)[p]? = _
    rw [I, List.getElem?_map, List.getElem?_eq_getElem h, at_of h]
    rfl
  have cp : (p : Int) + 1 = ((p + 1 : Nat) : Int) := by omega
  have hc := cutm (r := r) h
  simp only [wE_var, wE_c, wE_1, wE_2, wA_nil, wA_cons, wE_A, wT_bool, wT_yes, wT_not, wT_and, wT_or, wE_ofT, wE_if, wE_chain, wO_no, wO_part, wE_sl, wE_isa, wE_ownLen, wE_ownIx, wE_app, wE_ext, wE_ins, wE_rg1, wE_rg2, wE_rev, wE_popAt, wE_pop, wS_putIx, wE_box, wE_boxNew, wS_seq, wS_nx, wS_ct, wS_bk, wS_set, wS_own, wS_ret, wS_drop, wS_if, wS_retO, wS_frz, wS_asg, wU_name, wUs_nil, wUs_cons, wU_tup2, wU_tup3, wPar_nil, wPar_cons, wS_par, wS_aug, wA_zip2, wA_zip3, wA_zipS, wA_seqIt, wA_range1, wA_range2, wA_enum, wS_for, seqK, lpK, rtK, rbK, wR_some, wB_some, wR_ite, mAnd, mOr, mNot, toD_d, toD_l, f1_one, f2_two, add_i, add_l, add_t, iadd_i, sub_i, mul_i, mul_l, mod_i, fdiv_w, fdOk_2, fdOk_64, fdOk_7, fdOk_m, na10, na2, at3_0, at3_1, at3_2, at2_0, at2_1, Mir.atI_last, ix3_0, ix3_1, ix3_2, pow_i, neg_i, len_l, len_t, abs_i, max2_i, min2_i, int_i, int_b, list_l, list_t, tuple_l, tuple_t, lt_i, le_i, gt_i, ge_i, eq_i, ne_i, eq_b, ne_b, eq_s, ne_s, sl_l, sl_t, src_l, src_t, revL_l, revT_l, slot_f, slot_l, wS_new, ix_l, ix_t, all_b, any_b, sum_l, dLst, dTup, setAll, ownAt, putOwn, frzE, boAt, wipeE, cut_map, cut_from1, cut_to1, List.getElem?_cons_zero, List.getElem?_cons_succ, List.set_cons_zero, List.set_cons_succ, Option.some.injEq, Sl.dt.injEq, Sl.ow.injEq, Sl.bo.injEq, Rv.d.injEq, Rv.l.injEq, PyData.int.injEq, PyData.bool.injEq, PyData.str.injEq, PyData.list.injEq, PyData.tuple.injEq, List.cons.injEq, exists_eq_left', exists_eq_left, exists_eq_right', exists_eq, exists_eq', exists_and_left, exists_const, and_true, true_and, and_assoc, Int.reduceLT, Int.reduceLE, Int.reducePow, Int.reduceToNat, Int.reduceNeg, Int.reduceMul, Int.reduceAdd, Int.reduceSub, Nat.reduceLT, Nat.reduceLeDiff, Nat.reducePow, Nat.reduceAdd, List.length_cons, List.length_nil, List.length_map, forall_const, decide_true, decide_false, Bool.not_true, Bool.not_false, Bool.false_eq_true, Bool.true_eq_false, false_implies, true_implies, reduceCtorEq, eq_self, eq_tI, ne_tI, eq_lI, ne_lI, all_T, wU_lst2, wU_lst3, sz_0, sz_1, sz_2, sz_3, sz_4, sz_5, sz_6, sz_7, sz_8, implies_true, revA_l, revA_t, isB_b, isntB_b, zRev_1, zRev_2, zRev_3, zRev_4, zRev_5, revS_l, revS_t, sumT_l, sumT_t, xW_seq, xW_if, xW_arg, xW_call, xW_raise, xW_raise0, xK, wE_xnone, wE_xfld, wE_xis, Sl.xt.injEq, Xt.exn.injEq, or_false, false_or, lk_hd, inCs_hd, mem_hd, false_and, and_false, gp, cp, cut_to _ (show p ≤ (I f).length by simp; omega), cut_from _ (show p + 1 ≤ (I f).length by simp; omega)]
  rw [← List.map_take, ← List.map_drop, hc]
  refine ⟨szl (by simp; omega), szl (by simp; omega), ?_⟩
  unfold T_law_3
  have h2 : p < (hnd f p r).length := by rw [hnd_len]; exact h
  simp only [wE_var, wE_c, wE_1, wE_2, wA_nil, wA_cons, wE_A, wT_bool, wT_yes, wT_not, wT_and, wT_or, wE_ofT, wE_if, wE_chain, wO_no, wO_part, wE_sl, wE_isa, wE_ownLen, wE_ownIx, wE_app, wE_ext, wE_ins, wE_rg1, wE_rg2, wE_rev, wE_popAt, wE_pop, wS_putIx, wE_box, wE_boxNew, wS_seq, wS_nx, wS_ct, wS_bk, wS_set, wS_own, wS_ret, wS_drop, wS_if, wS_retO, wS_frz, wS_asg, wU_name, wUs_nil, wUs_cons, wU_tup2, wU_tup3, wPar_nil, wPar_cons, wS_par, wS_aug, wA_zip2, wA_zip3, wA_zipS, wA_seqIt, wA_range1, wA_range2, wA_enum, wS_for, seqK, lpK, rtK, rbK, wR_some, wB_some, wR_ite, mAnd, mOr, mNot, toD_d, toD_l, f1_one, f2_two, add_i, add_l, add_t, iadd_i, sub_i, mul_i, mul_l, mod_i, fdiv_w, fdOk_2, fdOk_64, fdOk_7, fdOk_m, na10, na2, at3_0, at3_1, at3_2, at2_0, at2_1, Mir.atI_last, ix3_0, ix3_1, ix3_2, pow_i, neg_i, len_l, len_t, abs_i, max2_i, min2_i, int_i, int_b, list_l, list_t, tuple_l, tuple_t, lt_i, le_i, gt_i, ge_i, eq_i, ne_i, eq_b, ne_b, eq_s, ne_s, sl_l, sl_t, src_l, src_t, revL_l, revT_l, slot_f, slot_l, wS_new, ix_l, ix_t, all_b, any_b, sum_l, dLst, dTup, setAll, ownAt, putOwn, frzE, boAt, wipeE, cut_map, cut_from1, cut_to1, List.getElem?_cons_zero, List.getElem?_cons_succ, List.set_cons_zero, List.set_cons_succ, Option.some.injEq, Sl.dt.injEq, Sl.ow.injEq, Sl.bo.injEq, Rv.d.injEq, Rv.l.injEq, PyData.int.injEq, PyData.bool.injEq, PyData.str.injEq, PyData.list.injEq, PyData.tuple.injEq, List.cons.injEq, exists_eq_left', exists_eq_left, exists_eq_right', exists_eq, exists_eq', exists_and_left, exists_const, and_true, true_and, and_assoc, Int.reduceLT, Int.reduceLE, Int.reducePow, Int.reduceToNat, Int.reduceNeg, Int.reduceMul, Int.reduceAdd, Int.reduceSub, Nat.reduceLT, Nat.reduceLeDiff, Nat.reducePow, Nat.reduceAdd, List.length_cons, List.length_nil, List.length_map, forall_const, decide_true, decide_false, Bool.not_true, Bool.not_false, Bool.false_eq_true, Bool.true_eq_false, false_implies, true_implies, reduceCtorEq, eq_self, eq_tI, ne_tI, eq_lI, ne_lI, all_T, wU_lst2, wU_lst3, sz_0, sz_1, sz_2, sz_3, sz_4, sz_5, sz_6, sz_7, sz_8, implies_true, revA_l, revA_t, isB_b, isntB_b, zRev_1, zRev_2, zRev_3, zRev_4, zRev_5, revS_l, revS_t, sumT_l, sumT_t, xW_seq, xW_if, xW_arg, xW_call, xW_raise, xW_raise0, xK, wE_xnone, wE_xfld, wE_xis, Sl.xt.injEq, Xt.exn.injEq, or_false, false_or, lk_hd, inCs_hd, mem_hd, false_and, and_false, handed_any (b := r) (Dn.l (f := f)) h (by omega), handed_any (b := r) (Dn.t (f := f)) h (by omega), handed_any (b := -r) (Dn.t (f := hnd f p r)) h2 (by rw [hnd_len]; omega), hnd_back h]
  unfold T_law_2
  have g5 : Gd 10 (.tuple (I (hnd f p r))) := gd_I (n := 9) (by rw [hnd_len]; omega)
  refine w_guard ?_ ?_
  · simp only [wE_var, wE_c, wE_1, wE_2, wA_nil, wA_cons, wE_A, wT_bool, wT_yes, wT_not, wT_and, wT_or, wE_ofT, wE_if, wE_chain, wO_no, wO_part, wE_sl, wE_isa, wE_ownLen, wE_ownIx, wE_app, wE_ext, wE_ins, wE_rg1, wE_rg2, wE_rev, wE_popAt, wE_pop, wS_putIx, wE_box, wE_boxNew, wS_seq, wS_nx, wS_ct, wS_bk, wS_set, wS_own, wS_ret, wS_drop, wS_if, wS_retO, wS_frz, wS_asg, wU_name, wUs_nil, wUs_cons, wU_tup2, wU_tup3, wPar_nil, wPar_cons, wS_par, wS_aug, wA_zip2, wA_zip3, wA_zipS, wA_seqIt, wA_range1, wA_range2, wA_enum, wS_for, seqK, lpK, rtK, rbK, wR_some, wB_some, wR_ite, mAnd, mOr, mNot, toD_d, toD_l, f1_one, f2_two, add_i, add_l, add_t, iadd_i, sub_i, mul_i, mul_l, mod_i, fdiv_w, fdOk_2, fdOk_64, fdOk_7, fdOk_m, na10, na2, at3_0, at3_1, at3_2, at2_0, at2_1, Mir.atI_last, ix3_0, ix3_1, ix3_2, pow_i, neg_i, len_l, len_t, abs_i, max2_i, min2_i, int_i, int_b, list_l, list_t, tuple_l, tuple_t, lt_i, le_i, gt_i, ge_i, eq_i, ne_i, eq_b, ne_b, eq_s, ne_s, sl_l, sl_t, src_l, src_t, revL_l, revT_l, slot_f, slot_l, wS_new, ix_l, ix_t, all_b, any_b, sum_l, dLst, dTup, setAll, ownAt, putOwn, frzE, boAt, wipeE, cut_map, cut_from1, cut_to1, List.getElem?_cons_zero, List.getElem?_cons_succ, List.set_cons_zero, List.set_cons_succ, Option.some.injEq, Sl.dt.injEq, Sl.ow.injEq, Sl.bo.injEq, Rv.d.injEq, Rv.l.injEq, PyData.int.injEq, PyData.bool.injEq, PyData.str.injEq, PyData.list.injEq, PyData.tuple.injEq, List.cons.injEq, exists_eq_left', exists_eq_left, exists_eq_right', exists_eq, exists_eq', exists_and_left, exists_const, and_true, true_and, and_assoc, Int.reduceLT, Int.reduceLE, Int.reducePow, Int.reduceToNat, Int.reduceNeg, Int.reduceMul, Int.reduceAdd, Int.reduceSub, Nat.reduceLT, Nat.reduceLeDiff, Nat.reducePow, Nat.reduceAdd, List.length_cons, List.length_nil, List.length_map, forall_const, decide_true, decide_false, Bool.not_true, Bool.not_false, Bool.false_eq_true, Bool.true_eq_false, false_implies, true_implies, reduceCtorEq, eq_self, eq_tI, ne_tI, eq_lI, ne_lI, all_T, wU_lst2, wU_lst3, sz_0, sz_1, sz_2, sz_3, sz_4, sz_5, sz_6, sz_7, sz_8, implies_true, revA_l, revA_t, isB_b, isntB_b, zRev_1, zRev_2, zRev_3, zRev_4, zRev_5, revS_l, revS_t, sumT_l, sumT_t, xW_seq, xW_if, xW_arg, xW_call, xW_raise, xW_raise0, xK, wE_xnone, wE_xfld, wE_xis, Sl.xt.injEq, Xt.exn.injEq, or_false, false_or, lk_hd, inCs_hd, mem_hd, false_and, and_false]
    exact same_g (gdl (by simp) (gda_cons g5 (gda_cons g5 (gda_cons g1 gda_nil))))
  unfold T_law_1
  refine w_guard ?_ ?_
  · simp only [wE_var, wE_c, wE_1, wE_2, wA_nil, wA_cons, wE_A, wT_bool, wT_yes, wT_not, wT_and, wT_or, wE_ofT, wE_if, wE_chain, wO_no, wO_part, wE_sl, wE_isa, wE_ownLen, wE_ownIx, wE_app, wE_ext, wE_ins, wE_rg1, wE_rg2, wE_rev, wE_popAt, wE_pop, wS_putIx, wE_box, wE_boxNew, wS_seq, wS_nx, wS_ct, wS_bk, wS_set, wS_own, wS_ret, wS_drop, wS_if, wS_retO, wS_frz, wS_asg, wU_name, wUs_nil, wUs_cons, wU_tup2, wU_tup3, wPar_nil, wPar_cons, wS_par, wS_aug, wA_zip2, wA_zip3, wA_zipS, wA_seqIt, wA_range1, wA_range2, wA_enum, wS_for, seqK, lpK, rtK, rbK, wR_some, wB_some, wR_ite, mAnd, mOr, mNot, toD_d, toD_l, f1_one, f2_two, add_i, add_l, add_t, iadd_i, sub_i, mul_i, mul_l, mod_i, fdiv_w, fdOk_2, fdOk_64, fdOk_7, fdOk_m, na10, na2, at3_0, at3_1, at3_2, at2_0, at2_1, Mir.atI_last, ix3_0, ix3_1, ix3_2, pow_i, neg_i, len_l, len_t, abs_i, max2_i, min2_i, int_i, int_b, list_l, list_t, tuple_l, tuple_t, lt_i, le_i, gt_i, ge_i, eq_i, ne_i, eq_b, ne_b, eq_s, ne_s, sl_l, sl_t, src_l, src_t, revL_l, revT_l, slot_f, slot_l, wS_new, ix_l, ix_t, all_b, any_b, sum_l, dLst, dTup, setAll, ownAt, putOwn, frzE, boAt, wipeE, cut_map, cut_from1, cut_to1, List.getElem?_cons_zero, List.getElem?_cons_succ, List.set_cons_zero, List.set_cons_succ, Option.some.injEq, Sl.dt.injEq, Sl.ow.injEq, Sl.bo.injEq, Rv.d.injEq, Rv.l.injEq, PyData.int.injEq, PyData.bool.injEq, PyData.str.injEq, PyData.list.injEq, PyData.tuple.injEq, List.cons.injEq, exists_eq_left', exists_eq_left, exists_eq_right', exists_eq, exists_eq', exists_and_left, exists_const, and_true, true_and, and_assoc, Int.reduceLT, Int.reduceLE, Int.reducePow, Int.reduceToNat, Int.reduceNeg, Int.reduceMul, Int.reduceAdd, Int.reduceSub, Nat.reduceLT, Nat.reduceLeDiff, Nat.reducePow, Nat.reduceAdd, List.length_cons, List.length_nil, List.length_map, forall_const, decide_true, decide_false, Bool.not_true, Bool.not_false, Bool.false_eq_true, Bool.true_eq_false, false_implies, true_implies, reduceCtorEq, eq_self, eq_tI, ne_tI, eq_lI, ne_lI, all_T, wU_lst2, wU_lst3, sz_0, sz_1, sz_2, sz_3, sz_4, sz_5, sz_6, sz_7, sz_8, implies_true, revA_l, revA_t, isB_b, isntB_b, zRev_1, zRev_2, zRev_3, zRev_4, zRev_5, revS_l, revS_t, sumT_l, sumT_t, xW_seq, xW_if, xW_arg, xW_call, xW_raise, xW_raise0, xK, wE_xnone, wE_xfld, wE_xis, Sl.xt.injEq, Xt.exn.injEq, or_false, false_or, lk_hd, inCs_hd, mem_hd, false_and, and_false]
    have hz : 0 < f.length := List.length_pos_iff.mpr f0
    refine wE_pure (zs := [(-1 : Int), (f.length : Int), 100000000000000000000, -(f.length : Int)]) PyData.int (fun _ => .bool true) (by simp only [wE_var, wE_c, wE_1, wE_2, wA_nil, wA_cons, wE_A, wT_bool, wT_yes, wT_not, wT_and, wT_or, wE_ofT, wE_if, wE_chain, wO_no, wO_part, wE_sl, wE_isa, wE_ownLen, wE_ownIx, wE_app, wE_ext, wE_ins, wE_rg1, wE_rg2, wE_rev, wE_popAt, wE_pop, wS_putIx, wE_box, wE_boxNew, wS_seq, wS_nx, wS_ct, wS_bk, wS_set, wS_own, wS_ret, wS_drop, wS_if, wS_retO, wS_frz, wS_asg, wU_name, wUs_nil, wUs_cons, wU_tup2, wU_tup3, wPar_nil, wPar_cons, wS_par, wS_aug, wA_zip2, wA_zip3, wA_zipS, wA_seqIt, wA_range1, wA_range2, wA_enum, wS_for, seqK, lpK, rtK, rbK, wR_some, wB_some, wR_ite, mAnd, mOr, mNot, toD_d, toD_l, f1_one, f2_two, add_i, add_l, add_t, iadd_i, sub_i, mul_i, mul_l, mod_i, fdiv_w, fdOk_2, fdOk_64, fdOk_7, fdOk_m, na10, na2, at3_0, at3_1, at3_2, at2_0, at2_1, Mir.atI_last, ix3_0, ix3_1, ix3_2, pow_i, neg_i, len_l, len_t, abs_i, max2_i, min2_i, int_i, int_b, list_l, list_t, tuple_l, tuple_t, lt_i, le_i, gt_i, ge_i, eq_i, ne_i, eq_b, ne_b, eq_s, ne_s, sl_l, sl_t, src_l, src_t, revL_l, revT_l, slot_f, slot_l, wS_new, ix_l, ix_t, all_b, any_b, sum_l, dLst, dTup, setAll, ownAt, putOwn, frzE, boAt, wipeE, cut_map, cut_from1, cut_to1, List.getElem?_cons_zero, List.getElem?_cons_succ, List.set_cons_zero, List.set_cons_succ, Option.some.injEq, Sl.dt.injEq, Sl.ow.injEq, Sl.bo.injEq, Rv.d.injEq, Rv.l.injEq, PyData.int.injEq, PyData.bool.injEq, PyData.str.injEq, PyData.list.injEq, PyData.tuple.injEq, List.cons.injEq, exists_eq_left', exists_eq_left, exists_eq_right', exists_eq, exists_eq', exists_and_left, exists_const, and_true, true_and, and_assoc, Int.reduceLT, Int.reduceLE, Int.reducePow, Int.reduceToNat, Int.reduceNeg, Int.reduceMul, Int.reduceAdd, Int.reduceSub, Nat.reduceLT, Nat.reduceLeDiff, Nat.reducePow, Nat.reduceAdd, List.length_cons, List.length_nil, List.length_map, forall_const, decide_true, decide_false, Bool.not_true, Bool.not_false, Bool.false_eq_true, Bool.true_eq_false, false_implies, true_implies, reduceCtorEq, eq_self, eq_tI, ne_tI, eq_lI, ne_lI, all_T, wU_lst2, wU_lst3, sz_0, sz_1, sz_2, sz_3, sz_4, sz_5, sz_6, sz_7, sz_8, implies_true, revA_l, revA_t, isB_b, isntB_b, zRev_1, zRev_2, zRev_3, zRev_4, zRev_5, revS_l, revS_t, sumT_l, sumT_t, xW_seq, xW_if, xW_arg, xW_call, xW_raise, xW_raise0, xK, wE_xnone, wE_xfld, wE_xis, Sl.xt.injEq, Xt.exn.injEq, or_false, false_or, lk_hd, inCs_hd, mem_hd, false_and, and_false] <;> exact ⟨rfl, rfl⟩) rfl (szl (by simp)) (fun x hx => ?_) ?_
    · have hx : ¬ (0 ≤ x ∧ x < f.length) := by
        simp only [List.mem_cons, List.not_mem_nil, or_false] at hx
        rcases hx with rfl | rfl | rfl | rfl <;> omega
      simp only [wE_var, wE_c, wE_1, wE_2, wA_nil, wA_cons, wE_A, wT_bool, wT_yes, wT_not, wT_and, wT_or, wE_ofT, wE_if, wE_chain, wO_no, wO_part, wE_sl, wE_isa, wE_ownLen, wE_ownIx, wE_app, wE_ext, wE_ins, wE_rg1, wE_rg2, wE_rev, wE_popAt, wE_pop, wS_putIx, wE_box, wE_boxNew, wS_seq, wS_nx, wS_ct, wS_bk, wS_set, wS_own, wS_ret, wS_drop, wS_if, wS_retO, wS_frz, wS_asg, wU_name, wUs_nil, wUs_cons, wU_tup2, wU_tup3, wPar_nil, wPar_cons, wS_par, wS_aug, wA_zip2, wA_zip3, wA_zipS, wA_seqIt, wA_range1, wA_range2, wA_enum, wS_for, seqK, lpK, rtK, rbK, wR_some, wB_some, wR_ite, mAnd, mOr, mNot, toD_d, toD_l, f1_one, f2_two, add_i, add_l, add_t, iadd_i, sub_i, mul_i, mul_l, mod_i, fdiv_w, fdOk_2, fdOk_64, fdOk_7, fdOk_m, na10, na2, at3_0, at3_1, at3_2, at2_0, at2_1, Mir.atI_last, ix3_0, ix3_1, ix3_2, pow_i, neg_i, len_l, len_t, abs_i, max2_i, min2_i, int_i, int_b, list_l, list_t, tuple_l, tuple_t, lt_i, le_i, gt_i, ge_i, eq_i, ne_i, eq_b, ne_b, eq_s, ne_s, sl_l, sl_t, src_l, src_t, revL_l, revT_l, slot_f, slot_l, wS_new, ix_l, ix_t, all_b, any_b, sum_l, dLst, dTup, setAll, ownAt, putOwn, frzE, boAt, wipeE, cut_map, cut_from1, cut_to1, List.getElem?_cons_zero, List.getElem?_cons_succ, List.set_cons_zero, List.set_cons_succ, Option.some.injEq, Sl.dt.injEq, Sl.ow.injEq, Sl.bo.injEq, Rv.d.injEq, Rv.l.injEq, PyData.int.injEq, PyData.bool.injEq, PyData.str.injEq, PyData.list.injEq, PyData.tuple.injEq, List.cons.injEq, exists_eq_left', exists_eq_left, exists_eq_right', exists_eq, exists_eq', exists_and_left, exists_const, and_true, true_and, and_assoc, Int.reduceLT, Int.reduceLE, Int.reducePow, Int.reduceToNat, Int.reduceNeg, Int.reduceMul, Int.reduceAdd, Int.reduceSub, Nat.reduceLT, Nat.reduceLeDiff, Nat.reducePow, Nat.reduceAdd, List.length_cons, List.length_nil, List.length_map, forall_const, decide_true, decide_false, Bool.not_true, Bool.not_false, Bool.false_eq_true, Bool.true_eq_false, false_implies, true_implies, reduceCtorEq, eq_self, eq_tI, ne_tI, eq_lI, ne_lI, all_T, wU_lst2, wU_lst3, sz_0, sz_1, sz_2, sz_3, sz_4, sz_5, sz_6, sz_7, sz_8, implies_true, revA_l, revA_t, isB_b, isntB_b, zRev_1, zRev_2, zRev_3, zRev_4, zRev_5, revS_l, revS_t, sumT_l, sumT_t, xW_seq, xW_if, xW_arg, xW_call, xW_raise, xW_raise0, xK, wE_xnone, wE_xfld, wE_xis, Sl.xt.injEq, Xt.exn.injEq, or_false, false_or, lk_hd, inCs_hd, mem_hd, false_and, and_false, refused_ok hx]
    · show wR (allD (.list ([true, true, true, true].map .bool))) _
      simp only [wE_var, wE_c, wE_1, wE_2, wA_nil, wA_cons, wE_A, wT_bool, wT_yes, wT_not, wT_and, wT_or, wE_ofT, wE_if, wE_chain, wO_no, wO_part, wE_sl, wE_isa, wE_ownLen, wE_ownIx, wE_app, wE_ext, wE_ins, wE_rg1, wE_rg2, wE_rev, wE_popAt, wE_pop, wS_putIx, wE_box, wE_boxNew, wS_seq, wS_nx, wS_ct, wS_bk, wS_set, wS_own, wS_ret, wS_drop, wS_if, wS_retO, wS_frz, wS_asg, wU_name, wUs_nil, wUs_cons, wU_tup2, wU_tup3, wPar_nil, wPar_cons, wS_par, wS_aug, wA_zip2, wA_zip3, wA_zipS, wA_seqIt, wA_range1, wA_range2, wA_enum, wS_for, seqK, lpK, rtK, rbK, wR_some, wB_some, wR_ite, mAnd, mOr, mNot, toD_d, toD_l, f1_one, f2_two, add_i, add_l, add_t, iadd_i, sub_i, mul_i, mul_l, mod_i, fdiv_w, fdOk_2, fdOk_64, fdOk_7, fdOk_m, na10, na2, at3_0, at3_1, at3_2, at2_0, at2_1, Mir.atI_last, ix3_0, ix3_1, ix3_2, pow_i, neg_i, len_l, len_t, abs_i, max2_i, min2_i, int_i, int_b, list_l, list_t, tuple_l, tuple_t, lt_i, le_i, gt_i, ge_i, eq_i, ne_i, eq_b, ne_b, eq_s, ne_s, sl_l, sl_t, src_l, src_t, revL_l, revT_l, slot_f, slot_l, wS_new, ix_l, ix_t, all_b, any_b, sum_l, dLst, dTup, setAll, ownAt, putOwn, frzE, boAt, wipeE, cut_map, cut_from1, cut_to1, List.getElem?_cons_zero, List.getElem?_cons_succ, List.set_cons_zero, List.set_cons_succ, Option.some.injEq, Sl.dt.injEq, Sl.ow.injEq, Sl.bo.injEq, Rv.d.injEq, Rv.l.injEq, PyData.int.injEq, PyData.bool.injEq, PyData.str.injEq, PyData.list.injEq, PyData.tuple.injEq, List.cons.injEq, exists_eq_left', exists_eq_left, exists_eq_right', exists_eq, exists_eq', exists_and_left, exists_const, and_true, true_and, and_assoc, Int.reduceLT, Int.reduceLE, Int.reducePow, Int.reduceToNat, Int.reduceNeg, Int.reduceMul, Int.reduceAdd, Int.reduceSub, Nat.reduceLT, Nat.reduceLeDiff, Nat.reducePow, Nat.reduceAdd, List.length_cons, List.length_nil, List.length_map, forall_const, decide_true, decide_false, Bool.not_true, Bool.not_false, Bool.false_eq_true, Bool.true_eq_false, false_implies, true_implies, reduceCtorEq, eq_self, eq_tI, ne_tI, eq_lI, ne_lI, all_T, wU_lst2, wU_lst3, sz_0, sz_1, sz_2, sz_3, sz_4, sz_5, sz_6, sz_7, sz_8, implies_true, revA_l, revA_t, isB_b, isntB_b, zRev_1, zRev_2, zRev_3, zRev_4, zRev_5, revS_l, revS_t, sumT_l, sumT_t, xW_seq, xW_if, xW_arg, xW_call, xW_raise, xW_raise0, xK, wE_xnone, wE_xfld, wE_xis, Sl.xt.injEq, Xt.exn.injEq, or_false, false_or, lk_hd, inCs_hd, mem_hd, false_and, and_false]
      decide
  · simp only [wE_var, wE_c, wE_1, wE_2, wA_nil, wA_cons, wE_A, wT_bool, wT_yes, wT_not, wT_and, wT_or, wE_ofT, wE_if, wE_chain, wO_no, wO_part, wE_sl, wE_isa, wE_ownLen, wE_ownIx, wE_app, wE_ext, wE_ins, wE_rg1, wE_rg2, wE_rev, wE_popAt, wE_pop, wS_putIx, wE_box, wE_boxNew, wS_seq, wS_nx, wS_ct, wS_bk, wS_set, wS_own, wS_ret, wS_drop, wS_if, wS_retO, wS_frz, wS_asg, wU_name, wUs_nil, wUs_cons, wU_tup2, wU_tup3, wPar_nil, wPar_cons, wS_par, wS_aug, wA_zip2, wA_zip3, wA_zipS, wA_seqIt, wA_range1, wA_range2, wA_enum, wS_for, seqK, lpK, rtK, rbK, wR_some, wB_some, wR_ite, mAnd, mOr, mNot, toD_d, toD_l, f1_one, f2_two, add_i, add_l, add_t, iadd_i, sub_i, mul_i, mul_l, mod_i, fdiv_w, fdOk_2, fdOk_64, fdOk_7, fdOk_m, na10, na2, at3_0, at3_1, at3_2, at2_0, at2_1, Mir.atI_last, ix3_0, ix3_1, ix3_2, pow_i, neg_i, len_l, len_t, abs_i, max2_i, min2_i, int_i, int_b, list_l, list_t, tuple_l, tuple_t, lt_i, le_i, gt_i, ge_i, eq_i, ne_i, eq_b, ne_b, eq_s, ne_s, sl_l, sl_t, src_l, src_t, revL_l, revT_l, slot_f, slot_l, wS_new, ix_l, ix_t, all_b, any_b, sum_l, dLst, dTup, setAll, ownAt, putOwn, frzE, boAt, wipeE, cut_map, cut_from1, cut_to1, List.getElem?_cons_zero, List.getElem?_cons_succ, List.set_cons_zero, List.set_cons_succ, Option.some.injEq, Sl.dt.injEq, Sl.ow.injEq, Sl.bo.injEq, Rv.d.injEq, Rv.l.injEq, PyData.int.injEq, PyData.bool.injEq, PyData.str.injEq, PyData.list.injEq, PyData.tuple.injEq, List.cons.injEq, exists_eq_left', exists_eq_left, exists_eq_right', exists_eq, exists_eq', exists_and_left, exists_const, and_true, true_and, and_assoc, Int.reduceLT, Int.reduceLE, Int.reducePow, Int.reduceToNat, Int.reduceNeg, Int.reduceMul, Int.reduceAdd, Int.reduceSub, Nat.reduceLT, Nat.reduceLeDiff, Nat.reducePow, Nat.reduceAdd, List.length_cons, List.length_nil, List.length_map, forall_const, decide_true, decide_false, Bool.not_true, Bool.not_false, Bool.false_eq_true, Bool.true_eq_false, false_implies, true_implies, reduceCtorEq, eq_self, eq_tI, ne_tI, eq_lI, ne_lI, all_T, wU_lst2, wU_lst3, sz_0, sz_1, sz_2, sz_3, sz_4, sz_5, sz_6, sz_7, sz_8, implies_true, revA_l, revA_t, isB_b, isntB_b, zRev_1, zRev_2, zRev_3, zRev_4, zRev_5, revS_l, revS_t, sumT_l, sumT_t, xW_seq, xW_if, xW_arg, xW_call, xW_raise, xW_raise0, xK, wE_xnone, wE_xfld, wE_xis, Sl.xt.injEq, Xt.exn.injEq, or_false, false_or, lk_hd, inCs_hd, mem_hd, false_and, and_false]
    exact k _ ⟨_, _, _, _, _, _, _, _, rfl⟩
theorem all_ok {N : Nat} {b : List D} {s0 s1 a3 a4 a5 a6 a7 a8 a9 a10 : Sl} {PS : Fl → MEnv → Prop} (hb : Bx N b) (hN : N ≤ 2 ^ 36) (k : ∀ e, Fin_ (N + 20000) s0 s1 e → PS .nx e) :
    wS T_law_14 [s0, s1, .ow b, a3, a4, a5, a6, a7, a8, a9, a10, .un, .un] PS := by
  unfold T_law_14
  simp only [wE_var, wE_c, wE_1, wE_2, wA_nil, wA_cons, wE_A, wT_bool, wT_yes, wT_not, wT_and, wT_or, wE_ofT, wE_if, wE_chain, wO_no, wO_part, wE_sl, wE_isa, wE_ownLen, wE_ownIx, wE_app, wE_ext, wE_ins, wE_rg1, wE_rg2, wE_rev, wE_popAt, wE_pop, wS_putIx, wE_box, wE_boxNew, wS_seq, wS_nx, wS_ct, wS_bk, wS_set, wS_own, wS_ret, wS_drop, wS_if, wS_retO, wS_frz, wS_asg, wU_name, wUs_nil, wUs_cons, wU_tup2, wU_tup3, wPar_nil, wPar_cons, wS_par, wS_aug, wA_zip2, wA_zip3, wA_zipS, wA_seqIt, wA_range1, wA_range2, wA_enum, wS_for, seqK, lpK, rtK, rbK, wR_some, wB_some, wR_ite, mAnd, mOr, mNot, toD_d, toD_l, f1_one, f2_two, add_i, add_l, add_t, iadd_i, sub_i, mul_i, mul_l, mod_i, fdiv_w, fdOk_2, fdOk_64, fdOk_7, fdOk_m, na10, na2, at3_0, at3_1, at3_2, at2_0, at2_1, Mir.atI_last, ix3_0, ix3_1, ix3_2, pow_i, neg_i, len_l, len_t, abs_i, max2_i, min2_i, int_i, int_b, list_l, list_t, tuple_l, tuple_t, lt_i, le_i, gt_i, ge_i, eq_i, ne_i, eq_b, ne_b, eq_s, ne_s, sl_l, sl_t, src_l, src_t, revL_l, revT_l, slot_f, slot_l, wS_new, ix_l, ix_t, all_b, any_b, sum_l, dLst, dTup, setAll, ownAt, putOwn, frzE, boAt, wipeE, cut_map, cut_from1, cut_to1, List.getElem?_cons_zero, List.getElem?_cons_succ, List.set_cons_zero, List.set_cons_succ, Option.some.injEq, Sl.dt.injEq, Sl.ow.injEq, Sl.bo.injEq, Rv.d.injEq, Rv.l.injEq, PyData.int.injEq, PyData.bool.injEq, PyData.str.injEq, PyData.list.injEq, PyData.tuple.injEq, List.cons.injEq, exists_eq_left', exists_eq_left, exists_eq_right', exists_eq, exists_eq', exists_and_left, exists_const, and_true, true_and, and_assoc, Int.reduceLT, Int.reduceLE, Int.reducePow, Int.reduceToNat, Int.reduceNeg, Int.reduceMul, Int.reduceAdd, Int.reduceSub, Nat.reduceLT, Nat.reduceLeDiff, Nat.reducePow, Nat.reduceAdd, List.length_cons, List.length_nil, List.length_map, forall_const, decide_true, decide_false, Bool.not_true, Bool.not_false, Bool.false_eq_true, Bool.true_eq_false, false_implies, true_implies, reduceCtorEq, eq_self, eq_tI, ne_tI, eq_lI, ne_lI, all_T, wU_lst2, wU_lst3, sz_0, sz_1, sz_2, sz_3, sz_4, sz_5, sz_6, sz_7, sz_8, implies_true, revA_l, revA_t, isB_b, isntB_b, zRev_1, zRev_2, zRev_3, zRev_4, zRev_5, revS_l, revS_t, sumT_l, sumT_t, xW_seq, xW_if, xW_arg, xW_call, xW_raise, xW_raise0, xK, wE_xnone, wE_xfld, wE_xis, Sl.xt.injEq, Xt.exn.injEq, or_false, false_or, lk_hd, inCs_hd, mem_hd, false_and, and_false]
  refine wB_mono (dune_ok hb (by omega) (by omega) (by omega)) ?_
  rintro _ ys ⟨f, rfl, f0, f1, f2, hy⟩
  simp only [wE_var, wE_c, wE_1, wE_2, wA_nil, wA_cons, wE_A, wT_bool, wT_yes, wT_not, wT_and, wT_or, wE_ofT, wE_if, wE_chain, wO_no, wO_part, wE_sl, wE_isa, wE_ownLen, wE_ownIx, wE_app, wE_ext, wE_ins, wE_rg1, wE_rg2, wE_rev, wE_popAt, wE_pop, wS_putIx, wE_box, wE_boxNew, wS_seq, wS_nx, wS_ct, wS_bk, wS_set, wS_own, wS_ret, wS_drop, wS_if, wS_retO, wS_frz, wS_asg, wU_name, wUs_nil, wUs_cons, wU_tup2, wU_tup3, wPar_nil, wPar_cons, wS_par, wS_aug, wA_zip2, wA_zip3, wA_zipS, wA_seqIt, wA_range1, wA_range2, wA_enum, wS_for, seqK, lpK, rtK, rbK, wR_some, wB_some, wR_ite, mAnd, mOr, mNot, toD_d, toD_l, f1_one, f2_two, add_i, add_l, add_t, iadd_i, sub_i, mul_i, mul_l, mod_i, fdiv_w, fdOk_2, fdOk_64, fdOk_7, fdOk_m, na10, na2, at3_0, at3_1, at3_2, at2_0, at2_1, Mir.atI_last, ix3_0, ix3_1, ix3_2, pow_i, neg_i, len_l, len_t, abs_i, max2_i, min2_i, int_i, int_b, list_l, list_t, tuple_l, tuple_t, lt_i, le_i, gt_i, ge_i, eq_i, ne_i, eq_b, ne_b, eq_s, ne_s, sl_l, sl_t, src_l, src_t, revL_l, revT_l, slot_f, slot_l, wS_new, ix_l, ix_t, all_b, any_b, sum_l, dLst, dTup, setAll, ownAt, putOwn, frzE, boAt, wipeE, cut_map, cut_from1, cut_to1, List.getElem?_cons_zero, List.getElem?_cons_succ, List.set_cons_zero, List.set_cons_succ, Option.some.injEq, Sl.dt.injEq, Sl.ow.injEq, Sl.bo.injEq, Rv.d.injEq, Rv.l.injEq, PyData.int.injEq, PyData.bool.injEq, PyData.str.injEq, PyData.list.injEq, PyData.tuple.injEq, List.cons.injEq, exists_eq_left', exists_eq_left, exists_eq_right', exists_eq, exists_eq', exists_and_left, exists_const, and_true, true_and, and_assoc, Int.reduceLT, Int.reduceLE, Int.reducePow, Int.reduceToNat, Int.reduceNeg, Int.reduceMul, Int.reduceAdd, Int.reduceSub, Nat.reduceLT, Nat.reduceLeDiff, Nat.reducePow, Nat.reduceAdd, List.length_cons, List.length_nil, List.length_map, forall_const, decide_true, decide_false, Bool.not_true, Bool.not_false, Bool.false_eq_true, Bool.true_eq_false, false_implies, true_implies, reduceCtorEq, eq_self, eq_tI, ne_tI, eq_lI, ne_lI, all_T, wU_lst2, wU_lst3, sz_0, sz_1, sz_2, sz_3, sz_4, sz_5, sz_6, sz_7, sz_8, implies_true, revA_l, revA_t, isB_b, isntB_b, zRev_1, zRev_2, zRev_3, zRev_4, zRev_5, revS_l, revS_t, sumT_l, sumT_t, xW_seq, xW_if, xW_arg, xW_call, xW_raise, xW_raise0, xK, wE_xnone, wE_xfld, wE_xis, Sl.xt.injEq, Xt.exn.injEq, or_false, false_or, lk_hd, inCs_hd, mem_hd, false_and, and_false]
  refine wB_mono (take_ok hy (by omega) (by omega) (by omega)) ?_
  rintro _ zs ⟨v, rfl, v0, v1, hz⟩
  simp only [wE_var, wE_c, wE_1, wE_2, wA_nil, wA_cons, wE_A, wT_bool, wT_yes, wT_not, wT_and, wT_or, wE_ofT, wE_if, wE_chain, wO_no, wO_part, wE_sl, wE_isa, wE_ownLen, wE_ownIx, wE_app, wE_ext, wE_ins, wE_rg1, wE_rg2, wE_rev, wE_popAt, wE_pop, wS_putIx, wE_box, wE_boxNew, wS_seq, wS_nx, wS_ct, wS_bk, wS_set, wS_own, wS_ret, wS_drop, wS_if, wS_retO, wS_frz, wS_asg, wU_name, wUs_nil, wUs_cons, wU_tup2, wU_tup3, wPar_nil, wPar_cons, wS_par, wS_aug, wA_zip2, wA_zip3, wA_zipS, wA_seqIt, wA_range1, wA_range2, wA_enum, wS_for, seqK, lpK, rtK, rbK, wR_some, wB_some, wR_ite, mAnd, mOr, mNot, toD_d, toD_l, f1_one, f2_two, add_i, add_l, add_t, iadd_i, sub_i, mul_i, mul_l, mod_i, fdiv_w, fdOk_2, fdOk_64, fdOk_7, fdOk_m, na10, na2, at3_0, at3_1, at3_2, at2_0, at2_1, Mir.atI_last, ix3_0, ix3_1, ix3_2, pow_i, neg_i, len_l, len_t, abs_i, max2_i, min2_i, int_i, int_b, list_l, list_t, tuple_l, tuple_t, lt_i, le_i, gt_i, ge_i, eq_i, ne_i, eq_b, ne_b, eq_s, ne_s, sl_l, sl_t, src_l, src_t, revL_l, revT_l, slot_f, slot_l, wS_new, ix_l, ix_t, all_b, any_b, sum_l, dLst, dTup, setAll, ownAt, putOwn, frzE, boAt, wipeE, cut_map, cut_from1, cut_to1, List.getElem?_cons_zero, List.getElem?_cons_succ, List.set_cons_zero, List.set_cons_succ, Option.some.injEq, Sl.dt.injEq, Sl.ow.injEq, Sl.bo.injEq, Rv.d.injEq, Rv.l.injEq, PyData.int.injEq, PyData.bool.injEq, PyData.str.injEq, PyData.list.injEq, PyData.tuple.injEq, List.cons.injEq, exists_eq_left', exists_eq_left, exists_eq_right', exists_eq, exists_eq', exists_and_left, exists_const, and_true, true_and, and_assoc, Int.reduceLT, Int.reduceLE, Int.reducePow, Int.reduceToNat, Int.reduceNeg, Int.reduceMul, Int.reduceAdd, Int.reduceSub, Nat.reduceLT, Nat.reduceLeDiff, Nat.reducePow, Nat.reduceAdd, List.length_cons, List.length_nil, List.length_map, forall_const, decide_true, decide_false, Bool.not_true, Bool.not_false, Bool.false_eq_true, Bool.true_eq_false, false_implies, true_implies, reduceCtorEq, eq_self, eq_tI, ne_tI, eq_lI, ne_lI, all_T, wU_lst2, wU_lst3, sz_0, sz_1, sz_2, sz_3, sz_4, sz_5, sz_6, sz_7, sz_8, implies_true, revA_l, revA_t, isB_b, isntB_b, zRev_1, zRev_2, zRev_3, zRev_4, zRev_5, revS_l, revS_t, sumT_l, sumT_t, xW_seq, xW_if, xW_arg, xW_call, xW_raise, xW_raise0, xK, wE_xnone, wE_xfld, wE_xis, Sl.xt.injEq, Xt.exn.injEq, or_false, false_or, lk_hd, inCs_hd, mem_hd, false_and, and_false]
  unfold T_law_13
  have hp : 0 < f.length := List.length_pos_iff.mpr f0
  simp only [wE_var, wE_c, wE_1, wE_2, wA_nil, wA_cons, wE_A, wT_bool, wT_yes, wT_not, wT_and, wT_or, wE_ofT, wE_if, wE_chain, wO_no, wO_part, wE_sl, wE_isa, wE_ownLen, wE_ownIx, wE_app, wE_ext, wE_ins, wE_rg1, wE_rg2, wE_rev, wE_popAt, wE_pop, wS_putIx, wE_box, wE_boxNew, wS_seq, wS_nx, wS_ct, wS_bk, wS_set, wS_own, wS_ret, wS_drop, wS_if, wS_retO, wS_frz, wS_asg, wU_name, wUs_nil, wUs_cons, wU_tup2, wU_tup3, wPar_nil, wPar_cons, wS_par, wS_aug, wA_zip2, wA_zip3, wA_zipS, wA_seqIt, wA_range1, wA_range2, wA_enum, wS_for, seqK, lpK, rtK, rbK, wR_some, wB_some, wR_ite, mAnd, mOr, mNot, toD_d, toD_l, f1_one, f2_two, add_i, add_l, add_t, iadd_i, sub_i, mul_i, mul_l, mod_i, fdiv_w, fdOk_2, fdOk_64, fdOk_7, fdOk_m, na10, na2, at3_0, at3_1, at3_2, at2_0, at2_1, Mir.atI_last, ix3_0, ix3_1, ix3_2, pow_i, neg_i, len_l, len_t, abs_i, max2_i, min2_i, int_i, int_b, list_l, list_t, tuple_l, tuple_t, lt_i, le_i, gt_i, ge_i, eq_i, ne_i, eq_b, ne_b, eq_s, ne_s, sl_l, sl_t, src_l, src_t, revL_l, revT_l, slot_f, slot_l, wS_new, ix_l, ix_t, all_b, any_b, sum_l, dLst, dTup, setAll, ownAt, putOwn, frzE, boAt, wipeE, cut_map, cut_from1, cut_to1, List.getElem?_cons_zero, List.getElem?_cons_succ, List.set_cons_zero, List.set_cons_succ, Option.some.injEq, Sl.dt.injEq, Sl.ow.injEq, Sl.bo.injEq, Rv.d.injEq, Rv.l.injEq, PyData.int.injEq, PyData.bool.injEq, PyData.str.injEq, PyData.list.injEq, PyData.tuple.injEq, List.cons.injEq, exists_eq_left', exists_eq_left, exists_eq_right', exists_eq, exists_eq', exists_and_left, exists_const, and_true, true_and, and_assoc, Int.reduceLT, Int.reduceLE, Int.reducePow, Int.reduceToNat, Int.reduceNeg, Int.reduceMul, Int.reduceAdd, Int.reduceSub, Nat.reduceLT, Nat.reduceLeDiff, Nat.reducePow, Nat.reduceAdd, List.length_cons, List.length_nil, List.length_map, forall_const, decide_true, decide_false, Bool.not_true, Bool.not_false, Bool.false_eq_true, Bool.true_eq_false, false_implies, true_implies, reduceCtorEq, eq_self, eq_tI, ne_tI, eq_lI, ne_lI, all_T, wU_lst2, wU_lst3, sz_0, sz_1, sz_2, sz_3, sz_4, sz_5, sz_6, sz_7, sz_8, implies_true, revA_l, revA_t, isB_b, isntB_b, zRev_1, zRev_2, zRev_3, zRev_4, zRev_5, revS_l, revS_t, sumT_l, sumT_t, xW_seq, xW_if, xW_arg, xW_call, xW_raise, xW_raise0, xK, wE_xnone, wE_xfld, wE_xis, Sl.xt.injEq, Xt.exn.injEq, or_false, false_or, lk_hd, inCs_hd, mem_hd, false_and, and_false]
  refine wB_mono (take_ok hz (by omega) (by omega) (by omega)) ?_
  rintro _ us ⟨w, rfl, w0, w1, hu⟩
  obtain ⟨p, rfl⟩ : ∃ p : Nat, w = (p : Int) := ⟨w.toNat, by omega⟩
  simp only [wE_var, wE_c, wE_1, wE_2, wA_nil, wA_cons, wE_A, wT_bool, wT_yes, wT_not, wT_and, wT_or, wE_ofT, wE_if, wE_chain, wO_no, wO_part, wE_sl, wE_isa, wE_ownLen, wE_ownIx, wE_app, wE_ext, wE_ins, wE_rg1, wE_rg2, wE_rev, wE_popAt, wE_pop, wS_putIx, wE_box, wE_boxNew, wS_seq, wS_nx, wS_ct, wS_bk, wS_set, wS_own, wS_ret, wS_drop, wS_if, wS_retO, wS_frz, wS_asg, wU_name, wUs_nil, wUs_cons, wU_tup2, wU_tup3, wPar_nil, wPar_cons, wS_par, wS_aug, wA_zip2, wA_zip3, wA_zipS, wA_seqIt, wA_range1, wA_range2, wA_enum, wS_for, seqK, lpK, rtK, rbK, wR_some, wB_some, wR_ite, mAnd, mOr, mNot, toD_d, toD_l, f1_one, f2_two, add_i, add_l, add_t, iadd_i, sub_i, mul_i, mul_l, mod_i, fdiv_w, fdOk_2, fdOk_64, fdOk_7, fdOk_m, na10, na2, at3_0, at3_1, at3_2, at2_0, at2_1, Mir.atI_last, ix3_0, ix3_1, ix3_2, pow_i, neg_i, len_l, len_t, abs_i, max2_i, min2_i, int_i, int_b, list_l, list_t, tuple_l, tuple_t, lt_i, le_i, gt_i, ge_i, eq_i, ne_i, eq_b, ne_b, eq_s, ne_s, sl_l, sl_t, src_l, src_t, revL_l, revT_l, slot_f, slot_l, wS_new, ix_l, ix_t, all_b, any_b, sum_l, dLst, dTup, setAll, ownAt, putOwn, frzE, boAt, wipeE, cut_map, cut_from1, cut_to1, List.getElem?_cons_zero, List.getElem?_cons_succ, List.set_cons_zero, List.set_cons_succ, Option.some.injEq, Sl.dt.injEq, Sl.ow.injEq, Sl.bo.injEq, Rv.d.injEq, Rv.l.injEq, PyData.int.injEq, PyData.bool.injEq, PyData.str.injEq, PyData.list.injEq, PyData.tuple.injEq, List.cons.injEq, exists_eq_left', exists_eq_left, exists_eq_right', exists_eq, exists_eq', exists_and_left, exists_const, and_true, true_and, and_assoc, Int.reduceLT, Int.reduceLE, Int.reducePow, Int.reduceToNat, Int.reduceNeg, Int.reduceMul, Int.reduceAdd, Int.reduceSub, Nat.reduceLT, Nat.reduceLeDiff, Nat.reducePow, Nat.reduceAdd, List.length_cons, List.length_nil, List.length_map, forall_const, decide_true, decide_false, Bool.not_true, Bool.not_false, Bool.false_eq_true, Bool.true_eq_false, false_implies, true_implies, reduceCtorEq, eq_self, eq_tI, ne_tI, eq_lI, ne_lI, all_T, wU_lst2, wU_lst3, sz_0, sz_1, sz_2, sz_3, sz_4, sz_5, sz_6, sz_7, sz_8, implies_true, revA_l, revA_t, isB_b, isntB_b, zRev_1, zRev_2, zRev_3, zRev_4, zRev_5, revS_l, revS_t, sumT_l, sumT_t, xW_seq, xW_if, xW_arg, xW_call, xW_raise, xW_raise0, xK, wE_xnone, wE_xfld, wE_xis, Sl.xt.injEq, Xt.exn.injEq, or_false, false_or, lk_hd, inCs_hd, mem_hd, false_and, and_false]
  refine body_ok f0 (by omega) (by omega) fun e he => k _ ?_
  obtain ⟨a3, a4, a5, a6, a7, a8, a9, a10, rfl⟩ := he
  exact ⟨_, _, _, _, _, _, _, _, _, rfl, hu.mono (by omega)⟩
def invK (ns : List Int) (i : Nat) (e : MEnv) : Prop := ∃ (a1 a2 a3 a4 a5 a6 a7 a8 a9 a10 : Sl), e = [.dt (.list (I ns)), a1, a2, a3, a4, a5, a6, a7, a8, a9, a10, .un, .un]
theorem law_true : ∀ ns : List Int, ns.length ≤ 63 → Z_law [.list (ns.map .int)] = some (.d (.bool true)) := fun ns hns => by
  refine wR_eq ?_
  unfold Z_law
  refine wR_run rfl ?_
  show wS _ [.dt _, .un, .un, .un, .un, .un, .un, .un, .un, .un, .un, .un, .un] _
  unfold B_law
  simp only [wE_var, wE_c, wE_1, wE_2, wA_nil, wA_cons, wE_A, wT_bool, wT_yes, wT_not, wT_and, wT_or, wE_ofT, wE_if, wE_chain, wO_no, wO_part, wE_sl, wE_isa, wE_ownLen, wE_ownIx, wE_app, wE_ext, wE_ins, wE_rg1, wE_rg2, wE_rev, wE_popAt, wE_pop, wS_putIx, wE_box, wE_boxNew, wS_seq, wS_nx, wS_ct, wS_bk, wS_set, wS_own, wS_ret, wS_drop, wS_if, wS_retO, wS_frz, wS_asg, wU_name, wUs_nil, wUs_cons, wU_tup2, wU_tup3, wPar_nil, wPar_cons, wS_par, wS_aug, wA_zip2, wA_zip3, wA_zipS, wA_seqIt, wA_range1, wA_range2, wA_enum, wS_for, seqK, lpK, rtK, rbK, wR_some, wB_some, wR_ite, mAnd, mOr, mNot, toD_d, toD_l, f1_one, f2_two, add_i, add_l, add_t, iadd_i, sub_i, mul_i, mul_l, mod_i, fdiv_w, fdOk_2, fdOk_64, fdOk_7, fdOk_m, na10, na2, at3_0, at3_1, at3_2, at2_0, at2_1, Mir.atI_last, ix3_0, ix3_1, ix3_2, pow_i, neg_i, len_l, len_t, abs_i, max2_i, min2_i, int_i, int_b, list_l, list_t, tuple_l, tuple_t, lt_i, le_i, gt_i, ge_i, eq_i, ne_i, eq_b, ne_b, eq_s, ne_s, sl_l, sl_t, src_l, src_t, revL_l, revT_l, slot_f, slot_l, wS_new, ix_l, ix_t, all_b, any_b, sum_l, dLst, dTup, setAll, ownAt, putOwn, frzE, boAt, wipeE, cut_map, cut_from1, cut_to1, List.getElem?_cons_zero, List.getElem?_cons_succ, List.set_cons_zero, List.set_cons_succ, Option.some.injEq, Sl.dt.injEq, Sl.ow.injEq, Sl.bo.injEq, Rv.d.injEq, Rv.l.injEq, PyData.int.injEq, PyData.bool.injEq, PyData.str.injEq, PyData.list.injEq, PyData.tuple.injEq, List.cons.injEq, exists_eq_left', exists_eq_left, exists_eq_right', exists_eq, exists_eq', exists_and_left, exists_const, and_true, true_and, and_assoc, Int.reduceLT, Int.reduceLE, Int.reducePow, Int.reduceToNat, Int.reduceNeg, Int.reduceMul, Int.reduceAdd, Int.reduceSub, Nat.reduceLT, Nat.reduceLeDiff, Nat.reducePow, Nat.reduceAdd, List.length_cons, List.length_nil, List.length_map, forall_const, decide_true, decide_false, Bool.not_true, Bool.not_false, Bool.false_eq_true, Bool.true_eq_false, false_implies, true_implies, reduceCtorEq, eq_self, eq_tI, ne_tI, eq_lI, ne_lI, all_T, wU_lst2, wU_lst3, sz_0, sz_1, sz_2, sz_3, sz_4, sz_5, sz_6, sz_7, sz_8, implies_true, revA_l, revA_t, isB_b, isntB_b, zRev_1, zRev_2, zRev_3, zRev_4, zRev_5, revS_l, revS_t, sumT_l, sumT_t, xW_seq, xW_if, xW_arg, xW_call, xW_raise, xW_raise0, xK, wE_xnone, wE_xfld, wE_xis, Sl.xt.injEq, Xt.exn.injEq, or_false, false_or, lk_hd, inCs_hd, mem_hd, false_and, and_false]
  refine ⟨by split <;> omega, by split <;> omega, ?_⟩
  refine lp_inv (zs := List.range _) (fun i => .int (0 + (i : Int))) (invK ns) ⟨_, _, _, _, _, _, _, _, _, _, rfl⟩ ?_ fun e he => ?_
  rotate_left
  · obtain ⟨a1, a2, a3, a4, a5, a6, a7, a8, a9, a10, rfl⟩ := he
    unfold T_law_16
    simp only [wE_var, wE_c, wE_1, wE_2, wA_nil, wA_cons, wE_A, wT_bool, wT_yes, wT_not, wT_and, wT_or, wE_ofT, wE_if, wE_chain, wO_no, wO_part, wE_sl, wE_isa, wE_ownLen, wE_ownIx, wE_app, wE_ext, wE_ins, wE_rg1, wE_rg2, wE_rev, wE_popAt, wE_pop, wS_putIx, wE_box, wE_boxNew, wS_seq, wS_nx, wS_ct, wS_bk, wS_set, wS_own, wS_ret, wS_drop, wS_if, wS_retO, wS_frz, wS_asg, wU_name, wUs_nil, wUs_cons, wU_tup2, wU_tup3, wPar_nil, wPar_cons, wS_par, wS_aug, wA_zip2, wA_zip3, wA_zipS, wA_seqIt, wA_range1, wA_range2, wA_enum, wS_for, seqK, lpK, rtK, rbK, wR_some, wB_some, wR_ite, mAnd, mOr, mNot, toD_d, toD_l, f1_one, f2_two, add_i, add_l, add_t, iadd_i, sub_i, mul_i, mul_l, mod_i, fdiv_w, fdOk_2, fdOk_64, fdOk_7, fdOk_m, na10, na2, at3_0, at3_1, at3_2, at2_0, at2_1, Mir.atI_last, ix3_0, ix3_1, ix3_2, pow_i, neg_i, len_l, len_t, abs_i, max2_i, min2_i, int_i, int_b, list_l, list_t, tuple_l, tuple_t, lt_i, le_i, gt_i, ge_i, eq_i, ne_i, eq_b, ne_b, eq_s, ne_s, sl_l, sl_t, src_l, src_t, revL_l, revT_l, slot_f, slot_l, wS_new, ix_l, ix_t, all_b, any_b, sum_l, dLst, dTup, setAll, ownAt, putOwn, frzE, boAt, wipeE, cut_map, cut_from1, cut_to1, List.getElem?_cons_zero, List.getElem?_cons_succ, List.set_cons_zero, List.set_cons_succ, Option.some.injEq, Sl.dt.injEq, Sl.ow.injEq, Sl.bo.injEq, Rv.d.injEq, Rv.l.injEq, PyData.int.injEq, PyData.bool.injEq, PyData.str.injEq, PyData.list.injEq, PyData.tuple.injEq, List.cons.injEq, exists_eq_left', exists_eq_left, exists_eq_right', exists_eq, exists_eq', exists_and_left, exists_const, and_true, true_and, and_assoc, Int.reduceLT, Int.reduceLE, Int.reducePow, Int.reduceToNat, Int.reduceNeg, Int.reduceMul, Int.reduceAdd, Int.reduceSub, Nat.reduceLT, Nat.reduceLeDiff, Nat.reducePow, Nat.reduceAdd, List.length_cons, List.length_nil, List.length_map, forall_const, decide_true, decide_false, Bool.not_true, Bool.not_false, Bool.false_eq_true, Bool.true_eq_false, false_implies, true_implies, reduceCtorEq, eq_self, eq_tI, ne_tI, eq_lI, ne_lI, all_T, wU_lst2, wU_lst3, sz_0, sz_1, sz_2, sz_3, sz_4, sz_5, sz_6, sz_7, sz_8, implies_true, revA_l, revA_t, isB_b, isntB_b, zRev_1, zRev_2, zRev_3, zRev_4, zRev_5, revS_l, revS_t, sumT_l, sumT_t, xW_seq, xW_if, xW_arg, xW_call, xW_raise, xW_raise0, xK, wE_xnone, wE_xfld, wE_xis, Sl.xt.injEq, Xt.exn.injEq, or_false, false_or, lk_hd, inCs_hd, mem_hd, false_and, and_false]
  rintro i z e hz ⟨a1, a2, a3, a4, a5, a6, a7, a8, a9, a10, rfl⟩
  have hzi : z < 10 := by
    obtain ⟨h1, h2⟩ := range_get hz
    subst h1
    split at h2 <;> omega
  unfold T_law_15
  simp only [wE_var, wE_c, wE_1, wE_2, wA_nil, wA_cons, wE_A, wT_bool, wT_yes, wT_not, wT_and, wT_or, wE_ofT, wE_if, wE_chain, wO_no, wO_part, wE_sl, wE_isa, wE_ownLen, wE_ownIx, wE_app, wE_ext, wE_ins, wE_rg1, wE_rg2, wE_rev, wE_popAt, wE_pop, wS_putIx, wE_box, wE_boxNew, wS_seq, wS_nx, wS_ct, wS_bk, wS_set, wS_own, wS_ret, wS_drop, wS_if, wS_retO, wS_frz, wS_asg, wU_name, wUs_nil, wUs_cons, wU_tup2, wU_tup3, wPar_nil, wPar_cons, wS_par, wS_aug, wA_zip2, wA_zip3, wA_zipS, wA_seqIt, wA_range1, wA_range2, wA_enum, wS_for, seqK, lpK, rtK, rbK, wR_some, wB_some, wR_ite, mAnd, mOr, mNot, toD_d, toD_l, f1_one, f2_two, add_i, add_l, add_t, iadd_i, sub_i, mul_i, mul_l, mod_i, fdiv_w, fdOk_2, fdOk_64, fdOk_7, fdOk_m, na10, na2, at3_0, at3_1, at3_2, at2_0, at2_1, Mir.atI_last, ix3_0, ix3_1, ix3_2, pow_i, neg_i, len_l, len_t, abs_i, max2_i, min2_i, int_i, int_b, list_l, list_t, tuple_l, tuple_t, lt_i, le_i, gt_i, ge_i, eq_i, ne_i, eq_b, ne_b, eq_s, ne_s, sl_l, sl_t, src_l, src_t, revL_l, revT_l, slot_f, slot_l, wS_new, ix_l, ix_t, all_b, any_b, sum_l, dLst, dTup, setAll, ownAt, putOwn, frzE, boAt, wipeE, cut_map, cut_from1, cut_to1, List.getElem?_cons_zero, List.getElem?_cons_succ, List.set_cons_zero, List.set_cons_succ, Option.some.injEq, Sl.dt.injEq, Sl.ow.injEq, Sl.bo.injEq, Rv.d.injEq, Rv.l.injEq, PyData.int.injEq, PyData.bool.injEq, PyData.str.injEq, PyData.list.injEq, PyData.tuple.injEq, List.cons.injEq, exists_eq_left', exists_eq_left, exists_eq_right', exists_eq, exists_eq', exists_and_left, exists_const, and_true, true_and, and_assoc, Int.reduceLT, Int.reduceLE, Int.reducePow, Int.reduceToNat, Int.reduceNeg, Int.reduceMul, Int.reduceAdd, Int.reduceSub, Nat.reduceLT, Nat.reduceLeDiff, Nat.reducePow, Nat.reduceAdd, List.length_cons, List.length_nil, List.length_map, forall_const, decide_true, decide_false, Bool.not_true, Bool.not_false, Bool.false_eq_true, Bool.true_eq_false, false_implies, true_implies, reduceCtorEq, eq_self, eq_tI, ne_tI, eq_lI, ne_lI, all_T, wU_lst2, wU_lst3, sz_0, sz_1, sz_2, sz_3, sz_4, sz_5, sz_6, sz_7, sz_8, implies_true, revA_l, revA_t, isB_b, isntB_b, zRev_1, zRev_2, zRev_3, zRev_4, zRev_5, revS_l, revS_t, sumT_l, sumT_t, xW_seq, xW_if, xW_arg, xW_call, xW_raise, xW_raise0, xK, wE_xnone, wE_xfld, wE_xis, Sl.xt.injEq, Xt.exn.injEq, or_false, false_or, lk_hd, inCs_hd, mem_hd, false_and, and_false]
  refine wR_mono (box_ok ns _ (by omega) (by omega)) ?_
  rintro _ ⟨a, b, rfl, ha, hb, hb2⟩
  have hB : Bx 0 [.int a, .int b, .int 0] := ⟨a, b, 0, rfl, ha, hb, hb2, by omega, by omega⟩
  simp only [wE_var, wE_c, wE_1, wE_2, wA_nil, wA_cons, wE_A, wT_bool, wT_yes, wT_not, wT_and, wT_or, wE_ofT, wE_if, wE_chain, wO_no, wO_part, wE_sl, wE_isa, wE_ownLen, wE_ownIx, wE_app, wE_ext, wE_ins, wE_rg1, wE_rg2, wE_rev, wE_popAt, wE_pop, wS_putIx, wE_box, wE_boxNew, wS_seq, wS_nx, wS_ct, wS_bk, wS_set, wS_own, wS_ret, wS_drop, wS_if, wS_retO, wS_frz, wS_asg, wU_name, wUs_nil, wUs_cons, wU_tup2, wU_tup3, wPar_nil, wPar_cons, wS_par, wS_aug, wA_zip2, wA_zip3, wA_zipS, wA_seqIt, wA_range1, wA_range2, wA_enum, wS_for, seqK, lpK, rtK, rbK, wR_some, wB_some, wR_ite, mAnd, mOr, mNot, toD_d, toD_l, f1_one, f2_two, add_i, add_l, add_t, iadd_i, sub_i, mul_i, mul_l, mod_i, fdiv_w, fdOk_2, fdOk_64, fdOk_7, fdOk_m, na10, na2, at3_0, at3_1, at3_2, at2_0, at2_1, Mir.atI_last, ix3_0, ix3_1, ix3_2, pow_i, neg_i, len_l, len_t, abs_i, max2_i, min2_i, int_i, int_b, list_l, list_t, tuple_l, tuple_t, lt_i, le_i, gt_i, ge_i, eq_i, ne_i, eq_b, ne_b, eq_s, ne_s, sl_l, sl_t, src_l, src_t, revL_l, revT_l, slot_f, slot_l, wS_new, ix_l, ix_t, all_b, any_b, sum_l, dLst, dTup, setAll, ownAt, putOwn, frzE, boAt, wipeE, cut_map, cut_from1, cut_to1, List.getElem?_cons_zero, List.getElem?_cons_succ, List.set_cons_zero, List.set_cons_succ, Option.some.injEq, Sl.dt.injEq, Sl.ow.injEq, Sl.bo.injEq, Rv.d.injEq, Rv.l.injEq, PyData.int.injEq, PyData.bool.injEq, PyData.str.injEq, PyData.list.injEq, PyData.tuple.injEq, List.cons.injEq, exists_eq_left', exists_eq_left, exists_eq_right', exists_eq, exists_eq', exists_and_left, exists_const, and_true, true_and, and_assoc, Int.reduceLT, Int.reduceLE, Int.reducePow, Int.reduceToNat, Int.reduceNeg, Int.reduceMul, Int.reduceAdd, Int.reduceSub, Nat.reduceLT, Nat.reduceLeDiff, Nat.reducePow, Nat.reduceAdd, List.length_cons, List.length_nil, List.length_map, forall_const, decide_true, decide_false, Bool.not_true, Bool.not_false, Bool.false_eq_true, Bool.true_eq_false, false_implies, true_implies, reduceCtorEq, eq_self, eq_tI, ne_tI, eq_lI, ne_lI, all_T, wU_lst2, wU_lst3, sz_0, sz_1, sz_2, sz_3, sz_4, sz_5, sz_6, sz_7, sz_8, implies_true, revA_l, revA_t, isB_b, isntB_b, zRev_1, zRev_2, zRev_3, zRev_4, zRev_5, revS_l, revS_t, sumT_l, sumT_t, xW_seq, xW_if, xW_arg, xW_call, xW_raise, xW_raise0, xK, wE_xnone, wE_xfld, wE_xis, Sl.xt.injEq, Xt.exn.injEq, or_false, false_or, lk_hd, inCs_hd, mem_hd, false_and, and_false]
  refine all_ok hB (by omega) fun e he => ?_
  obtain ⟨b, a3, a4, a5, a6, a7, a8, a9, a10, rfl, hB⟩ := he
  exact ⟨_, _, _, _, _, _, _, _, _, _, rfl⟩
end LW

set_option maxHeartbeats 2000000
namespace LW
open PySem L2 Mir
/-! ### the text -/
theorem bb_IndexError : bootBuiltins "IndexError" = some (.type "IndexError") := by decide +kernel
theorem bb_KeyError : bootBuiltins "KeyError" = some (.type "KeyError") := by decide +kernel
theorem bb_LookupError : bootBuiltins "LookupError" = some (.type "LookupError") := by decide +kernel
theorem bb_abs : bootBuiltins "abs" = some (.builtin "abs") := by decide +kernel
theorem bb_all : bootBuiltins "all" = some (.builtin "all") := by decide +kernel
theorem bb_bool : bootBuiltins "bool" = some (.type "bool") := by decide +kernel
theorem bb_enumerate : bootBuiltins "enumerate" = some (.type "enumerate") := by decide +kernel
theorem bb_int : bootBuiltins "int" = some (.type "int") := by decide +kernel
theorem bb_isinstance : bootBuiltins "isinstance" = some (.builtin "isinstance") := by decide +kernel
theorem bb_len : bootBuiltins "len" = some (.builtin "len") := by decide +kernel
theorem bb_list : bootBuiltins "list" = some (.type "list") := by decide +kernel
theorem bb_max : bootBuiltins "max" = some (.builtin "max") := by decide +kernel
theorem bb_min : bootBuiltins "min" = some (.builtin "min") := by decide +kernel
theorem bb_range : bootBuiltins "range" = some (.type "range") := by decide +kernel
theorem bb_str : bootBuiltins "str" = some (.type "str") := by decide +kernel
theorem bb_sum : bootBuiltins "sum" = some (.builtin "sum") := by decide +kernel
theorem bb_tuple : bootBuiltins "tuple" = some (.type "tuple") := by decide +kernel
theorem bb_zip : bootBuiltins "zip" = some (.type "zip") := by decide +kernel
def topS (i : Nat) : Stmt := PySem.Challenge.pw_dunebooks_k02_dunes_otherwise.main.body.getD i (.Pass ⟨0, 0, 0, 0⟩)
abbrev s_steepest : Stmt := topS 3
abbrev N_steepest : List Str := ["dune", "one", "other"]
abbrev p_steepest : List Str := ["dune"]
theorem sc_steepest : FnScope N_steepest p_steepest (defScope s_steepest) := ⟨rfl, rfl, rfl, by decide +kernel, rfl, by decide +kernel, by decide +kernel⟩
abbrev s_sand : Stmt := topS 4
abbrev N_sand : List Str := ["dune"]
abbrev p_sand : List Str := ["dune"]
theorem sc_sand : FnScope N_sand p_sand (defScope s_sand) := ⟨rfl, rfl, rfl, by decide +kernel, rfl, by decide +kernel, by decide +kernel⟩
abbrev s_raised : Stmt := topS 5
abbrev N_raised : List Str := ["dune", "by", "height"]
abbrev p_raised : List Str := ["dune", "by"]
theorem sc_raised : FnScope N_raised p_raised (defScope s_raised) := ⟨rfl, rfl, rfl, by decide +kernel, rfl, by decide +kernel, by decide +kernel⟩
abbrev s_mirrored : Stmt := topS 6
abbrev N_mirrored : List Str := ["dune"]
abbrev p_mirrored : List Str := ["dune"]
theorem sc_mirrored : FnScope N_mirrored p_mirrored (defScope s_mirrored) := ⟨rfl, rfl, rfl, by decide +kernel, rfl, by decide +kernel, by decide +kernel⟩
abbrev s_upside : Stmt := topS 7
abbrev N_upside : List Str := ["dune", "height"]
abbrev p_upside : List Str := ["dune"]
theorem sc_upside : FnScope N_upside p_upside (defScope s_upside) := ⟨rfl, rfl, rfl, by decide +kernel, rfl, by decide +kernel, by decide +kernel⟩
abbrev s_look_post : Stmt := topS 8
abbrev N_look_post : List Str := ["dune", "post"]
abbrev p_look_post : List Str := ["dune", "post"]
theorem sc_look_post : FnScope N_look_post p_look_post (defScope s_look_post) := ⟨rfl, rfl, rfl, by decide +kernel, rfl, by decide +kernel, by decide +kernel⟩
abbrev s_handed : Stmt := topS 9
abbrev N_handed : List Str := ["dune", "post", "by", "place", "height"]
abbrev p_handed : List Str := ["dune", "post", "by"]
theorem sc_handed : FnScope N_handed p_handed (defScope s_handed) := ⟨rfl, rfl, rfl, by decide +kernel, rfl, by decide +kernel, by decide +kernel⟩
abbrev s_l_cell_at : Stmt := topS 11
abbrev N_l_cell_at : List Str := ["_law_script", "_law_k"]
abbrev p_l_cell_at : List Str := ["_law_script", "_law_k"]
theorem sc_l_cell_at : FnScope N_l_cell_at p_l_cell_at (defScope s_l_cell_at) := ⟨rfl, rfl, rfl, by decide +kernel, rfl, by decide +kernel, by decide +kernel⟩
abbrev s_l_box : Stmt := topS 12
abbrev N_l_box : List Str := ["_law_script", "_law_k", "_law_cell"]
abbrev p_l_box : List Str := ["_law_script", "_law_k"]
theorem sc_l_box : FnScope N_l_box p_l_box (defScope s_l_box) := ⟨rfl, rfl, rfl, by decide +kernel, rfl, by decide +kernel, by decide +kernel⟩
abbrev s_l_take : Stmt := topS 13
abbrev N_l_take : List Str := ["_law_box_here", "_law_size", "_law_once", "_law_twice", "_law_told"]
abbrev p_l_take : List Str := ["_law_box_here", "_law_size"]
theorem sc_l_take : FnScope N_l_take p_l_take (defScope s_l_take) := ⟨rfl, rfl, rfl, by decide +kernel, rfl, by decide +kernel, by decide +kernel⟩
abbrev s_l_same : Stmt := topS 14
abbrev N_l_same : List Str := ["_law_told", "_law_due", "_law_here", "_law_two"]
abbrev p_l_same : List Str := ["_law_told", "_law_due"]
theorem sc_l_same : FnScope N_l_same p_l_same (defScope s_l_same) := ⟨rfl, rfl, rfl, by decide +kernel, rfl, by decide +kernel, by decide +kernel⟩
abbrev s_l_dune : Stmt := topS 15
abbrev N_l_dune : List Str := ["_law_box_here", "_law_size", "_law_told", "_law_pole", "_law_many", "_law_wide"]
abbrev p_l_dune : List Str := ["_law_box_here", "_law_size"]
theorem sc_l_dune : FnScope N_l_dune p_l_dune (defScope s_l_dune) := ⟨rfl, rfl, rfl, by decide +kernel, rfl, by decide +kernel, by decide +kernel⟩
abbrev s_l_steep : Stmt := topS 16
abbrev N_l_steep : List Str := ["_law_hill", "_law_here", "_law_there"]
abbrev p_l_steep : List Str := ["_law_hill"]
theorem sc_l_steep : FnScope N_l_steep p_l_steep (defScope s_l_steep) := ⟨rfl, rfl, rfl, by decide +kernel, rfl, by decide +kernel, by decide +kernel⟩
abbrev s_l_refused : Stmt := topS 17
abbrev N_l_refused : List Str := ["_law_hill", "_law_pole", "_law_caught", "error"]
abbrev p_l_refused : List Str := ["_law_hill", "_law_pole"]
theorem sc_l_refused : FnScope N_l_refused p_l_refused (defScope s_l_refused) := ⟨rfl, rfl, rfl, by decide +kernel, rfl, by decide +kernel, by decide +kernel⟩
abbrev s_law : Stmt := topS 18
abbrev N_law : List Str := ["_law_script", "_law_k", "_law_box_here", "_law_told", "_law_higher", "_law_below", "_law_there", "_law_hill", "_law_rise", "_law_handed_in", "_law_pole", "_law_level", "_law_wrong"]
abbrev p_law : List Str := ["_law_script"]
theorem sc_law : FnScope N_law p_law (defScope s_law) := ⟨rfl, rfl, rfl, by decide +kernel, rfl, by decide +kernel, by decide +kernel⟩
abbrev s_xi_NoPost : Stmt := inClass (topS 1) 0
abbrev N_xi_NoPost : List Str := ["self", "post"]
abbrev p_xi_NoPost : List Str := ["self", "post"]
theorem sc_xi_NoPost : FnScope N_xi_NoPost p_xi_NoPost (defScope s_xi_NoPost) := ⟨rfl, rfl, rfl, by decide +kernel, rfl, by decide +kernel, by decide +kernel⟩
structure Txt (K : Fr) (mg : Str → Option Value) (a_steepest a_sand a_raised a_mirrored a_upside a_look_post a_handed a_l_cell_at a_l_box a_l_take a_l_same a_l_dune a_l_steep a_l_refused a_law a_xi_NoPost k_NoPost : Addr) (d_steepest d_sand d_raised d_mirrored d_upside d_look_post d_handed d_l_cell_at d_l_box d_l_take d_l_same d_l_dune d_l_steep d_l_refused d_law d_xi_NoPost : FuncData) : Prop where
  F_steepest : Fun K "steepest" "steepest" s_steepest a_steepest d_steepest
  m_steepest : mg "steepest" = some (.ref a_steepest)
  b_steepest : Binds K d_steepest p_steepest []
  kb_steepest : KBinds K d_steepest p_steepest ["dune"] (rvK 1) (rvK 1)
  F_sand : Fun K "sand" "sand" s_sand a_sand d_sand
  m_sand : mg "sand" = some (.ref a_sand)
  b_sand : Binds K d_sand p_sand []
  kb_sand : KBinds K d_sand p_sand ["dune"] (rvK 1) (rvK 1)
  F_raised : Fun K "raised" "raised" s_raised a_raised d_raised
  m_raised : mg "raised" = some (.ref a_raised)
  b_raised : Binds K d_raised p_raised []
  kb_raised : KBinds K d_raised p_raised ["by", "dune"] (rvK 2) (rvK 2)
  F_mirrored : Fun K "mirrored" "mirrored" s_mirrored a_mirrored d_mirrored
  m_mirrored : mg "mirrored" = some (.ref a_mirrored)
  b_mirrored : Binds K d_mirrored p_mirrored []
  kb_mirrored : KBinds K d_mirrored p_mirrored ["dune"] (rvK 1) (rvK 1)
  F_upside : Fun K "upside" "upside" s_upside a_upside d_upside
  m_upside : mg "upside" = some (.ref a_upside)
  b_upside : Binds K d_upside p_upside []
  kb_upside : KBinds K d_upside p_upside ["dune"] (rvK 1) (rvK 1)
  F_look_post : Fun K "look_post" "look_post" s_look_post a_look_post d_look_post
  m_look_post : mg "look_post" = some (.ref a_look_post)
  b_look_post : Binds K d_look_post p_look_post []
  F_handed : Fun K "handed" "handed" s_handed a_handed d_handed
  m_handed : mg "handed" = some (.ref a_handed)
  b_handed : Binds K d_handed p_handed []
  kb_handed : KBinds K d_handed p_handed ["by", "post", "dune"] (rvK 3) (rvK 3)
  F_l_cell_at : Fun K "_law_cell_at" "_law_cell_at" s_l_cell_at a_l_cell_at d_l_cell_at
  m_l_cell_at : mg "_law_cell_at" = some (.ref a_l_cell_at)
  b_l_cell_at : Binds K d_l_cell_at p_l_cell_at []
  F_l_box : Fun K "_law_box" "_law_box" s_l_box a_l_box d_l_box
  m_l_box : mg "_law_box" = some (.ref a_l_box)
  b_l_box : Binds K d_l_box p_l_box []
  F_l_take : Fun K "_law_take" "_law_take" s_l_take a_l_take d_l_take
  m_l_take : mg "_law_take" = some (.ref a_l_take)
  b_l_take : Binds K d_l_take p_l_take []
  F_l_same : Fun K "_law_same" "_law_same" s_l_same a_l_same d_l_same
  m_l_same : mg "_law_same" = some (.ref a_l_same)
  b_l_same : Binds K d_l_same p_l_same []
  F_l_dune : Fun K "_law_dune" "_law_dune" s_l_dune a_l_dune d_l_dune
  m_l_dune : mg "_law_dune" = some (.ref a_l_dune)
  b_l_dune : Binds K d_l_dune p_l_dune []
  F_l_steep : Fun K "_law_steep" "_law_steep" s_l_steep a_l_steep d_l_steep
  m_l_steep : mg "_law_steep" = some (.ref a_l_steep)
  b_l_steep : Binds K d_l_steep p_l_steep []
  F_l_refused : Fun K "_law_refused" "_law_refused" s_l_refused a_l_refused d_l_refused
  m_l_refused : mg "_law_refused" = some (.ref a_l_refused)
  b_l_refused : Binds K d_l_refused p_l_refused []
  F_law : Fun K "law" "law" s_law a_law d_law
  m_law : mg "law" = some (.ref a_law)
  b_law : Binds K d_law p_law []
  ns_NoPost : PySem.W.nsIn K mainGlobals "NoPost" = some (some (.ref k_NoPost))
  mg_NoPost : mg "NoPost" = some (.ref k_NoPost)
  F_xi_NoPost : Fun K "__init__" "NoPost.__init__" s_xi_NoPost a_xi_NoPost d_xi_NoPost
  b_xi_NoPost : Binds K d_xi_NoPost p_xi_NoPost []
  ox_NoPost : Oxc K k_NoPost "LookupError.__new__" tlL
  xi_NoPost : PySem.W.findIn K (.ref k_NoPost) "__init__" = some (some (.ref a_xi_NoPost))
  xt_NoPost : PySem.W.typeIn K (.ref a_xi_NoPost) = some (.type "function")
  xf_NoPost : PySem.W.findIn K (.ref k_NoPost) "post" = some none
  xc_NoPost : XCl K "NoPost" k_NoPost
  vb_LookupError : PySem.W.findCls K (.type "LookupError") (.type "type") "__init__" = some (.val (.builtin "LookupError.__init__"))
  xk_0 : PySem.W.subIn K (.ref k_NoPost) (.type "BaseException") = some true
  xk_1 : PySem.W.hasDictIn K k_NoPost = true
  xk_2 : PySem.W.typeIn K (.ref k_NoPost) = some (.type "type")
  xk_3 : PySem.W.subIn K (.ref k_NoPost) (.ref k_NoPost) = some true
  xk_4 : PySem.W.subIn K (.ref k_NoPost) (.type "IndexError") = some false
  xk_5 : PySem.W.subIn K (.ref k_NoPost) (.type "KeyError") = some false
  xk_6 : PySem.W.subIn K (.ref k_NoPost) (.type "LookupError") = some true
  xk_7 : PySem.W.findIn K (.ref k_NoPost) "post" = some none
  z_IndexError : mg "IndexError" = none
  z_KeyError : mg "KeyError" = none
  z_LookupError : mg "LookupError" = none
  z_abs : mg "abs" = none
  z_all : mg "all" = none
  z_bool : mg "bool" = none
  z_enumerate : mg "enumerate" = none
  z_int : mg "int" = none
  z_isinstance : mg "isinstance" = none
  z_len : mg "len" = none
  z_list : mg "list" = none
  z_max : mg "max" = none
  z_min : mg "min" = none
  z_range : mg "range" = none
  z_reversed : mg "reversed" = none
  z_str : mg "str" = none
  z_sum : mg "sum" = none
  z_tuple : mg "tuple" = none
  z_zip : mg "zip" = none
section
variable {P : Program} {w : World} {K : Fr} {mg : Str → Option Value} {base : Heap} {a_steepest a_sand a_raised a_mirrored a_upside a_look_post a_handed a_l_cell_at a_l_box a_l_take a_l_same a_l_dune a_l_steep a_l_refused a_law a_xi_NoPost k_NoPost : Addr} {d_steepest d_sand d_raised d_mirrored d_upside d_look_post d_handed d_l_cell_at d_l_box d_l_take d_l_same d_l_dune d_l_steep d_l_refused d_law d_xi_NoPost : FuncData}
theorem ok_xi_NoPost (T : Txt K mg a_steepest a_sand a_raised a_mirrored a_upside a_look_post a_handed a_l_cell_at a_l_box a_l_take a_l_same a_l_dune a_l_steep a_l_refused a_law a_xi_NoPost k_NoPost d_steepest d_sand d_raised d_mirrored d_upside d_look_post d_handed d_l_cell_at d_l_box d_l_take d_l_same d_l_dune d_l_steep d_l_refused d_law d_xi_NoPost) : FnOk P w K mg base CX0 1 a_xi_NoPost d_xi_NoPost p_xi_NoPost (spIn1 K "LookupError.__new__" tlL "post") :=
  fn_xin1 (k := 0) (N := N_xi_NoPost) (ps := p_xi_NoPost) T.F_xi_NoPost sc_xi_NoPost rfl rfl fun cdv A outer s H E => pss_cons (ps_expr (pe_baseI bseL (by rfl) T.z_LookupError bb_LookupError (by decide) (by decide) (by decide +kernel) T.vb_LookupError (by decide +kernel) (pa_cons (pv 0) (pa_cons pe_str pa_nil)))) (pss_one (ps_fldP bseL (pv 0) (pv 1)))
theorem ok_steepest (T : Txt K mg a_steepest a_sand a_raised a_mirrored a_upside a_look_post a_handed a_l_cell_at a_l_box a_l_take a_l_same a_l_dune a_l_steep a_l_refused a_law a_xi_NoPost k_NoPost d_steepest d_sand d_raised d_mirrored d_upside d_look_post d_handed d_l_cell_at d_l_box d_l_take d_l_same d_l_dune d_l_steep d_l_refused d_law d_xi_NoPost) : FnOk P w K mg base CX0 1 a_steepest d_steepest p_steepest (spP K 1 Z_steepest) :=
  fn_pure (k := 0) (N := N_steepest) (ps := p_steepest) T.F_steepest sc_steepest (g := B_steepest) fun cdv A outer s H E hr => by
  have hu := hu128 hr
  have nd := sc_steepest.nd
  exact ss_one (ss_ret (se_dflt (ck_maxD rfl hu) (pe_callBK (ck_maxD rfl hu) (by rfl) T.z_max bb_max (pa_cons (se_lc (own := [("one", 1), ("other", 2)]) rfl nd (si_zip2 (by rfl) T.z_zip (sa_cons (se_var (pv 0)) (sa_cons (se_sl (se_var (pv 0)) (so_some (se_int)) (so_none)) (sa_nil)))) (blkOk_by (N := N_steepest) (sc := defScope s_steepest) (by decide +kernel)) (fun _ _ _ _ _ => sg_tup rfl (sgs_cons (sg_name (pg_name (i := 1) nd rfl (Or.inl rfl))) (sgs_cons (sg_name (pg_name (i := 2) nd rfl (Or.inl rfl))) (sgs_nil)))) (fun _ _ _ _ _ => sts_nil) (fun _ _ _ _ _ => se_callB cr_absD (by rfl) T.z_abs bb_abs (sa_cons (se_op op_subD (se_var (pv 1)) (se_var (pv 2))) (sa_nil))) (by decide)) pa_nil) (pk_cons (se_int) pk_nil))))
theorem ok_sand (T : Txt K mg a_steepest a_sand a_raised a_mirrored a_upside a_look_post a_handed a_l_cell_at a_l_box a_l_take a_l_same a_l_dune a_l_steep a_l_refused a_law a_xi_NoPost k_NoPost d_steepest d_sand d_raised d_mirrored d_upside d_look_post d_handed d_l_cell_at d_l_box d_l_take d_l_same d_l_dune d_l_steep d_l_refused d_law d_xi_NoPost) : FnOk P w K mg base CX0 1 a_sand d_sand p_sand (spP K 1 Z_sand) :=
  fn_pure (k := 0) (N := N_sand) (ps := p_sand) T.F_sand sc_sand (g := B_sand) fun cdv A outer s H E hr => by
  have hu := hu128 hr
  have nd := sc_sand.nd
  exact ss_one (ss_ret (se_callB (cr_sumTD rfl) (by rfl) T.z_sum bb_sum (sa_cons (se_var (pv 0)) (sa_nil))))
theorem ok_raised (T : Txt K mg a_steepest a_sand a_raised a_mirrored a_upside a_look_post a_handed a_l_cell_at a_l_box a_l_take a_l_same a_l_dune a_l_steep a_l_refused a_law a_xi_NoPost k_NoPost d_steepest d_sand d_raised d_mirrored d_upside d_look_post d_handed d_l_cell_at d_l_box d_l_take d_l_same d_l_dune d_l_steep d_l_refused d_law d_xi_NoPost) : FnOk P w K mg base CX0 1 a_raised d_raised p_raised (spP K 2 Z_raised) :=
  fn_pure (k := 0) (N := N_raised) (ps := p_raised) T.F_raised sc_raised (g := B_raised) fun cdv A outer s H E hr => by
  have hu := hu128 hr
  have nd := sc_raised.nd
  exact ss_one (ss_ret (se_callTy cr_tupleD (by rfl) T.z_tuple bb_tuple (sa_cons (se_lc (own := [("height", 2)]) rfl nd (si_seq (se_var (pv 0))) (blkOk_by (N := N_raised) (sc := defScope s_raised) (by decide +kernel)) (fun _ _ _ _ _ => sg_name (pg_name (i := 2) nd rfl (Or.inl rfl))) (fun _ _ _ _ _ => sts_nil) (fun _ _ _ _ _ => se_op op_addD (se_var (pv 2)) (se_var (pv 1))) (by decide)) (sa_nil))))
theorem ok_mirrored (T : Txt K mg a_steepest a_sand a_raised a_mirrored a_upside a_look_post a_handed a_l_cell_at a_l_box a_l_take a_l_same a_l_dune a_l_steep a_l_refused a_law a_xi_NoPost k_NoPost d_steepest d_sand d_raised d_mirrored d_upside d_look_post d_handed d_l_cell_at d_l_box d_l_take d_l_same d_l_dune d_l_steep d_l_refused d_law d_xi_NoPost) : FnOk P w K mg base CX0 1 a_mirrored d_mirrored p_mirrored (spP K 1 Z_mirrored) :=
  fn_pure (k := 0) (N := N_mirrored) (ps := p_mirrored) T.F_mirrored sc_mirrored (g := B_mirrored) fun cdv A outer s H E hr => by
  have hu := hu128 hr
  have nd := sc_mirrored.nd
  exact ss_one (ss_ret (se_tupRevA rfl (by rfl) T.z_tuple (by rfl) T.z_reversed (se_var (pv 0))))
theorem ok_upside (T : Txt K mg a_steepest a_sand a_raised a_mirrored a_upside a_look_post a_handed a_l_cell_at a_l_box a_l_take a_l_same a_l_dune a_l_steep a_l_refused a_law a_xi_NoPost k_NoPost d_steepest d_sand d_raised d_mirrored d_upside d_look_post d_handed d_l_cell_at d_l_box d_l_take d_l_same d_l_dune d_l_steep d_l_refused d_law d_xi_NoPost) : FnOk P w K mg base CX0 1 a_upside d_upside p_upside (spP K 1 Z_upside) :=
  fn_pure (k := 0) (N := N_upside) (ps := p_upside) T.F_upside sc_upside (g := B_upside) fun cdv A outer s H E hr => by
  have hu := hu128 hr
  have nd := sc_upside.nd
  exact ss_one (ss_ret (se_callTy cr_tupleD (by rfl) T.z_tuple bb_tuple (sa_cons (se_lc (own := [("height", 1)]) rfl nd (si_seq (se_var (pv 0))) (blkOk_by (N := N_upside) (sc := defScope s_upside) (by decide +kernel)) (fun _ _ _ _ _ => sg_name (pg_name (i := 1) nd rfl (Or.inl rfl))) (fun _ _ _ _ _ => sts_nil) (fun _ _ _ _ _ => se_un un_negD (se_var (pv 1))) (by decide)) (sa_nil))))
theorem ok_look_post (T : Txt K mg a_steepest a_sand a_raised a_mirrored a_upside a_look_post a_handed a_l_cell_at a_l_box a_l_take a_l_same a_l_dune a_l_steep a_l_refused a_law a_xi_NoPost k_NoPost d_steepest d_sand d_raised d_mirrored d_upside d_look_post d_handed d_l_cell_at d_l_box d_l_take d_l_same d_l_dune d_l_steep d_l_refused d_law d_xi_NoPost) : FnOk P w K mg base CX0 1 a_look_post d_look_post p_look_post (spP K 2 Z_look_post) :=
  fn_pure (k := 0) (N := N_look_post) (ps := p_look_post) T.F_look_post sc_look_post (g := B_look_post) fun cdv A outer s H E hr => by
  have hu := hu128 hr
  have nd := sc_look_post.nd
  exact ss_one (ss_if (st_not (st_chain (op_leD hu) (op_ltD hu) (se_int) (se_var (pv 1)) (se_callB cr_lenD (by rfl) T.z_len bb_len (sa_cons (se_var (pv 0)) (sa_nil))))) (ss_one (ss_never)) (ss_nil))
theorem ok_handed (T : Txt K mg a_steepest a_sand a_raised a_mirrored a_upside a_look_post a_handed a_l_cell_at a_l_box a_l_take a_l_same a_l_dune a_l_steep a_l_refused a_law a_xi_NoPost k_NoPost d_steepest d_sand d_raised d_mirrored d_upside d_look_post d_handed d_l_cell_at d_l_box d_l_take d_l_same d_l_dune d_l_steep d_l_refused d_law d_xi_NoPost) (G_look_post : FnOk P w K mg base CX0 1 a_look_post d_look_post p_look_post (spP K 2 Z_look_post)) : FnOk P w K mg base CX0 2 a_handed d_handed p_handed (spP K 3 Z_handed) :=
  fn_pure (k := 1) (N := N_handed) (ps := p_handed) T.F_handed sc_handed (g := B_handed) fun cdv A outer s H E hr => by
  have hu := hu128 hr
  have nd := sc_handed.nd
  exact ss_cons (ss_expr (se_call G_look_post (hr.mono (by decide)) (by rfl) T.m_look_post T.F_look_post.kp T.b_look_post (sa_cons (se_var (pv 0)) (sa_cons (se_var (pv 1)) (sa_nil))) zl_look_post)) (
    ss_one (ss_ret (se_callTy cr_tupleD (by rfl) T.z_tuple bb_tuple (sa_cons (se_lc (own := [("place", 3), ("height", 4)]) rfl nd (si_enum (by rfl) T.z_enumerate (sa_cons (se_var (pv 0)) (sa_nil))) (blkOk_by (N := N_handed) (sc := defScope s_handed) (by decide +kernel)) (fun _ _ _ _ _ => sg_tup rfl (sgs_cons (sg_name (pg_name (i := 3) nd rfl (Or.inl rfl))) (sgs_cons (sg_name (pg_name (i := 4) nd rfl (Or.inl rfl))) (sgs_nil)))) (fun _ _ _ _ _ => sts_nil) (fun _ _ _ _ _ => se_if (st_cmp (op_eqD' hu) (se_var (pv 3)) (se_var (pv 1)) (nomark _)) (se_op op_addD (se_var (pv 4)) (se_var (pv 2))) (se_var (pv 4))) (by decide)) (sa_nil)))))
theorem ok_l_cell_at (T : Txt K mg a_steepest a_sand a_raised a_mirrored a_upside a_look_post a_handed a_l_cell_at a_l_box a_l_take a_l_same a_l_dune a_l_steep a_l_refused a_law a_xi_NoPost k_NoPost d_steepest d_sand d_raised d_mirrored d_upside d_look_post d_handed d_l_cell_at d_l_box d_l_take d_l_same d_l_dune d_l_steep d_l_refused d_law d_xi_NoPost) : FnOk P w K mg base CX0 1 a_l_cell_at d_l_cell_at p_l_cell_at (spP K 2 Z_l_cell_at) :=
  fn_pure (k := 0) (N := N_l_cell_at) (ps := p_l_cell_at) T.F_l_cell_at sc_l_cell_at (g := B_l_cell_at) fun cdv A outer s H E hr => by
  have hu := hu128 hr
  have nd := sc_l_cell_at.nd
  exact ss_cons (ss_if (st_cmp (op_ltD hu) (se_var (pv 1)) (se_callB cr_lenD (by rfl) T.z_len bb_len (sa_cons (se_var (pv 0)) (sa_nil))) (nomark _)) (ss_one (ss_ret (se_ix (se_var (pv 0)) (se_var (pv 1)) (fun _ _ => rfl)))) (ss_nil)) (
    ss_one (ss_ret (se_int)))
theorem ok_l_box (T : Txt K mg a_steepest a_sand a_raised a_mirrored a_upside a_look_post a_handed a_l_cell_at a_l_box a_l_take a_l_same a_l_dune a_l_steep a_l_refused a_law a_xi_NoPost k_NoPost d_steepest d_sand d_raised d_mirrored d_upside d_look_post d_handed d_l_cell_at d_l_box d_l_take d_l_same d_l_dune d_l_steep d_l_refused d_law d_xi_NoPost) (G_l_cell_at : FnOk P w K mg base CX0 1 a_l_cell_at d_l_cell_at p_l_cell_at (spP K 2 Z_l_cell_at)) : FnOk P w K mg base CX0 2 a_l_box d_l_box p_l_box (spP K 2 Z_l_box) :=
  fn_pure (k := 1) (N := N_l_box) (ps := p_l_box) T.F_l_box sc_l_box (g := B_l_box) fun cdv A outer s H E hr => by
  have hu := hu128 hr
  have nd := sc_l_box.nd
  exact ss_cons (ss_set (ps_set (i := 2) nd rfl (Or.inl rfl) (se_call G_l_cell_at (hr.mono (by decide)) (by rfl) T.m_l_cell_at T.F_l_cell_at.kp T.b_l_cell_at (sa_cons (se_var (pv 0)) (sa_cons (se_var (pv 1)) (sa_nil))) zl_l_cell_at))) (
    ss_one (ss_ret (se_lst (sa_cons (se_op op_mulD (se_callB cr_absD (by rfl) T.z_abs bb_abs (sa_cons (se_var (pv 2)) (sa_nil))) (se_callTy cr_intD (by rfl) T.z_int bb_int (sa_cons (se_cmp (op_geD hu) (se_callB cr_absD (by rfl) T.z_abs bb_abs (sa_cons (se_var (pv 2)) (sa_nil))) (se_op op_powD (se_int) (se_int)) (nomark _)) (sa_nil)))) (sa_cons (se_op op_addD (se_op op_addD (se_op op_modD (se_var (pv 2)) (se_int)) (se_op op_mulD (se_int) (se_var (pv 1)))) (se_int)) (sa_cons (se_int) (sa_nil)))))))
theorem ok_l_take (T : Txt K mg a_steepest a_sand a_raised a_mirrored a_upside a_look_post a_handed a_l_cell_at a_l_box a_l_take a_l_same a_l_dune a_l_steep a_l_refused a_law a_xi_NoPost k_NoPost d_steepest d_sand d_raised d_mirrored d_upside d_look_post d_handed d_l_cell_at d_l_box d_l_take d_l_same d_l_dune d_l_steep d_l_refused d_law d_xi_NoPost) : ∀ n, FnOk P w K mg base CX0 (1 + n) a_l_take d_l_take p_l_take (spB K 2 (Z_l_take n))
  | 0 => fn_boxNo.mono (by decide)
  | n + 1 => by
    have G_l_take := ok_l_take T n
    refine fn_box (k := 1 + n) (N := N_l_take) (ps := p_l_take) T.F_l_take sc_l_take (g := B_l_take (Z_l_take n)) fun cdv A outer s H E hr => ?_
    have hu := hu128 hr
    have nd := sc_l_take.nd
    exact ss_cons (ss_if (st_cmp (op_gtD hu) (se_ownIx (pv 0) (se_int) (fun _ _ => rfl)) (se_int) (nomark _)) (ss_cons (ss_set (ps_set (i := 4) nd rfl (Or.inl rfl) (se_op op_modD (se_ownIx (pv 0) (se_int) (fun _ _ => rfl)) (se_var (pv 1))))) (
    ss_cons (ss_putIx (ps_asg (se_op op_fdivD (se_ownIx (pv 0) (se_int) (fun _ _ => rfl)) (se_var (pv 1))) (pg_sub (pv 0) (se_int) set_list))) (
    ss_one (ss_ret (se_var (pv 4)))))) (ss_nil)) (
    ss_cons (ss_if (st_cmp (op_gtD hu) (se_var (pv 1)) (se_op op_powD (se_int) (se_int)) (nomark _)) (ss_one (ss_ret (se_op op_modD (se_op op_addD (se_box G_l_take (hr.mono (by omega)) (by rfl) T.m_l_take T.F_l_take.kp T.b_l_take zl_l_take (pv 0) (sa_cons (se_op op_powD (se_int) (se_int)) (sa_nil))) (se_op op_mulD (se_op op_powD (se_int) (se_int)) (se_box G_l_take (hr.mono (by omega)) (by rfl) T.m_l_take T.F_l_take.kp T.b_l_take zl_l_take (pv 0) (sa_cons (se_op op_addD (se_op op_fdivD (se_op op_subD (se_var (pv 1)) (se_int)) (se_op op_powD (se_int) (se_int))) (se_int)) (sa_nil))))) (se_var (pv 1))))) (ss_nil)) (
    ss_cons (ss_putIx (ps_asg (se_op op_addD (se_ownIx (pv 0) (se_int) (fun _ _ => rfl)) (se_int)) (pg_sub (pv 0) (se_int) set_list))) (
    ss_cons (ss_set (ps_set (i := 2) nd rfl (Or.inl rfl) (se_op op_modD (se_op op_mulD (se_op op_addD (se_ownIx (pv 0) (se_int) (fun _ _ => rfl)) (se_op op_mulD (se_int) (se_ownIx (pv 0) (se_int) (fun _ _ => rfl)))) (se_op op_addD (se_int) (se_ownIx (pv 0) (se_int) (fun _ _ => rfl)))) (se_int)))) (
    ss_cons (ss_set (ps_set (i := 3) nd rfl (Or.inl rfl) (se_op op_modD (se_op op_mulD (se_op op_addD (se_op op_addD (se_var (pv 2)) (se_ownIx (pv 0) (se_int) (fun _ _ => rfl))) (se_op op_fdivD (se_ownIx (pv 0) (se_int) (fun _ _ => rfl)) (se_int))) (se_op op_addD (se_op op_modD (se_var (pv 2)) (se_int)) (se_int))) (se_int)))) (
    ss_one (ss_ret (se_op op_modD (se_op op_fdivD (se_op op_modD (se_op op_addD (se_op op_mulD (se_var (pv 3)) (se_int)) (se_var (pv 2))) (se_int)) (se_int)) (se_var (pv 1)))))))))
theorem ok_l_same (T : Txt K mg a_steepest a_sand a_raised a_mirrored a_upside a_look_post a_handed a_l_cell_at a_l_box a_l_take a_l_same a_l_dune a_l_steep a_l_refused a_law a_xi_NoPost k_NoPost d_steepest d_sand d_raised d_mirrored d_upside d_look_post d_handed d_l_cell_at d_l_box d_l_take d_l_same d_l_dune d_l_steep d_l_refused d_law d_xi_NoPost) : ∀ n, FnOk P w K mg base CX0 (1 + n) a_l_same d_l_same p_l_same (spP K 2 (Z_l_same n))
  | 0 => fn_pureNo.mono (by decide)
  | n + 1 => by
    have G_l_same := ok_l_same T n
    refine fn_pure (k := 1 + n) (N := N_l_same) (ps := p_l_same) T.F_l_same sc_l_same (g := B_l_same (Z_l_same n)) fun cdv A outer s H E hr => ?_
    have hu := hu128 hr
    have nd := sc_l_same.nd
    exact ss_cons (ss_if (st_val (pt_val (se_isa2 (T := "list") (U := "tuple") (cr_isa2 kit_LT) (by rfl) T.z_isinstance (se_var (pv 1)) (pe_bltn (by rfl) T.z_list bb_list rfl) (pe_bltn (by rfl) T.z_tuple bb_tuple rfl)))) (ss_cons (ss_if (PW.pt (sw_or (st_cmp (op_neD' hu) (se_isa (T := "list") (cr_isa fun _ _ _ _ _ _ _ _ _ h k => PySem.W.isinstance_list_data h k) (by rfl) T.z_isinstance (se_var (pv 0)) (pe_bltn (by rfl) T.z_list bb_list rfl)) (se_isa (T := "list") (cr_isa fun _ _ _ _ _ _ _ _ _ h k => PySem.W.isinstance_list_data h k) (by rfl) T.z_isinstance (se_var (pv 1)) (pe_bltn (by rfl) T.z_list bb_list rfl)) (nomark _)) (sw_or1 (st_cmp (op_neD' hu) (se_isa (T := "tuple") (cr_isa fun _ _ _ _ _ _ _ _ _ h k => PySem.W.isinstance_tuple_data h k) (by rfl) T.z_isinstance (se_var (pv 0)) (pe_bltn (by rfl) T.z_tuple bb_tuple rfl)) (se_isa (T := "tuple") (cr_isa fun _ _ _ _ _ _ _ _ _ h k => PySem.W.isinstance_tuple_data h k) (by rfl) T.z_isinstance (se_var (pv 1)) (pe_bltn (by rfl) T.z_tuple bb_tuple rfl)) (nomark _))))) (ss_one (ss_ret (se_bl))) (ss_nil)) (
    ss_one (ss_ret (se_and (se_cmp (op_eqD' hu) (se_callB cr_lenD (by rfl) T.z_len bb_len (sa_cons (se_var (pv 0)) (sa_nil))) (se_callB cr_lenD (by rfl) T.z_len bb_len (sa_cons (se_var (pv 1)) (sa_nil))) (nomark _)) (se_one (se_callB (cr_allD rfl) (by rfl) T.z_all bb_all (sa_cons (se_lc (own := [("_law_here", 2), ("_law_two", 3)]) rfl nd (si_zip2 (by rfl) T.z_zip (sa_cons (se_var (pv 0)) (sa_cons (se_var (pv 1)) (sa_nil)))) (blkOk_by (N := N_l_same) (sc := defScope s_l_same) (by decide +kernel)) (fun _ _ _ _ _ => sg_tup rfl (sgs_cons (sg_name (pg_name (i := 2) nd rfl (Or.inl rfl))) (sgs_cons (sg_name (pg_name (i := 3) nd rfl (Or.inl rfl))) (sgs_nil)))) (fun _ _ _ _ _ => sts_nil) (fun _ _ _ _ _ => se_call G_l_same (hr.mono (by omega)) (by rfl) T.m_l_same T.F_l_same.kp T.b_l_same (sa_cons (se_var (pv 2)) (sa_cons (se_var (pv 3)) (sa_nil))) zl_l_same) (by decide)) (sa_nil)))))))) (ss_nil)) (
    ss_cons (ss_if (PW.pt (sw_or (st_cmp op_isD (se_var (pv 1)) (se_non) (nomark _)) (sw_or1 (st_val (pt_val (se_isa2 (T := "bool") (U := "str") (cr_isa2 kit_BS) (by rfl) T.z_isinstance (se_var (pv 1)) (pe_bltn (by rfl) T.z_bool bb_bool rfl) (pe_bltn (by rfl) T.z_str bb_str rfl))))))) (ss_one (ss_ret (se_and (se_cmp (op_eqD' hu) (se_var (pv 0)) (se_var (pv 1)) (nomark _)) (se_and (se_cmp (op_eqD' hu) (se_isa (T := "bool") (cr_isa fun _ _ _ _ _ _ _ _ _ h k => PySem.W.isinstance_bool_data h k) (by rfl) T.z_isinstance (se_var (pv 0)) (pe_bltn (by rfl) T.z_bool bb_bool rfl)) (se_isa (T := "bool") (cr_isa fun _ _ _ _ _ _ _ _ _ h k => PySem.W.isinstance_bool_data h k) (by rfl) T.z_isinstance (se_var (pv 1)) (pe_bltn (by rfl) T.z_bool bb_bool rfl)) (nomark _)) (se_one (se_cmp (op_eqD' hu) (se_cmp op_isD (se_var (pv 0)) (se_non) (nomark _)) (se_cmp op_isD (se_var (pv 1)) (se_non) (nomark _)) (nomark _))))))) (ss_nil)) (
    ss_one (ss_ret (se_and (se_isa (T := "int") (cr_isa fun _ _ _ _ _ _ _ _ _ h k => PySem.W.isinstance_int_data h k) (by rfl) T.z_isinstance (se_var (pv 0)) (pe_bltn (by rfl) T.z_int bb_int rfl)) (se_and (se_not (se_isa (T := "bool") (cr_isa fun _ _ _ _ _ _ _ _ _ h k => PySem.W.isinstance_bool_data h k) (by rfl) T.z_isinstance (se_var (pv 0)) (pe_bltn (by rfl) T.z_bool bb_bool rfl))) (se_one (se_cmp (op_eqD' hu) (se_var (pv 0)) (se_var (pv 1)) (nomark _))))))))
theorem ok_l_dune (T : Txt K mg a_steepest a_sand a_raised a_mirrored a_upside a_look_post a_handed a_l_cell_at a_l_box a_l_take a_l_same a_l_dune a_l_steep a_l_refused a_law a_xi_NoPost k_NoPost d_steepest d_sand d_raised d_mirrored d_upside d_look_post d_handed d_l_cell_at d_l_box d_l_take d_l_same d_l_dune d_l_steep d_l_refused d_law d_xi_NoPost) (G_l_take : FnOk P w K mg base CX0 4 a_l_take d_l_take p_l_take (spB K 2 (Z_l_take 3))) : FnOk P w K mg base CX0 5 a_l_dune d_l_dune p_l_dune (spB K 2 Z_l_dune) :=
  fn_box (k := 4) (N := N_l_dune) (ps := p_l_dune) T.F_l_dune sc_l_dune (g := B_l_dune) fun cdv A outer s H E hr => by
  have hu := hu128 hr
  have nd := sc_l_dune.nd
  exact ss_cons (ss_par2 (by decide) (ps_par (i := 4) (j := 5) rfl nd rfl rfl (by decide) rfl rfl (pa_cons (se_op op_addD (se_int) (se_box G_l_take (hr.mono (by decide)) (by rfl) T.m_l_take T.F_l_take.kp T.b_l_take zl_l_take (pv 0) (sa_cons (se_var (pv 1)) (sa_nil)))) (pa_cons (se_ix (se_lst (sa_cons (se_int) (sa_cons (se_int) (sa_cons (se_int) (sa_cons (se_op op_powD (se_int) (se_int)) (sa_nil)))))) (se_box G_l_take (hr.mono (by decide)) (by rfl) T.m_l_take T.F_l_take.kp T.b_l_take zl_l_take (pv 0) (sa_cons (se_int) (sa_nil))) (fun _ _ => rfl)) (pa_nil))) (by rfl))) (
    ss_cons (ss_own (ps_set (i := 2) nd rfl (Or.inl rfl) (se_lst (sa_nil)))) (
    ss_cons (ss_for PassesOwn.never rfl (si_range1 (by rfl) T.z_range (sa_cons (se_var (pv 4)) (sa_nil))) (sg_name (pg_name (i := 3) nd rfl (Or.inl rfl))) (ss_one (ss_expr (se_app (pe_bm PySem.F.plainAttrs_list PySem.F.slot_list_append PySem.F.type_list_append mt_append (pv 2) (pa_cons (se_ix (se_lst (sa_cons (se_int) (sa_cons (se_var (pv 5)) (sa_cons (se_op op_subD (se_box G_l_take (hr.mono (by decide)) (by rfl) T.m_l_take T.F_l_take.kp T.b_l_take zl_l_take (pv 0) (sa_cons (se_op op_addD (se_op op_mulD (se_int) (se_var (pv 5))) (se_int)) (sa_nil))) (se_var (pv 5))) (sa_cons (se_box G_l_take (hr.mono (by decide)) (by rfl) T.m_l_take T.F_l_take.kp T.b_l_take zl_l_take (pv 0) (sa_cons (se_op op_addD (se_var (pv 5)) (se_int)) (sa_nil))) (sa_nil)))))) (se_box G_l_take (hr.mono (by decide)) (by rfl) T.m_l_take T.F_l_take.kp T.b_l_take zl_l_take (pv 0) (sa_cons (se_int) (sa_nil))) (fun _ _ => rfl)) pa_nil)))))) (
    ss_one (ss_frz 2 (ss_ret (se_callTy cr_tupleD (by rfl) T.z_tuple bb_tuple (sa_cons (se_var (pv 2)) (sa_nil))))))))
theorem ok_l_steep (T : Txt K mg a_steepest a_sand a_raised a_mirrored a_upside a_look_post a_handed a_l_cell_at a_l_box a_l_take a_l_same a_l_dune a_l_steep a_l_refused a_law a_xi_NoPost k_NoPost d_steepest d_sand d_raised d_mirrored d_upside d_look_post d_handed d_l_cell_at d_l_box d_l_take d_l_same d_l_dune d_l_steep d_l_refused d_law d_xi_NoPost) : FnOk P w K mg base CX0 1 a_l_steep d_l_steep p_l_steep (spP K 1 Z_l_steep) :=
  fn_pure (k := 0) (N := N_l_steep) (ps := p_l_steep) T.F_l_steep sc_l_steep (g := B_l_steep) fun cdv A outer s H E hr => by
  have hu := hu128 hr
  have nd := sc_l_steep.nd
  exact ss_one (ss_ret (se_callB (cr_maxD1 rfl hu) (by rfl) T.z_max bb_max (sa_cons (se_op op_addD (se_lc (own := [("_law_here", 1), ("_law_there", 2)]) rfl nd (si_zip2 (by rfl) T.z_zip (sa_cons (se_var (pv 0)) (sa_cons (se_sl (se_var (pv 0)) (so_some (se_int)) (so_none)) (sa_nil)))) (blkOk_by (N := N_l_steep) (sc := defScope s_l_steep) (by decide +kernel)) (fun _ _ _ _ _ => sg_tup rfl (sgs_cons (sg_name (pg_name (i := 1) nd rfl (Or.inl rfl))) (sgs_cons (sg_name (pg_name (i := 2) nd rfl (Or.inl rfl))) (sgs_nil)))) (fun _ _ _ _ _ => sts_nil) (fun _ _ _ _ _ => se_callB cr_absD (by rfl) T.z_abs bb_abs (sa_cons (se_op op_subD (se_var (pv 1)) (se_var (pv 2))) (sa_nil))) (by decide)) (se_lst (sa_cons (se_int) (sa_nil)))) (sa_nil))))
theorem ok_l_refused (T : Txt K mg a_steepest a_sand a_raised a_mirrored a_upside a_look_post a_handed a_l_cell_at a_l_box a_l_take a_l_same a_l_dune a_l_steep a_l_refused a_law a_xi_NoPost k_NoPost d_steepest d_sand d_raised d_mirrored d_upside d_look_post d_handed d_l_cell_at d_l_box d_l_take d_l_same d_l_dune d_l_steep d_l_refused d_law d_xi_NoPost) (G_handed : FnOk P w K mg base CX0 2 a_handed d_handed p_handed (spP K 3 Z_handed)) (G_l_same : FnOk P w K mg base CX0 13 a_l_same d_l_same p_l_same (spP K 2 (Z_l_same 12))) (GX_handed : FnOk P w K mg base (L2.CX P w) 4 a_handed d_handed p_handed (spX K 3 R_handed)) : FnOk P w K mg base CX0 14 a_l_refused d_l_refused p_l_refused (spP K 2 Z_l_refused) :=
  fn_pure (k := 13) (N := N_l_refused) (ps := p_l_refused) T.F_l_refused sc_l_refused (g := B_l_refused) fun cdv A outer s H E hr => by
  have hu := hu128 hr
  have nd := sc_l_refused.nd
  exact ss_cons (ss_set (ps_set (i := 2) nd rfl (Or.inl rfl) (se_non))) (
    ss_cons (ss_try (i := 3) (j := 2) (ok := inCs ["NoPost"]) rfl rfl rfl nd rfl rfl rfl rfl (by decide) (by decide) (tests_of (allc_cons ⟨_, T.ns_NoPost, test1 ⟨by rfl, by decide, .inl T.mg_NoPost⟩ (exm1_ref T.xk_0 T.xk_1 T.xk_2 T.xk_3)⟩ (allc_nil))) (ss_one (ss_expr (se_call G_handed (hr.mono (by decide)) (by rfl) T.m_handed T.F_handed.kp T.b_handed (sa_cons (se_var (pv 0)) (sa_cons (se_var (pv 1)) (sa_cons (se_int) (sa_nil)))) zl_handed))) (fun W pn xe tk hpo => xs_head (xs_expr (xe_call GX_handed tk (hr.mono (by decide)) (by rfl) T.m_handed T.F_handed.kp T.b_handed (sa_cons (se_var (pv 0)) (sa_cons (se_var (pv 1)) (sa_cons (se_int) (sa_nil)))) xl_handed)))) (
    ss_cons (ss_if (PW.pt (sw_or (st_xisN (pv 2)) (sw_or (st_val (pt_val (se_xisT (tb := [("NoPost", false)]) (ys := [.ty "IndexError", .ty "KeyError"]) (cvs := [.type "IndexError", .type "KeyError"]) (by rfl) T.z_isinstance bb_isinstance (pv 2) (pa_cons (pe_bltn (v := .ty "IndexError") (by rfl) T.z_IndexError bb_IndexError rfl) (pa_cons (pe_bltn (v := .ty "KeyError") (by rfl) T.z_KeyError bb_KeyError rfl) (pa_nil))) (fun _ _ _ h => h) (by decide) (vals_cls rfl) (alld (allc_cons ⟨_, T.xc_NoPost, kitA_f (kit1_ty (by decide +kernel) T.xk_4) (kitA_f (kit1_ty (by decide +kernel) T.xk_5) (rfl))⟩ (allc_nil)))))) (sw_or1 (st_not (st_val (pt_val (se_xis1 (tb := [("NoPost", true)]) (cv := .type "LookupError") (by rfl) T.z_isinstance bb_isinstance (pv 2) (pe_bltn (v := .ty "LookupError") (by rfl) T.z_LookupError bb_LookupError rfl) (fun _ h => h) (alld (allc_cons ⟨_, T.xc_NoPost, kit1_ty (by decide +kernel) T.xk_6⟩ (allc_nil))))))))))) (ss_one (ss_ret (se_bl))) (ss_nil)) (
    ss_one (ss_ret (se_call G_l_same (hr.mono (by decide)) (by rfl) T.m_l_same T.F_l_same.kp T.b_l_same (sa_cons (se_xfld (cs := ["NoPost"]) (pv 2) (allc_cons ⟨_, T.xc_NoPost, T.xk_7⟩ (allc_nil))) (sa_cons (se_var (pv 1)) (sa_nil))) zl_l_same)))))
theorem ok_law (T : Txt K mg a_steepest a_sand a_raised a_mirrored a_upside a_look_post a_handed a_l_cell_at a_l_box a_l_take a_l_same a_l_dune a_l_steep a_l_refused a_law a_xi_NoPost k_NoPost d_steepest d_sand d_raised d_mirrored d_upside d_look_post d_handed d_l_cell_at d_l_box d_l_take d_l_same d_l_dune d_l_steep d_l_refused d_law d_xi_NoPost) (G_steepest : FnOk P w K mg base CX0 1 a_steepest d_steepest p_steepest (spP K 1 Z_steepest)) (G_sand : FnOk P w K mg base CX0 1 a_sand d_sand p_sand (spP K 1 Z_sand)) (G_raised : FnOk P w K mg base CX0 1 a_raised d_raised p_raised (spP K 2 Z_raised)) (G_mirrored : FnOk P w K mg base CX0 1 a_mirrored d_mirrored p_mirrored (spP K 1 Z_mirrored)) (G_upside : FnOk P w K mg base CX0 1 a_upside d_upside p_upside (spP K 1 Z_upside)) (G_handed : FnOk P w K mg base CX0 2 a_handed d_handed p_handed (spP K 3 Z_handed)) (G_l_box : FnOk P w K mg base CX0 2 a_l_box d_l_box p_l_box (spP K 2 Z_l_box)) (G_l_take : FnOk P w K mg base CX0 4 a_l_take d_l_take p_l_take (spB K 2 (Z_l_take 3))) (G_l_same : FnOk P w K mg base CX0 13 a_l_same d_l_same p_l_same (spP K 2 (Z_l_same 12))) (G_l_dune : FnOk P w K mg base CX0 5 a_l_dune d_l_dune p_l_dune (spB K 2 Z_l_dune)) (G_l_steep : FnOk P w K mg base CX0 1 a_l_steep d_l_steep p_l_steep (spP K 1 Z_l_steep)) (G_l_refused : FnOk P w K mg base CX0 14 a_l_refused d_l_refused p_l_refused (spP K 2 Z_l_refused)) : FnOk P w K mg base CX0 15 a_law d_law p_law (spP K 1 Z_law) :=
  fn_pure (k := 14) (N := N_law) (ps := p_law) T.F_law sc_law (g := B_law) fun cdv A outer s H E hr => by
  have hu := hu128 hr
  have nd := sc_law.nd
  exact ss_cons (ss_for PassesOwn.never rfl (si_range1 (by rfl) T.z_range (sa_cons (se_op op_addD (se_int) (se_callB (cr_min2D rfl) (by rfl) T.z_min bb_min (sa_cons (se_int) (sa_cons (se_callB cr_lenD (by rfl) T.z_len bb_len (sa_cons (se_var (pv 0)) (sa_nil))) (sa_nil))))) (sa_nil))) (sg_name (pg_name (i := 1) nd rfl (Or.inl rfl))) (ss_cons (ss_own (ps_set (i := 2) nd rfl (Or.inl rfl) (se_call G_l_box (hr.mono (by decide)) (by rfl) T.m_l_box T.F_l_box.kp T.b_l_box (sa_cons (se_var (pv 0)) (sa_cons (se_var (pv 1)) (sa_nil))) zl_l_box))) (
    ss_cons (ss_parN (ps := [(7, false, mBox 2 Z_l_dune (mCons (mC (.int 40)) (mNil))), (8, false, m2 subD (mBox 2 (Z_l_take 3) (mCons (mC (.int 2001)) (mNil))) (mC (.int 1000)))]) rfl (by decide) (by decide) (ps_asg (pe_tup (pa_cons (se_box G_l_dune (hr.mono (by decide)) (by rfl) T.m_l_dune T.F_l_dune.kp T.b_l_dune zl_l_dune (pv 2) (sa_cons (se_int) (sa_nil))) (pa_cons (se_op op_subD (se_box G_l_take (hr.mono (by decide)) (by rfl) T.m_l_take T.F_l_take.kp T.b_l_take zl_l_take (pv 2) (sa_cons (se_int) (sa_nil))) (se_int)) (pa_nil)))) (pg_tup rfl (pgs_cons (pg_name (i := 7) nd rfl (Or.inr rfl)) (pgs_cons (pg_name (i := 8) nd rfl (Or.inr rfl)) (pgs_nil)))))) (
    ss_cons (ss_par2 (by decide) (ps_par (i := 9) (j := 10) rfl nd rfl rfl (by decide) rfl rfl (pa_cons (se_callTy cr_listD (by rfl) T.z_list bb_list (sa_cons (se_var (pv 7)) (sa_nil))) (pa_cons (se_box G_l_take (hr.mono (by decide)) (by rfl) T.m_l_take T.F_l_take.kp T.b_l_take zl_l_take (pv 2) (sa_cons (se_callB cr_lenD (by rfl) T.z_len bb_len (sa_cons (se_var (pv 7)) (sa_nil))) (sa_nil))) (pa_nil))) (by rfl))) (
    ss_cons (ss_set (ps_set (i := 3) nd rfl (Or.inl rfl) (se_lst (sa_cons (se_call G_steepest (hr.mono (by decide)) (by rfl) T.m_steepest T.F_steepest.kp T.b_steepest (sa_cons (se_var (pv 7)) (sa_nil)) zl_steepest) (sa_cons (se_callK G_steepest (hr.mono (by decide)) (by rfl) T.m_steepest T.F_steepest.kp T.kb_steepest (sk_cons (se_var (pv 9)) (sk_nil)) zl_steepest) (sa_cons (se_call G_sand (hr.mono (by decide)) (by rfl) T.m_sand T.F_sand.kp T.b_sand (sa_cons (se_var (pv 9)) (sa_nil)) zl_sand) (sa_cons (se_callK G_sand (hr.mono (by decide)) (by rfl) T.m_sand T.F_sand.kp T.kb_sand (sk_cons (se_var (pv 7)) (sk_nil)) zl_sand) (sa_nil)))))))) (
    ss_cons (ss_if (st_not (st_val (pt_val (se_call G_l_same (hr.mono (by decide)) (by rfl) T.m_l_same T.F_l_same.kp T.b_l_same (sa_cons (se_var (pv 3)) (sa_cons (se_op op_addD (se_op op_mulD (se_lst (sa_cons (se_call G_l_steep (hr.mono (by decide)) (by rfl) T.m_l_steep T.F_l_steep.kp T.b_l_steep (sa_cons (se_var (pv 7)) (sa_nil)) zl_l_steep) (sa_nil))) (se_int)) (se_op op_mulD (se_lst (sa_cons (se_callB (cr_sumTD rfl) (by rfl) T.z_sum bb_sum (sa_cons (se_var (pv 7)) (sa_nil))) (sa_nil))) (se_int))) (sa_nil))) zl_l_same)))) (ss_one (ss_ret (se_bl))) (ss_nil)) (
    ss_cons (ss_set (ps_set (i := 4) nd rfl (Or.inl rfl) (se_callTy cr_tupleD (by rfl) T.z_tuple bb_tuple (sa_cons (se_lc (own := [("_law_level", 11)]) rfl nd (si_seq (se_var (pv 7))) (blkOk_by (N := N_law) (sc := defScope s_law) (by decide +kernel)) (fun _ _ _ _ _ => sg_name (pg_name (i := 11) nd rfl (Or.inl rfl))) (fun _ _ _ _ _ => sts_nil) (fun _ _ _ _ _ => se_op op_addD (se_var (pv 11)) (se_var (pv 8))) (by decide)) (sa_nil))))) (
    ss_cons (ss_set (ps_set (i := 3) nd rfl (Or.inl rfl) (se_lst (sa_cons (se_call G_raised (hr.mono (by decide)) (by rfl) T.m_raised T.F_raised.kp T.b_raised (sa_cons (se_var (pv 9)) (sa_cons (se_var (pv 8)) (sa_nil))) zl_raised) (sa_cons (se_callK G_raised (hr.mono (by decide)) (by rfl) T.m_raised T.F_raised.kp T.kb_raised (sk_cons (se_var (pv 8)) (sk_cons (se_var (pv 7)) (sk_nil))) zl_raised) (sa_cons (se_call G_raised (hr.mono (by decide)) (by rfl) T.m_raised T.F_raised.kp T.b_raised (sa_cons (se_var (pv 4)) (sa_cons (se_un un_negD (se_var (pv 8))) (sa_nil))) zl_raised) (sa_nil))))))) (
    ss_cons (ss_if (st_not (st_val (pt_val (se_call G_l_same (hr.mono (by decide)) (by rfl) T.m_l_same T.F_l_same.kp T.b_l_same (sa_cons (se_var (pv 3)) (sa_cons (se_lst (sa_cons (se_var (pv 4)) (sa_cons (se_var (pv 4)) (sa_cons (se_var (pv 7)) (sa_nil))))) (sa_nil))) zl_l_same)))) (ss_one (ss_ret (se_bl))) (ss_nil)) (
    ss_cons (ss_set (ps_set (i := 3) nd rfl (Or.inl rfl) (se_lst (sa_cons (se_call G_mirrored (hr.mono (by decide)) (by rfl) T.m_mirrored T.F_mirrored.kp T.b_mirrored (sa_cons (se_var (pv 9)) (sa_nil)) zl_mirrored) (sa_cons (se_callK G_mirrored (hr.mono (by decide)) (by rfl) T.m_mirrored T.F_mirrored.kp T.kb_mirrored (sk_cons (se_var (pv 7)) (sk_nil)) zl_mirrored) (sa_cons (se_call G_upside (hr.mono (by decide)) (by rfl) T.m_upside T.F_upside.kp T.b_upside (sa_cons (se_var (pv 9)) (sa_nil)) zl_upside) (sa_cons (se_callK G_upside (hr.mono (by decide)) (by rfl) T.m_upside T.F_upside.kp T.kb_upside (sk_cons (se_var (pv 7)) (sk_nil)) zl_upside) (sa_cons (se_call G_upside (hr.mono (by decide)) (by rfl) T.m_upside T.F_upside.kp T.b_upside (sa_cons (se_call G_upside (hr.mono (by decide)) (by rfl) T.m_upside T.F_upside.kp T.b_upside (sa_cons (se_var (pv 7)) (sa_nil)) zl_upside) (sa_nil)) zl_upside) (sa_nil))))))))) (
    ss_cons (ss_set (ps_set (i := 5) nd rfl (Or.inl rfl) (se_callTy cr_tupleD (by rfl) T.z_tuple bb_tuple (sa_cons (se_lc (own := [("_law_level", 11)]) rfl nd (si_seq (se_var (pv 7))) (blkOk_by (N := N_law) (sc := defScope s_law) (by decide +kernel)) (fun _ _ _ _ _ => sg_name (pg_name (i := 11) nd rfl (Or.inl rfl))) (fun _ _ _ _ _ => sts_nil) (fun _ _ _ _ _ => se_un un_negD (se_var (pv 11))) (by decide)) (sa_nil))))) (
    ss_cons (ss_if (PW.pt (sw_or (st_not (st_val (pt_val (se_call G_l_same (hr.mono (by decide)) (by rfl) T.m_l_same T.F_l_same.kp T.b_l_same (sa_cons (se_var (pv 3)) (sa_cons (se_lst (sa_cons (se_revS (se_var (pv 7))) (sa_cons (se_revS (se_var (pv 7))) (sa_cons (se_var (pv 5)) (sa_cons (se_var (pv 5)) (sa_cons (se_var (pv 7)) (sa_nil))))))) (sa_nil))) zl_l_same)))) (sw_or1 (st_cmp (op_neD' hu) (se_var (pv 9)) (se_callTy cr_listD (by rfl) T.z_list bb_list (sa_cons (se_var (pv 7)) (sa_nil))) (nomark _))))) (ss_one (ss_ret (se_bl))) (ss_nil)) (
    ss_cons (ss_set (ps_set (i := 6) nd rfl (Or.inl rfl) (se_op op_addD (se_op op_addD (se_sl (se_var (pv 7)) (so_none) (so_some (se_var (pv 10)))) (se_tup (sa_cons (se_op op_addD (se_ix (se_var (pv 7)) (se_var (pv 10)) (fun _ _ => rfl)) (se_var (pv 8))) (sa_nil)))) (se_sl (se_var (pv 7)) (so_some (se_op op_addD (se_var (pv 10)) (se_int))) (so_none))))) (
    ss_cons (ss_set (ps_set (i := 3) nd rfl (Or.inl rfl) (se_lst (sa_cons (se_call G_handed (hr.mono (by decide)) (by rfl) T.m_handed T.F_handed.kp T.b_handed (sa_cons (se_var (pv 9)) (sa_cons (se_var (pv 10)) (sa_cons (se_var (pv 8)) (sa_nil)))) zl_handed) (sa_cons (se_callK G_handed (hr.mono (by decide)) (by rfl) T.m_handed T.F_handed.kp T.kb_handed (sk_cons (se_var (pv 8)) (sk_cons (se_var (pv 10)) (sk_cons (se_var (pv 7)) (sk_nil)))) zl_handed) (sa_cons (se_call G_handed (hr.mono (by decide)) (by rfl) T.m_handed T.F_handed.kp T.b_handed (sa_cons (se_var (pv 6)) (sa_cons (se_var (pv 10)) (sa_cons (se_un un_negD (se_var (pv 8))) (sa_nil)))) zl_handed) (sa_nil))))))) (
    ss_cons (ss_if (st_not (st_val (pt_val (se_call G_l_same (hr.mono (by decide)) (by rfl) T.m_l_same T.F_l_same.kp T.b_l_same (sa_cons (se_var (pv 3)) (sa_cons (se_lst (sa_cons (se_var (pv 6)) (sa_cons (se_var (pv 6)) (sa_cons (se_var (pv 7)) (sa_nil))))) (sa_nil))) zl_l_same)))) (ss_one (ss_ret (se_bl))) (ss_nil)) (
    ss_cons (ss_if (st_not (st_val (pt_val (se_callB (cr_allD rfl) (by rfl) T.z_all bb_all (sa_cons (se_lc (own := [("_law_wrong", 12)]) rfl nd (si_seq (se_tup (sa_cons (se_un un_negD (se_int)) (sa_cons (se_callB cr_lenD (by rfl) T.z_len bb_len (sa_cons (se_var (pv 7)) (sa_nil))) (sa_cons (se_op op_powD (se_int) (se_int)) (sa_cons (se_un un_negD (se_callB cr_lenD (by rfl) T.z_len bb_len (sa_cons (se_var (pv 7)) (sa_nil)))) (sa_nil))))))) (blkOk_by (N := N_law) (sc := defScope s_law) (by decide +kernel)) (fun _ _ _ _ _ => sg_name (pg_name (i := 12) nd rfl (Or.inl rfl))) (fun _ _ _ _ _ => sts_nil) (fun _ _ _ _ _ => se_call G_l_refused (hr.mono (by decide)) (by rfl) T.m_l_refused T.F_l_refused.kp T.b_l_refused (sa_cons (se_var (pv 7)) (sa_cons (se_var (pv 12)) (sa_nil))) zl_l_refused) (by decide)) (sa_nil)))))) (ss_one (ss_ret (se_bl))) (ss_nil)) ss_nil)))))))))))))))) (
    ss_one (ss_ret (se_bl)))
theorem okx_look_post (T : Txt K mg a_steepest a_sand a_raised a_mirrored a_upside a_look_post a_handed a_l_cell_at a_l_box a_l_take a_l_same a_l_dune a_l_steep a_l_refused a_law a_xi_NoPost k_NoPost d_steepest d_sand d_raised d_mirrored d_upside d_look_post d_handed d_l_cell_at d_l_box d_l_take d_l_same d_l_dune d_l_steep d_l_refused d_law d_xi_NoPost) (G_xi_NoPost : FnOk P w K mg base CX0 1 a_xi_NoPost d_xi_NoPost p_xi_NoPost (spIn1 K "LookupError.__new__" tlL "post")) : FnOk P w K mg base (L2.CX P w) 3 a_look_post d_look_post p_look_post (spX K 2 R_look_post) :=
  fn_raise (k := 2) (N := N_look_post) (ps := p_look_post) T.F_look_post sc_look_post (g := X_look_post) fun cdv A outer s H E hr tk hpo => by
  have hu := hu128 hr
  have nd := sc_look_post.nd
  exact xs_head (xs_if (st_not (st_chain (op_leD hu) (op_ltD hu) (se_int) (se_var (pv 1)) (se_callB cr_lenD (by rfl) T.z_len bb_len (sa_cons (se_var (pv 0)) (sa_nil))))) (xs_head (xs_raise rfl tk bseL T.ox_NoPost T.xi_NoPost T.xt_NoPost T.xf_NoPost G_xi_NoPost (hr.mono (by decide)) T.b_xi_NoPost (by rfl) T.mg_NoPost T.ns_NoPost (se_var (pv 1)))) (xss_no))
theorem okx_handed (T : Txt K mg a_steepest a_sand a_raised a_mirrored a_upside a_look_post a_handed a_l_cell_at a_l_box a_l_take a_l_same a_l_dune a_l_steep a_l_refused a_law a_xi_NoPost k_NoPost d_steepest d_sand d_raised d_mirrored d_upside d_look_post d_handed d_l_cell_at d_l_box d_l_take d_l_same d_l_dune d_l_steep d_l_refused d_law d_xi_NoPost) (GX_look_post : FnOk P w K mg base (L2.CX P w) 3 a_look_post d_look_post p_look_post (spX K 2 R_look_post)) : FnOk P w K mg base (L2.CX P w) 4 a_handed d_handed p_handed (spX K 3 R_handed) :=
  fn_raise (k := 3) (N := N_handed) (ps := p_handed) T.F_handed sc_handed (g := X_handed) fun cdv A outer s H E hr tk hpo => by
  have hu := hu128 hr
  have nd := sc_handed.nd
  exact xs_head (xs_expr (xe_call GX_look_post tk (hr.mono (by decide)) (by rfl) T.m_look_post T.F_look_post.kp T.b_look_post (sa_cons (se_var (pv 0)) (sa_cons (se_var (pv 1)) (sa_nil))) xl_look_post))
theorem ok_all (T : Txt K mg a_steepest a_sand a_raised a_mirrored a_upside a_look_post a_handed a_l_cell_at a_l_box a_l_take a_l_same a_l_dune a_l_steep a_l_refused a_law a_xi_NoPost k_NoPost d_steepest d_sand d_raised d_mirrored d_upside d_look_post d_handed d_l_cell_at d_l_box d_l_take d_l_same d_l_dune d_l_steep d_l_refused d_law d_xi_NoPost) : FnOk P w K mg base CX0 15 a_law d_law p_law (spP K 1 Z_law) := by
  have G_xi_NoPost := ok_xi_NoPost (P := P) (w := w) (base := base) T
  have G_steepest := ok_steepest (P := P) (w := w) (base := base) T
  have G_sand := ok_sand (P := P) (w := w) (base := base) T
  have G_raised := ok_raised (P := P) (w := w) (base := base) T
  have G_mirrored := ok_mirrored (P := P) (w := w) (base := base) T
  have G_upside := ok_upside (P := P) (w := w) (base := base) T
  have G_look_post := ok_look_post (P := P) (w := w) (base := base) T
  have GX_look_post := okx_look_post (P := P) (w := w) (base := base) T G_xi_NoPost
  have G_handed := ok_handed (P := P) (w := w) (base := base) T G_look_post
  have GX_handed := okx_handed (P := P) (w := w) (base := base) T GX_look_post
  have G_l_cell_at := ok_l_cell_at (P := P) (w := w) (base := base) T
  have G_l_box := ok_l_box (P := P) (w := w) (base := base) T G_l_cell_at
  have G_l_take := (ok_l_take (P := P) (w := w) (base := base) T 3)
  have G_l_same := (ok_l_same (P := P) (w := w) (base := base) T 12)
  have G_l_dune := ok_l_dune (P := P) (w := w) (base := base) T G_l_take
  have G_l_steep := ok_l_steep (P := P) (w := w) (base := base) T
  have G_l_refused := ok_l_refused (P := P) (w := w) (base := base) T G_handed G_l_same GX_handed
  have G_law := ok_law (P := P) (w := w) (base := base) T G_steepest G_sand G_raised G_mirrored G_upside G_handed G_l_box G_l_take G_l_same G_l_dune G_l_steep G_l_refused
  exact G_law
end
/-! ### what the top has written -/
theorem all_mk {l : PySem.W.OpenLaw} {w : World} {K : Fr} {h : Heap} {mg : Str → Option Value} {fa a_steepest a_sand a_raised a_mirrored a_upside a_look_post a_handed a_l_cell_at a_l_box a_l_take a_l_same a_l_dune a_l_steep a_l_refused a_law a_xi_NoPost k_NoPost : Addr} (X : K.In h) (G : h.Ns mainGlobals mg) (hfa : mg "law" = some (.ref fa))
    {od0 an0 od1 an1 od2 an2 od3 an3 od4 an4 od5 an5 od6 an6 od7 an7 od8 an8 od9 an9 od10 an10 od11 an11 od12 an12 od13 an13 od14 an14 : Option Addr} {sl0 sl1 sl2 sl3 sl4 sl5 sl6 sl7 sl8 sl9 sl10 sl11 sl12 sl13 sl14 : Array (Option Value)} {oc0 kV0 dc0 pm0 cd0 ct0 oc1 kV1 dc1 pm1 cd1 ct1 oc2 kV2 dc2 pm2 cd2 ct2 oc3 kV3 dc3 pm3 cd3 ct3 oc4 kV4 dc4 pm4 cd4 ct4 oc5 kV5 dc5 pm5 cd5 ct5 oc6 kV6 dc6 pm6 cd6 ct6 oc7 kV7 dc7 pm7 cd7 ct7 oc8 kV8 dc8 pm8 cd8 ct8 oc9 kV9 dc9 pm9 cd9 ct9 oc10 kV10 dc10 pm10 cd10 ct10 oc11 kV11 dc11 pm11 cd11 ct11 oc12 kV12 dc12 pm12 cd12 ct12 oc13 kV13 dc13 pm13 cd13 ct13 oc14 kV14 dc14 pm14 cd14 ct14 : Value}
    (a0 : PySem.W.nsIn K mainGlobals "steepest" = some (some (.ref a_steepest))) (l0 : K.lookup a_steepest = some ⟨oc0, od0, .func (PySem.W.fnOf "steepest" "steepest" (defArgs s_steepest) (defBody s_steepest) (defScope s_steepest) .none kV0 dc0 pm0 an0 cd0 ct0), sl0⟩) (c0 : PySem.W.codeIn K cd0 "steepest" = true) (k0 : PySem.W.keepIn K (.ref a_steepest) = true)
    (a1 : PySem.W.nsIn K mainGlobals "sand" = some (some (.ref a_sand))) (l1 : K.lookup a_sand = some ⟨oc1, od1, .func (PySem.W.fnOf "sand" "sand" (defArgs s_sand) (defBody s_sand) (defScope s_sand) .none kV1 dc1 pm1 an1 cd1 ct1), sl1⟩) (c1 : PySem.W.codeIn K cd1 "sand" = true) (k1 : PySem.W.keepIn K (.ref a_sand) = true)
    (a2 : PySem.W.nsIn K mainGlobals "raised" = some (some (.ref a_raised))) (l2 : K.lookup a_raised = some ⟨oc2, od2, .func (PySem.W.fnOf "raised" "raised" (defArgs s_raised) (defBody s_raised) (defScope s_raised) .none kV2 dc2 pm2 an2 cd2 ct2), sl2⟩) (c2 : PySem.W.codeIn K cd2 "raised" = true) (k2 : PySem.W.keepIn K (.ref a_raised) = true)
    (a3 : PySem.W.nsIn K mainGlobals "mirrored" = some (some (.ref a_mirrored))) (l3 : K.lookup a_mirrored = some ⟨oc3, od3, .func (PySem.W.fnOf "mirrored" "mirrored" (defArgs s_mirrored) (defBody s_mirrored) (defScope s_mirrored) .none kV3 dc3 pm3 an3 cd3 ct3), sl3⟩) (c3 : PySem.W.codeIn K cd3 "mirrored" = true) (k3 : PySem.W.keepIn K (.ref a_mirrored) = true)
    (a4 : PySem.W.nsIn K mainGlobals "upside" = some (some (.ref a_upside))) (l4 : K.lookup a_upside = some ⟨oc4, od4, .func (PySem.W.fnOf "upside" "upside" (defArgs s_upside) (defBody s_upside) (defScope s_upside) .none kV4 dc4 pm4 an4 cd4 ct4), sl4⟩) (c4 : PySem.W.codeIn K cd4 "upside" = true) (k4 : PySem.W.keepIn K (.ref a_upside) = true)
    (a5 : PySem.W.nsIn K mainGlobals "look_post" = some (some (.ref a_look_post))) (l5 : K.lookup a_look_post = some ⟨oc5, od5, .func (PySem.W.fnOf "look_post" "look_post" (defArgs s_look_post) (defBody s_look_post) (defScope s_look_post) .none kV5 dc5 pm5 an5 cd5 ct5), sl5⟩) (c5 : PySem.W.codeIn K cd5 "look_post" = true) (k5 : PySem.W.keepIn K (.ref a_look_post) = true)
    (a6 : PySem.W.nsIn K mainGlobals "handed" = some (some (.ref a_handed))) (l6 : K.lookup a_handed = some ⟨oc6, od6, .func (PySem.W.fnOf "handed" "handed" (defArgs s_handed) (defBody s_handed) (defScope s_handed) .none kV6 dc6 pm6 an6 cd6 ct6), sl6⟩) (c6 : PySem.W.codeIn K cd6 "handed" = true) (k6 : PySem.W.keepIn K (.ref a_handed) = true)
    (a7 : PySem.W.nsIn K mainGlobals "_law_cell_at" = some (some (.ref a_l_cell_at))) (l7 : K.lookup a_l_cell_at = some ⟨oc7, od7, .func (PySem.W.fnOf "_law_cell_at" "_law_cell_at" (defArgs s_l_cell_at) (defBody s_l_cell_at) (defScope s_l_cell_at) .none kV7 dc7 pm7 an7 cd7 ct7), sl7⟩) (c7 : PySem.W.codeIn K cd7 "_law_cell_at" = true) (k7 : PySem.W.keepIn K (.ref a_l_cell_at) = true)
    (a8 : PySem.W.nsIn K mainGlobals "_law_box" = some (some (.ref a_l_box))) (l8 : K.lookup a_l_box = some ⟨oc8, od8, .func (PySem.W.fnOf "_law_box" "_law_box" (defArgs s_l_box) (defBody s_l_box) (defScope s_l_box) .none kV8 dc8 pm8 an8 cd8 ct8), sl8⟩) (c8 : PySem.W.codeIn K cd8 "_law_box" = true) (k8 : PySem.W.keepIn K (.ref a_l_box) = true)
    (a9 : PySem.W.nsIn K mainGlobals "_law_take" = some (some (.ref a_l_take))) (l9 : K.lookup a_l_take = some ⟨oc9, od9, .func (PySem.W.fnOf "_law_take" "_law_take" (defArgs s_l_take) (defBody s_l_take) (defScope s_l_take) .none kV9 dc9 pm9 an9 cd9 ct9), sl9⟩) (c9 : PySem.W.codeIn K cd9 "_law_take" = true) (k9 : PySem.W.keepIn K (.ref a_l_take) = true)
    (a10 : PySem.W.nsIn K mainGlobals "_law_same" = some (some (.ref a_l_same))) (l10 : K.lookup a_l_same = some ⟨oc10, od10, .func (PySem.W.fnOf "_law_same" "_law_same" (defArgs s_l_same) (defBody s_l_same) (defScope s_l_same) .none kV10 dc10 pm10 an10 cd10 ct10), sl10⟩) (c10 : PySem.W.codeIn K cd10 "_law_same" = true) (k10 : PySem.W.keepIn K (.ref a_l_same) = true)
    (a11 : PySem.W.nsIn K mainGlobals "_law_dune" = some (some (.ref a_l_dune))) (l11 : K.lookup a_l_dune = some ⟨oc11, od11, .func (PySem.W.fnOf "_law_dune" "_law_dune" (defArgs s_l_dune) (defBody s_l_dune) (defScope s_l_dune) .none kV11 dc11 pm11 an11 cd11 ct11), sl11⟩) (c11 : PySem.W.codeIn K cd11 "_law_dune" = true) (k11 : PySem.W.keepIn K (.ref a_l_dune) = true)
    (a12 : PySem.W.nsIn K mainGlobals "_law_steep" = some (some (.ref a_l_steep))) (l12 : K.lookup a_l_steep = some ⟨oc12, od12, .func (PySem.W.fnOf "_law_steep" "_law_steep" (defArgs s_l_steep) (defBody s_l_steep) (defScope s_l_steep) .none kV12 dc12 pm12 an12 cd12 ct12), sl12⟩) (c12 : PySem.W.codeIn K cd12 "_law_steep" = true) (k12 : PySem.W.keepIn K (.ref a_l_steep) = true)
    (a13 : PySem.W.nsIn K mainGlobals "_law_refused" = some (some (.ref a_l_refused))) (l13 : K.lookup a_l_refused = some ⟨oc13, od13, .func (PySem.W.fnOf "_law_refused" "_law_refused" (defArgs s_l_refused) (defBody s_l_refused) (defScope s_l_refused) .none kV13 dc13 pm13 an13 cd13 ct13), sl13⟩) (c13 : PySem.W.codeIn K cd13 "_law_refused" = true) (k13 : PySem.W.keepIn K (.ref a_l_refused) = true)
    (a14 : PySem.W.nsIn K mainGlobals "law" = some (some (.ref a_law))) (l14 : K.lookup a_law = some ⟨oc14, od14, .func (PySem.W.fnOf "law" "law" (defArgs s_law) (defBody s_law) (defScope s_law) .none kV14 dc14 pm14 an14 cd14 ct14), sl14⟩) (c14 : PySem.W.codeIn K cd14 "law" = true) (k14 : PySem.W.keepIn K (.ref a_law) = true)
    (ns_NoPost : PySem.W.nsIn K mainGlobals "NoPost" = some (some (.ref k_NoPost)))
    {odx0 anx0 : Option Addr} {slx0 : Array (Option Value)} {ocx0 kVx0 dcx0 pmx0 cdx0 ctx0 : Value}
    (xi_NoPost : PySem.W.findIn K (.ref k_NoPost) "__init__" = some (some (.ref a_xi_NoPost))) (xt_NoPost : PySem.W.typeIn K (.ref a_xi_NoPost) = some (.type "function")) (lx0 : K.lookup a_xi_NoPost = some ⟨ocx0, odx0, .func (PySem.W.fnOf "__init__" "NoPost.__init__" (defArgs s_xi_NoPost) (defBody s_xi_NoPost) (defScope s_xi_NoPost) .none kVx0 dcx0 pmx0 anx0 cdx0 ctx0), slx0⟩) (cx0 : PySem.W.codeIn K cdx0 "NoPost.__init__" = true) (kx0 : PySem.W.keepIn K (.ref a_xi_NoPost) = true)
    {nm_x0 q_x0 : Str} {N_x0 : Addr} {bs_x0 : List Value} {sn_x0 : List Str} {sub_x0 : List Value} {ab_x0 : Bool} {col_x0 : Option Bool} {dd_x0 : Option Addr} {k0_x0 k1_x0 k2_x0 k3_x0 k5_x0 : Option Value}
    (ec_NoPost : K.lookup k_NoPost = some (PySem.excClassObj nm_x0 q_x0 k_NoPost N_x0 bs_x0 tlL true sn_x0 sub_x0 ab_x0 col_x0 dd_x0 k0_x0 k1_x0 k2_x0 k3_x0 k5_x0 "LookupError.__new__")) (sa_NoPost : PySem.W.findIn K (.ref k_NoPost) "__setattr__" = some (some (.builtin "object.__setattr__"))) (xb_NoPost : PySem.W.subIn K (.ref k_NoPost) (.type "BaseException") = some true) (ty_NoPost : PySem.W.typeIn K (.ref k_NoPost) = some (.type "type")) (kc_NoPost : PySem.W.keepIn K (.ref k_NoPost) = true)
    (xf_NoPost : PySem.W.findIn K (.ref k_NoPost) "post" = some none)
    (g1_NoPost : PySem.W.findIn K (.ref k_NoPost) "__getattribute__" = some (some (.builtin "BaseException.__getattribute__"))) (g2_NoPost : PySem.W.findIn K (.ref k_NoPost) "__getattr__" = some none) (g3_NoPost : PySem.W.subIn K (.ref k_NoPost) (.type "BaseException") = some true) (g4_NoPost : PySem.W.hasDictIn K k_NoPost = true) (g5_NoPost : PySem.W.findIn K (.ref k_NoPost) "__class__" = some (some (.builtin "object.__class__"))) (g6_NoPost : PySem.W.specialIn K (.builtin "object.__class__") "__get__" = some (some (.builtin "getset_descriptor.__get__"))) (g7_NoPost : PySem.W.takesIn K (.builtin "object.__class__") = some true) (g8_NoPost : PySem.W.mroIn K k_NoPost (.type "object") = some true)
    (vb_LookupError : PySem.W.findCls K (.type "LookupError") (.type "type") "__init__" = some (.val (.builtin "LookupError.__init__")))
    (xk_0 : PySem.W.subIn K (.ref k_NoPost) (.type "BaseException") = some true)
    (xk_1 : PySem.W.hasDictIn K k_NoPost = true)
    (xk_2 : PySem.W.typeIn K (.ref k_NoPost) = some (.type "type"))
    (xk_3 : PySem.W.subIn K (.ref k_NoPost) (.ref k_NoPost) = some true)
    (xk_4 : PySem.W.subIn K (.ref k_NoPost) (.type "IndexError") = some false)
    (xk_5 : PySem.W.subIn K (.ref k_NoPost) (.type "KeyError") = some false)
    (xk_6 : PySem.W.subIn K (.ref k_NoPost) (.type "LookupError") = some true)
    (xk_7 : PySem.W.findIn K (.ref k_NoPost) "post" = some none)
    (z_IndexError : PySem.W.nsIn K mainGlobals "IndexError" = some none)
    (z_KeyError : PySem.W.nsIn K mainGlobals "KeyError" = some none)
    (z_LookupError : PySem.W.nsIn K mainGlobals "LookupError" = some none)
    (z_abs : PySem.W.nsIn K mainGlobals "abs" = some none)
    (z_all : PySem.W.nsIn K mainGlobals "all" = some none)
    (z_bool : PySem.W.nsIn K mainGlobals "bool" = some none)
    (z_enumerate : PySem.W.nsIn K mainGlobals "enumerate" = some none)
    (z_int : PySem.W.nsIn K mainGlobals "int" = some none)
    (z_isinstance : PySem.W.nsIn K mainGlobals "isinstance" = some none)
    (z_len : PySem.W.nsIn K mainGlobals "len" = some none)
    (z_list : PySem.W.nsIn K mainGlobals "list" = some none)
    (z_max : PySem.W.nsIn K mainGlobals "max" = some none)
    (z_min : PySem.W.nsIn K mainGlobals "min" = some none)
    (z_range : PySem.W.nsIn K mainGlobals "range" = some none)
    (z_reversed : PySem.W.nsIn K mainGlobals "reversed" = some none)
    (z_str : PySem.W.nsIn K mainGlobals "str" = some none)
    (z_sum : PySem.W.nsIn K mainGlobals "sum" = some none)
    (z_tuple : PySem.W.nsIn K mainGlobals "tuple" = some none)
    (z_zip : PySem.W.nsIn K mainGlobals "zip" = some none)
    : ∃ fd : FuncData, (∀ (s : Shared) (v : Value), BindsTo s fd ⟨[v], []⟩ [("_law_script", v)]) ∧ ∀ base : Heap, K.In base → base.Ns mainGlobals mg → FnOk l.prog w K mg base CX0 15 fa fd ["_law_script"] (spP K 1 Z_law) := by
  have e := hfa.symm.trans (PySem.W.mg_of X G a14)
  cases e
  have F0 := fun_mk (st := s_steepest) l0 c0 k0
  have kb0 := fun_kb (ps := p_steepest) (ks := ["dune"]) F0 (by decide) fun _ _ _ _ _ _ ws hl => match ws, hl with | [_], _ => rfl
  have b0 := F0.binds (ps := p_steepest) fun _ _ _ _ _ _ us hl => match us, hl with | [_], _ => rfl
  have F1 := fun_mk (st := s_sand) l1 c1 k1
  have kb1 := fun_kb (ps := p_sand) (ks := ["dune"]) F1 (by decide) fun _ _ _ _ _ _ ws hl => match ws, hl with | [_], _ => rfl
  have b1 := F1.binds (ps := p_sand) fun _ _ _ _ _ _ us hl => match us, hl with | [_], _ => rfl
  have F2 := fun_mk (st := s_raised) l2 c2 k2
  have kb2 := fun_kb (ps := p_raised) (ks := ["by", "dune"]) F2 (by decide) fun _ _ _ _ _ _ ws hl => match ws, hl with | [_, _], _ => rfl
  have b2 := F2.binds (ps := p_raised) fun _ _ _ _ _ _ us hl => match us, hl with | [_, _], _ => rfl
  have F3 := fun_mk (st := s_mirrored) l3 c3 k3
  have kb3 := fun_kb (ps := p_mirrored) (ks := ["dune"]) F3 (by decide) fun _ _ _ _ _ _ ws hl => match ws, hl with | [_], _ => rfl
  have b3 := F3.binds (ps := p_mirrored) fun _ _ _ _ _ _ us hl => match us, hl with | [_], _ => rfl
  have F4 := fun_mk (st := s_upside) l4 c4 k4
  have kb4 := fun_kb (ps := p_upside) (ks := ["dune"]) F4 (by decide) fun _ _ _ _ _ _ ws hl => match ws, hl with | [_], _ => rfl
  have b4 := F4.binds (ps := p_upside) fun _ _ _ _ _ _ us hl => match us, hl with | [_], _ => rfl
  have F5 := fun_mk (st := s_look_post) l5 c5 k5
  have b5 := F5.binds (ps := p_look_post) fun _ _ _ _ _ _ us hl => match us, hl with | [_, _], _ => rfl
  have F6 := fun_mk (st := s_handed) l6 c6 k6
  have kb6 := fun_kb (ps := p_handed) (ks := ["by", "post", "dune"]) F6 (by decide) fun _ _ _ _ _ _ ws hl => match ws, hl with | [_, _, _], _ => rfl
  have b6 := F6.binds (ps := p_handed) fun _ _ _ _ _ _ us hl => match us, hl with | [_, _, _], _ => rfl
  have F7 := fun_mk (st := s_l_cell_at) l7 c7 k7
  have b7 := F7.binds (ps := p_l_cell_at) fun _ _ _ _ _ _ us hl => match us, hl with | [_, _], _ => rfl
  have F8 := fun_mk (st := s_l_box) l8 c8 k8
  have b8 := F8.binds (ps := p_l_box) fun _ _ _ _ _ _ us hl => match us, hl with | [_, _], _ => rfl
  have F9 := fun_mk (st := s_l_take) l9 c9 k9
  have b9 := F9.binds (ps := p_l_take) fun _ _ _ _ _ _ us hl => match us, hl with | [_, _], _ => rfl
  have F10 := fun_mk (st := s_l_same) l10 c10 k10
  have b10 := F10.binds (ps := p_l_same) fun _ _ _ _ _ _ us hl => match us, hl with | [_, _], _ => rfl
  have F11 := fun_mk (st := s_l_dune) l11 c11 k11
  have b11 := F11.binds (ps := p_l_dune) fun _ _ _ _ _ _ us hl => match us, hl with | [_, _], _ => rfl
  have F12 := fun_mk (st := s_l_steep) l12 c12 k12
  have b12 := F12.binds (ps := p_l_steep) fun _ _ _ _ _ _ us hl => match us, hl with | [_], _ => rfl
  have F13 := fun_mk (st := s_l_refused) l13 c13 k13
  have b13 := F13.binds (ps := p_l_refused) fun _ _ _ _ _ _ us hl => match us, hl with | [_, _], _ => rfl
  have F14 := fun_mk (st := s_law) l14 c14 k14
  have b14 := F14.binds (ps := p_law) fun _ _ _ _ _ _ us hl => match us, hl with | [_], _ => rfl
  have Fx0 := fun_mk (st := s_xi_NoPost) lx0 cx0 kx0
  have bx0 := Fx0.binds (ps := p_xi_NoPost) fun _ _ _ _ _ _ us hl => match us, hl with | [_, _], _ => rfl
  have T : Txt K mg _ _ _ _ _ _ _ _ _ _ _ _ _ _ _ _ _ _ _ _ _ _ _ _ _ _ _ _ _ _ _ _ _ := ⟨F0, PySem.W.mg_of X G a0, b0, kb0, F1, PySem.W.mg_of X G a1, b1, kb1, F2, PySem.W.mg_of X G a2, b2, kb2, F3, PySem.W.mg_of X G a3, b3, kb3, F4, PySem.W.mg_of X G a4, b4, kb4, F5, PySem.W.mg_of X G a5, b5, F6, PySem.W.mg_of X G a6, b6, kb6, F7, PySem.W.mg_of X G a7, b7, F8, PySem.W.mg_of X G a8, b8, F9, PySem.W.mg_of X G a9, b9, F10, PySem.W.mg_of X G a10, b10, F11, PySem.W.mg_of X G a11, b11, F12, PySem.W.mg_of X G a12, b12, F13, PySem.W.mg_of X G a13, b13, F14, PySem.W.mg_of X G a14, b14, ns_NoPost, PySem.W.mg_of X G ns_NoPost, Fx0, bx0, ⟨⟨_, _, _, _, _, _, _, _, _, _, _, _, _, _, ec_NoPost⟩, sa_NoPost, xb_NoPost, ty_NoPost, kc_NoPost⟩, xi_NoPost, xt_NoPost, xf_NoPost, ⟨ns_NoPost, g1_NoPost, g2_NoPost, g3_NoPost, g4_NoPost, g5_NoPost, g6_NoPost, g7_NoPost, g8_NoPost⟩, vb_LookupError, xk_0, xk_1, xk_2, xk_3, xk_4, xk_5, xk_6, xk_7, PySem.W.mg_none_of X G z_IndexError, PySem.W.mg_none_of X G z_KeyError, PySem.W.mg_none_of X G z_LookupError, PySem.W.mg_none_of X G z_abs, PySem.W.mg_none_of X G z_all, PySem.W.mg_none_of X G z_bool, PySem.W.mg_none_of X G z_enumerate, PySem.W.mg_none_of X G z_int, PySem.W.mg_none_of X G z_isinstance, PySem.W.mg_none_of X G z_len, PySem.W.mg_none_of X G z_list, PySem.W.mg_none_of X G z_max, PySem.W.mg_none_of X G z_min, PySem.W.mg_none_of X G z_range, PySem.W.mg_none_of X G z_reversed, PySem.W.mg_none_of X G z_str, PySem.W.mg_none_of X G z_sum, PySem.W.mg_none_of X G z_tuple, PySem.W.mg_none_of X G z_zip⟩
  exact ⟨_, fun s v => .of_eq rfl, fun base _ _ => ok_all T⟩
end LW

open PySem PySem.W PyProof.Rows
set_option maxHeartbeats 0 in
theorem PySem.Challenge.cw_dunebooks_k02_dunes_otherwise_holds : PySem.Challenge.rw_dunebooks_k02_dunes_otherwise.Holds := by
  w_on; o_law; k_head; (case hw => w_witness2)
  k_fill
  refine L2.walk_of (l := PySem.Challenge.rw_dunebooks_k02_dunes_otherwise) (n := 63) (k := 15) (x := "_law_script") (CX := fun _ => L2.CX0) (sp := fun w => Mir.spP _ 1 LW.Z_law) rfl (by decide) rfl ⟨rfl, by decide, by decide⟩ (fun w h Y => PySem.W.kIn_of Y) ?F (fun _ _ a ns hl _ hS => Mir.law_start LW.law_true hl hS) (fun _ _ _ _ _ h => h)
  case F =>
    intro w mg fa h KX G hmg
    refine' LW.all_mk KX G hmg ?a0 ?l0 ?c0 ?k0 ?a1 ?l1 ?c1 ?k1 ?a2 ?l2 ?c2 ?k2 ?a3 ?l3 ?c3 ?k3 ?a4 ?l4 ?c4 ?k4 ?a5 ?l5 ?c5 ?k5 ?a6 ?l6 ?c6 ?k6 ?a7 ?l7 ?c7 ?k7 ?a8 ?l8 ?c8 ?k8 ?a9 ?l9 ?c9 ?k9 ?a10 ?l10 ?c10 ?k10 ?a11 ?l11 ?c11 ?k11 ?a12 ?l12 ?c12 ?k12 ?a13 ?l13 ?c13 ?k13 ?a14 ?l14 ?c14 ?k14 ?ns_NoPost ?xi_NoPost ?xt_NoPost ?lx0 ?cx0 ?kx0 ?ec_NoPost ?sa_NoPost ?xb_NoPost ?ty_NoPost ?kc_NoPost ?xf_NoPost ?g1_NoPost ?g2_NoPost ?g3_NoPost ?g4_NoPost ?g5_NoPost ?g6_NoPost ?g7_NoPost ?g8_NoPost ?vb_LookupError ?xk_0 ?xk_1 ?xk_2 ?xk_3 ?xk_4 ?xk_5 ?xk_6 ?xk_7 ?z_IndexError ?z_KeyError ?z_LookupError ?z_abs ?z_all ?z_bool ?z_enumerate ?z_int ?z_isinstance ?z_len ?z_list ?z_max ?z_min ?z_range ?z_reversed ?z_str ?z_sum ?z_tuple ?z_zip
    (case a0 => k_is); (case l0 => k_is); (case c0 => k_is); (case k0 => k_is); (case a1 => k_is); (case l1 => k_is); (case c1 => k_is); (case k1 => k_is); (case a2 => k_is); (case l2 => k_is); (case c2 => k_is); (case k2 => k_is); (case a3 => k_is); (case l3 => k_is); (case c3 => k_is); (case k3 => k_is); (case a4 => k_is); (case l4 => k_is); (case c4 => k_is); (case k4 => k_is); (case a5 => k_is); (case l5 => k_is); (case c5 => k_is); (case k5 => k_is); (case a6 => k_is); (case l6 => k_is); (case c6 => k_is); (case k6 => k_is); (case a7 => k_is); (case l7 => k_is); (case c7 => k_is); (case k7 => k_is); (case a8 => k_is); (case l8 => k_is); (case c8 => k_is); (case k8 => k_is); (case a9 => k_is); (case l9 => k_is); (case c9 => k_is); (case k9 => k_is); (case a10 => k_is); (case l10 => k_is); (case c10 => k_is); (case k10 => k_is); (case a11 => k_is); (case l11 => k_is); (case c11 => k_is); (case k11 => k_is); (case a12 => k_is); (case l12 => k_is); (case c12 => k_is); (case k12 => k_is); (case a13 => k_is); (case l13 => k_is); (case c13 => k_is); (case k13 => k_is); (case a14 => k_is); (case l14 => k_is); (case c14 => k_is); (case k14 => k_is); (case ns_NoPost => k_is); (case xi_NoPost => k_is); (case xt_NoPost => k_is); (case lx0 => k_is); (case cx0 => k_is); (case kx0 => k_is); (case ec_NoPost => k_is); (case sa_NoPost => k_is); (case xb_NoPost => k_is); (case ty_NoPost => k_is); (case kc_NoPost => k_is); (case xf_NoPost => k_is); (case g1_NoPost => k_is); (case g2_NoPost => k_is); (case g3_NoPost => k_is); (case g4_NoPost => k_is); (case g5_NoPost => k_is); (case g6_NoPost => k_is); (case g7_NoPost => k_is); (case g8_NoPost => k_is); (case vb_LookupError => k_is); (case xk_0 => k_is); (case xk_1 => k_is); (case xk_2 => k_is); (case xk_3 => k_is); (case xk_4 => k_is); (case xk_5 => k_is); (case xk_6 => k_is); (case xk_7 => k_is); (case z_IndexError => k_is); (case z_KeyError => k_is); (case z_LookupError => k_is); (case z_abs => k_is); (case z_all => k_is); (case z_bool => k_is); (case z_enumerate => k_is); (case z_int => k_is); (case z_isinstance => k_is); (case z_len => k_is); (case z_list => k_is); (case z_max => k_is); (case z_min => k_is); (case z_range => k_is); (case z_reversed => k_is); (case z_str => k_is); (case z_sum => k_is); (case z_tuple => k_is); (case z_zip => k_is)
