import PyProof.Rows.All
import Wide.All
import OpenK.AllK
import Wide.FinOn
import PyProof.EqAt
import PyProof.EqKinds
import PyProof.TupleCall
import HandS.ForMost
import HandS.ForExc
import HandS.Conv
import HandS.TupAny
import HandS.Style
import KE.KDictKeyed
import PyProof.StrOps2
import HandS.TupMul
import HandS.Steps
import HandS.TupLe
import HandS.Deep
import HandS.IsInst
import KE.SortData
import HandS.SetFor
import PyProof.SeqIndex
import HandS.Strs
import HandS.Small
import HandS.TupLen
import HandS.More
import KE.KTupSum
import KE.KDictDisplayH
import HandS.TupSets
import KE.GoesMore
import HandS.ExcIs
import HandS.TryOnly
import HandS.Lambda
import HandS.EndOwn
import PySem.Challenge.RW_staysons_k15_whole_shortest_results
set_option Elab.async false
set_option linter.all false
set_option maxRecDepth 100000
set_option maxHeartbeats 4000000
namespace Fl
open PySem PySem.Spec PyProof.Rows L2

/-! ## data and what stands for it -/
inductive D where
  | non | bl (b : Bool) | int (i : Int) | str (x : Str) | tup (xs : List D) | lst (xs : List D) | scr (ns : List Int)
  | dct (t : Bool) (ks vs : List D) | fn (i : Nat) | ins (c : Nat) (fs : List D) | ptp (xs : List D) | exc (c : Nat) | dcn (ks vs : List D)

/-- the object of a caught exception of the class C -/
def ExO (C : Addr) (a : Addr) : HO := .ext fun h => ∃ oe vs, h.get? a = some oe ∧ oe.cls = .ref C ∧ oe.dict = none ∧ oe.data = .fields vs
/-- the text's own things: functions, classes with the names of their attributes -/
structure Tb where
  K : PySem.W.Frag
  fn : Nat → Addr → Addr → (Heap → Prop) × (Heap → Prop)
  cls : Nat → Addr
  flds : Nat → List Str
  hs : NestedKey → Int

def keyD : D → Option Key
  | .int i => some (.inl i)
  | .str x => some (.inr x)
  | _ => none
def keyT : D → Option (List Key)
  | .tup ds => ds.mapM keyD
  | _ => none

mutual
def keyN : D → Option NestedKey
  | .non => some .none
  | .int i => some (.num i)
  | .str x => some (.text x)
  | .tup ds => (keyNs ds).map .tup
  | _ => none
def keyNs : List D → Option (List NestedKey)
  | [] => some []
  | d :: ds => match keyN d, keyNs ds with
    | some k, some ks => some (k :: ks)
    | _, _ => none
end
def keyM : D → Option NestedKey
  | .tup ds => match keyNs ds with
    | some ks => if NestedKey.depthAll ks ≤ 7 then some (.tup ks) else none
    | none => none
  | _ => none
/-- a dict of such keys at a -/
def DnO (hs : NestedKey → Int) (a : Addr) (xs : List (NestedKey × Addr × Value)) : HO := .ext fun h => ∃ o es ep, h.get? a = some o ∧ o.ExactDict ∧ o.data = .dict es ep ∧ es.toList = xs.map fun x => ⟨hs x.1, .ref x.2.1, x.2.2⟩

mutual
def Rp (T : Tb) (B : Hp) : D → V → Prop
  | .non, v => v = .non
  | .bl b, v => v = .bl b
  | .int i, v => v = .int i
  | .str x, v => v = .str x
  | .tup ds, v => ∃ a xs, v = .ref a ∧ B a = some (.tup xs) ∧ RpL T B ds xs
  | .ptp ds, v => ∃ a xs o, v = .ref a ∧ B a = some (.frz o (.tup xs)) ∧ o.cls = .type "tuple" ∧ o.dict = none ∧ RpL T B ds xs
  | .lst ds, v => ∃ a xs, v = .ref a ∧ B a = some (.lst xs) ∧ RpL T B ds xs
  | .scr ns, v => ∃ a, v = .ref a ∧ SqL T.K B a (ns.map V.int)
  | .dct t ks vs, v => ∃ a, v = .ref a ∧ ((t = false ∧ ∃ kvs, Rd B a (.dK kvs) ∧ ks.map keyD = kvs.map (fun p => some p.1) ∧ RpL T B vs (kvs.map (·.2))) ∨
      (t = true ∧ ∃ kvs, Rd B a (.dT kvs) ∧ ks.map keyT = kvs.map (fun p => some p.1) ∧ RpL T B vs (kvs.map (·.2))))
  | .fn i, v => ∃ a c, v = .ref a ∧ B a = some (.ext (T.fn i a c).1) ∧ B c = some (.ext (T.fn i a c).2)
  | .exc c, v => ∃ a, v = .ref a ∧ B a = some (ExO (T.cls c) a)
  | .dcn ks vs, v => ∃ p a xs us, v = .ref p ∧ B p = some (DnO T.hs a xs) ∧ (a == sysModules) = false ∧ ks.map keyM = xs.map (fun x => some x.1) ∧ (xs.map (·.1)).Nodup ∧ RpL T B ks (xs.map fun x => V.ref x.2.1) ∧ RpL T B vs us ∧ Vals us (xs.map fun x => x.2.2)
  | .ins c fs, v => ∃ a dx nvs, v = .ref a ∧ B a = some (.ins (T.cls c) dx nvs) ∧ nvs.map (·.1) = T.flds c ∧ RpL T B fs (nvs.map (·.2))
def RpL (T : Tb) (B : Hp) : List D → List V → Prop
  | [], xs => xs = []
  | d :: ds, xs => ∃ x r, xs = x :: r ∧ Rp T B d x ∧ RpL T B ds r
end
/-- an object that may change -/
def At (T : Tb) (B : Hp) (o : HO) : D → Prop
  | .lst ds => ∃ xs, o = .lst xs ∧ RpL T B ds xs
  | .dct t ks vs => (t = false ∧ ∃ kvs, o = .dK kvs ∧ ks.map keyD = kvs.map (fun p => some p.1) ∧ RpL T B vs (kvs.map (·.2))) ∨
      (t = true ∧ ∃ kvs, o = .dT kvs ∧ ks.map keyT = kvs.map (fun p => some p.1) ∧ RpL T B vs (kvs.map (·.2)))
  | .ins c fs => ∃ dx nvs, o = .ins (T.cls c) dx nvs ∧ nvs.map (·.1) = T.flds c ∧ RpL T B fs (nvs.map (·.2))
  | .dcn ks vs => ∃ a xs us, o = DnO T.hs a xs ∧ (a == sysModules) = false ∧ ks.map keyM = xs.map (fun x => some x.1) ∧ (xs.map (·.1)).Nodup ∧ RpL T B ks (xs.map fun x => V.ref x.2.1) ∧ RpL T B vs us ∧ Vals us (xs.map fun x => x.2.2)
  | _ => False

abbrev Ex (H H' : Hp) : Prop := ∀ a o, H a = some o → H' a = some o
theorem Ex.rfl {H : Hp} : Ex H H := fun _ _ h => h
theorem Ex.trans {H H1 H2 : Hp} (a : Ex H H1) (b : Ex H1 H2) : Ex H H2 := fun x o h => b x o (a x o h)
theorem Ex.new {H : Hp} {p : Addr} {o : HO} (h : H p = none) : Ex H (upd H p o) := fun a u e => by
  rw [upd_ne (ne_of_none e h)]; exact e
theorem Ex.upd {H H' : Hp} {p : Addr} {o : HO} (e : Ex H H') (h : H p = none) : Ex H (upd H' p o) := fun a u ha => by
  rw [upd_ne (ne_of_none ha h)]; exact e a u ha
theorem Ex.rd {H H' : Hp} {a : Addr} {u : HO} (e : Ex H H') (h : Rd H a u) : Rd H' a u := h.elim (fun h => .inl (e _ _ h)) fun ⟨o, h⟩ => .inr ⟨o, e _ _ h⟩
theorem Ex.none {H H' : Hp} {p : Addr} (e : Ex H H') (h : H' p = none) : H p = none := by
  cases q : H p with
  | none => rfl
  | some o => rw [e p o q] at h; cases h

section
variable {T : Tb} {B B' : Hp}
theorem sql_mono (e : Ex B B') {a : Addr} {xs : List V} (h : SqL T.K B a xs) : SqL T.K B' a xs := by
  rcases h with h | h
  · rcases h with h | ⟨o, h⟩
    · exact .inl (.inl (e _ _ h))
    · exact .inl (.inr ⟨o, e _ _ h⟩)
  · exact .inr h
mutual
theorem Rp.mono (e : Ex B B') : ∀ (d : D) (v : V), Rp T B d v → Rp T B' d v
  | .non, _, h => by simpa [Rp] using h
  | .bl _, _, h => by simpa [Rp] using h
  | .int _, _, h => by simpa [Rp] using h
  | .str _, _, h => by simpa [Rp] using h
  | .tup ds, v, h => by
    simp only [Rp] at h ⊢
    obtain ⟨a, xs, e1, e2, e3⟩ := h
    exact ⟨a, xs, e1, e _ _ e2, RpL.mono e ds xs e3⟩
  | .ptp ds, v, h => by
    simp only [Rp] at h ⊢
    obtain ⟨a, xs, o, e1, e2, e3, e4, e5⟩ := h
    exact ⟨a, xs, o, e1, e _ _ e2, e3, e4, RpL.mono e ds xs e5⟩
  | .lst ds, v, h => by
    obtain ⟨a, xs, e1, e2, e3⟩ := (by simpa [Rp] using h : ∃ a xs, v = .ref a ∧ B a = some (.lst xs) ∧ RpL T B ds xs)
    simp only [Rp]
    exact ⟨a, xs, e1, e _ _ e2, RpL.mono e ds xs e3⟩
  | .scr ns, v, h => by
    simp only [Rp] at h ⊢
    obtain ⟨a, e1, e2⟩ := h
    exact ⟨a, e1, sql_mono e e2⟩
  | .dct t ks vs, v, h => by
    simp only [Rp] at h ⊢
    obtain ⟨a, e1, h⟩ := h
    refine ⟨a, e1, ?_⟩
    rcases h with ⟨t0, kvs, h1, h2, h3⟩ | ⟨t0, kvs, h1, h2, h3⟩
    · exact .inl ⟨t0, kvs, e.rd h1, h2, RpL.mono e vs _ h3⟩
    · exact .inr ⟨t0, kvs, e.rd h1, h2, RpL.mono e vs _ h3⟩
  | .fn _, _, h => by
    simp only [Rp] at h ⊢
    obtain ⟨a, c, e1, e2, e3⟩ := h
    exact ⟨a, c, e1, e _ _ e2, e _ _ e3⟩
  | .exc _, _, h => by
    simp only [Rp] at h ⊢
    obtain ⟨a, e1, e2⟩ := h
    exact ⟨a, e1, e _ _ e2⟩
  | .dcn ks vs, v, h => by
    simp only [Rp] at h ⊢
    obtain ⟨p, a, xs, us, e1, e2, e3, e4, e5, e6, e7, e8⟩ := h
    exact ⟨p, a, xs, us, e1, e _ _ e2, e3, e4, e5, RpL.mono e ks _ e6, RpL.mono e vs _ e7, e8⟩
  | .ins c fs, v, h => by
    simp only [Rp] at h ⊢
    obtain ⟨a, dx, nvs, e1, e2, e3, e4⟩ := h
    exact ⟨a, dx, nvs, e1, e _ _ e2, e3, RpL.mono e fs _ e4⟩
theorem RpL.mono (e : Ex B B') : ∀ (ds : List D) (xs : List V), RpL T B ds xs → RpL T B' ds xs
  | [], _, h => by simpa [RpL] using h
  | d :: ds, xs, h => by
    simp only [RpL] at h ⊢
    obtain ⟨x, r, e1, e2, e3⟩ := h
    exact ⟨x, r, e1, Rp.mono e d x e2, RpL.mono e ds r e3⟩
end
theorem At.mono (e : Ex B B') {o : HO} {d : D} (h : At T B o d) : At T B' o d := by
  cases d <;> simp only [At] at h ⊢ <;> try exact h
  · obtain ⟨xs, e1, e2⟩ := h
    exact ⟨xs, e1, RpL.mono e _ _ e2⟩
  · rcases h with ⟨t0, kvs, h1, h2, h3⟩ | ⟨t0, kvs, h1, h2, h3⟩
    · exact .inl ⟨t0, kvs, h1, h2, RpL.mono e _ _ h3⟩
    · exact .inr ⟨t0, kvs, h1, h2, RpL.mono e _ _ h3⟩
  · obtain ⟨dx, nvs, h1, h2, h3⟩ := h
    exact ⟨dx, nvs, h1, h2, RpL.mono e _ _ h3⟩
  · obtain ⟨a, xs, us, e1, e2, e3, e4, e5, e6, e7⟩ := h
    exact ⟨a, xs, us, e1, e2, e3, e4, RpL.mono e _ _ e5, RpL.mono e _ _ e6, e7⟩
theorem Rp.of_at {a : Addr} {o : HO} {d : D} (h : B a = some o) (w : At T B o d) : Rp T B d (.ref a) := by
  cases d <;> simp only [At] at w <;> simp only [Rp]
  · obtain ⟨xs, rfl, e2⟩ := w
    exact ⟨a, xs, rfl, h, e2⟩
  · rcases w with ⟨t0, kvs, rfl, h2, h3⟩ | ⟨t0, kvs, rfl, h2, h3⟩
    · exact ⟨a, rfl, .inl ⟨t0, kvs, .inl h, h2, h3⟩⟩
    · exact ⟨a, rfl, .inr ⟨t0, kvs, .inl h, h2, h3⟩⟩
  · obtain ⟨dx, nvs, rfl, h2, h3⟩ := w
    exact ⟨a, dx, nvs, rfl, h, h2, h3⟩
  · obtain ⟨q, xs, us, rfl, w⟩ := w
    exact ⟨a, q, xs, us, rfl, h, w⟩
theorem RpL.length : ∀ {ds : List D} {xs : List V}, RpL T B ds xs → xs.length = ds.length
  | [], _, h => by simp only [RpL] at h; subst h; rfl
  | d :: ds, xs, h => by
    simp only [RpL] at h
    obtain ⟨x, r, rfl, _, h⟩ := h
    simp only [List.length_cons, RpL.length h]
theorem RpL.get : ∀ {ds : List D} {xs : List V} {i : Nat} {d : D}, RpL T B ds xs → ds[i]? = some d → ∃ x, xs[i]? = some x ∧ Rp T B d x
  | [], _, _, _, _, e => by simp at e
  | d :: ds, xs, i, d', h, e => by
    simp only [RpL] at h
    obtain ⟨x, r, rfl, hx, h⟩ := h
    cases i with
    | zero => simp at e; subst e; exact ⟨x, rfl, hx⟩
    | succ i => simpa using RpL.get h (by simpa using e)
theorem RpL.none_of {ds : List D} {xs : List V} {i : Nat} (h : RpL T B ds xs) (e : ds[i]? = none) : xs[i]? = none := by
  rw [List.getElem?_eq_none_iff] at e ⊢
  rw [h.length]; exact e
theorem RpL.append : ∀ {ds es : List D} {xs ys : List V}, RpL T B ds xs → RpL T B es ys → RpL T B (ds ++ es) (xs ++ ys)
  | [], _, _, _, h, g => by simp only [RpL] at h; subst h; exact g
  | d :: ds, es, xs, ys, h, g => by
    simp only [RpL] at h
    obtain ⟨x, r, rfl, hx, h⟩ := h
    simp only [List.cons_append, RpL]
    exact ⟨x, r ++ ys, rfl, hx, RpL.append h g⟩
theorem RpL.drop : ∀ (n : Nat) {ds : List D} {xs : List V}, RpL T B ds xs → RpL T B (ds.drop n) (xs.drop n)
  | 0, _, _, h => by simpa using h
  | n + 1, [], _, h => by simp only [RpL] at h; subst h; simp [RpL]
  | n + 1, d :: ds, xs, h => by
    simp only [RpL] at h
    obtain ⟨x, r, rfl, _, h⟩ := h
    simpa using RpL.drop n h
theorem RpL.take : ∀ (n : Nat) {ds : List D} {xs : List V}, RpL T B ds xs → RpL T B (ds.take n) (xs.take n)
  | 0, _, _, h => by simp [RpL]
  | n + 1, [], _, h => by simp only [RpL] at h; subst h; simp [RpL]
  | n + 1, d :: ds, xs, h => by
    simp only [RpL] at h
    obtain ⟨x, r, rfl, hx, h⟩ := h
    simp only [List.take_succ_cons, RpL]
    exact ⟨x, r.take n, rfl, hx, RpL.take n h⟩
theorem RpL.set : ∀ (i : Nat) {ds : List D} {xs : List V} {d : D} {x : V}, Rp T B d x → RpL T B ds xs → RpL T B (ds.set i d) (xs.set i x)
  | _, [], _, _, _, _, h => by simp only [RpL] at h; subst h; simp [RpL]
  | 0, d :: ds, xs, d', x', hd, h => by
    simp only [RpL] at h
    obtain ⟨x, r, rfl, hx, h⟩ := h
    simp only [List.set_cons_zero, RpL]
    exact ⟨x', r, rfl, hd, h⟩
  | i + 1, d :: ds, xs, d', x', hd, h => by
    simp only [RpL] at h
    obtain ⟨x, r, rfl, hx, h⟩ := h
    simp only [List.set_cons_succ, RpL]
    exact ⟨x, _, rfl, hx, RpL.set i hd h⟩
theorem RpL.eraseIdx : ∀ (i : Nat) {ds : List D} {xs : List V}, RpL T B ds xs → RpL T B (ds.eraseIdx i) (xs.eraseIdx i)
  | _, [], _, h => by simp only [RpL] at h; subst h; simp [RpL]
  | 0, d :: ds, xs, h => by
    simp only [RpL] at h
    obtain ⟨x, r, rfl, hx, h⟩ := h
    simpa using h
  | i + 1, d :: ds, xs, h => by
    simp only [RpL] at h
    obtain ⟨x, r, rfl, hx, h⟩ := h
    simp only [List.eraseIdx_cons_succ, RpL]
    exact ⟨x, _, rfl, hx, RpL.eraseIdx i h⟩
theorem RpL.one {d : D} {x : V} (h : Rp T B d x) : RpL T B [d] [x] := by simp only [RpL]; exact ⟨x, [], rfl, h, rfl⟩
theorem RpL.nil : RpL T B [] [] := by simp only [RpL]
theorem RpL.cons {d : D} {x : V} {ds : List D} {xs : List V} (h : Rp T B d x) (g : RpL T B ds xs) : RpL T B (d :: ds) (x :: xs) := by simp only [RpL]; exact ⟨x, xs, rfl, h, g⟩
theorem RpL.ints : ∀ (ns : List Int), RpL T B (ns.map D.int) (ns.map V.int)
  | [] => RpL.nil
  | n :: ns => RpL.cons (by simp only [Rp]) (RpL.ints ns)
end

/-! ## the plain functions -/
abbrev Env := List (Option D)
inductive R (α : Type) where
  | ok (a : α) (e : Env)
  | err (c : Nat) (e : Env)
  | bad
abbrev M := Env → R D
def R.bind {α β : Type} (r : R α) (k : α → Env → R β) : R β := match r with
  | .ok a e => k a e
  | .err c e => .err c e
  | .bad => .bad
def R.ofO {α : Type} (o : Option α) (e : Env) : R α := match o with
  | some a => .ok a e
  | none => .bad
@[simp] theorem R.bind_ok {α β : Type} (a : α) (e : Env) (k : α → Env → R β) : R.bind (.ok a e) k = k a e := rfl
@[simp] theorem R.bind_err {α β : Type} (c : Nat) (e : Env) (k : α → Env → R β) : R.bind (.err c e) k = .err c e := rfl
@[simp] theorem R.bind_bad {α β : Type} (k : α → Env → R β) : R.bind (.bad) k = .bad := rfl

/-- what is fixed through a body: the text's things, the slots that hold things of their own (O), the wish about exceptions -/
structure Gs where
  T : Tb
  O : Nat → Bool
  W : WX
  xc : Nat → Value
/-- no exception is let out -/
abbrev Gs.nox (G : Gs) : Gs := { G with W := fun _ _ _ _ => False }
/-- the frame: the heap that is to stay (H0), what of it was told (B0), the fixed things of slots (io) -/
structure Fm where
  H0 : Hp
  B0 : Hp
  io : Nat → Option Addr

structure Rep (G : Gs) (F : Fm) (B : Hp) (σ : L2.St) (H : Hp) (e : Env) : Prop where
  ex : Ex B H
  fr : Ex F.H0 H
  b0 : Ex F.B0 B
  nw : ∀ q o, B q = some o → F.B0 q = some o ∨ F.H0 q = none ∨ ∃ xs, o = .tup xs
  sh : ∀ i d, G.O i = false → e[i]? = some (some d) → ∃ v, σ[i]? = some (some v) ∧ Rp G.T B d v
  ow : ∀ i d, G.O i = true → e[i]? = some (some d) → ∃ p o, σ[i]? = some (some (.ref p)) ∧ B p = none ∧ F.H0 p = none ∧ H p = some o ∧ At G.T B o d
  ne : ∀ i j d d' p, G.O i = true → G.O j = true → i ≠ j → e[i]? = some (some d) → e[j]? = some (some d') → σ[i]? = some (some (.ref p)) → σ[j]? ≠ some (some (.ref p))
  pt : ∀ i p, F.io i = some p → i = 0 ∧ G.O i = true ∧ σ[i]? = some (some (.ref p))
  len : e.length = σ.length

structure Grow (B H B' H' : Hp) : Prop where
  ex : Ex B B'
  exH : Ex H H'
  sub : Ex B' H'
  nw : ∀ q o, B' q = some o → B q = some o ∨ H q = none ∨ ∃ xs, o = .tup xs ∧ H q = some o
theorem Grow.rfl {B H : Hp} (h : Ex B H) : Grow B H B H := ⟨.rfl, .rfl, h, fun _ _ h => .inl h⟩
theorem Grow.new {B H : Hp} {p : Addr} {o : HO} (h : Ex B H) (n : H p = none) : Grow B H (upd B p o) (upd H p o) := by
  have nB : B p = none := h.none n
  refine ⟨.new nB, .new n, fun a u e => ?_, fun q u e => ?_⟩
  · by_cases q : a = p
    · subst q; rw [upd_same] at e ⊢; exact e
    · rw [upd_ne q] at e ⊢; exact h _ _ e
  · by_cases hq : q = p
    · subst hq; exact .inr (.inl n)
    · rw [upd_ne hq] at e; exact .inl e
theorem Grow.trans {B H B1 H1 B2 H2 : Hp} (a : Grow B H B1 H1) (b : Grow B1 H1 B2 H2) : Grow B H B2 H2 :=
  ⟨a.ex.trans b.ex, a.exH.trans b.exH, b.sub, fun q o h => by
    rcases b.nw q o h with z | z | ⟨xs, z1, z2⟩
    · exact a.nw q o z
    · exact .inr (.inl (a.exH.none z))
    · cases hq : H q with
      | none => exact .inr (.inl _root_.rfl)
      | some u => exact .inr (.inr ⟨xs, z1, by rw [← z2, a.exH _ _ hq]⟩)⟩
/-- the heap alone grows -/
theorem Grow.heap {B H H' : Hp} (h : Ex B H) (e : Ex H H') : Grow B H B H' := ⟨.rfl, e, h.trans e, fun _ _ h => .inl h⟩

section
variable {G : Gs} {F : Fm} {B B' H H' : Hp} {σ : L2.St} {e : Env}
theorem At.no_tup {T : Tb} {B : Hp} {xs : List V} {d : D} (h : At T B (.tup xs) d) : False := by
  cases d <;> simp only [At] at h
  · obtain ⟨_, z, _⟩ := h; cases z
  · rcases h with ⟨_, _, z, _⟩ | ⟨_, _, z, _⟩ <;> cases z
  · obtain ⟨_, _, z, _⟩ := h; cases z
  · obtain ⟨_, _, _, z, _⟩ := h; cases z
theorem At.nt {T : Tb} {B : Hp} {o : HO} {d : D} (h : At T B o d) : ∀ xs, o ≠ .tup xs := fun xs z => by subst z; exact h.no_tup
theorem Rep.nwG (r : Rep G F B σ H e) : ∀ q o, B q = some o → F.B0 q = some o ∨ F.H0 q = none ∨ ∃ xs, o = .tup xs ∧ F.H0 q = some o := fun q o h => by
  rcases r.nw q o h with z | z | ⟨xs, z⟩
  · exact .inl z
  · exact .inr (.inl z)
  · cases hq : F.H0 q with
    | none => exact .inr (.inl rfl)
    | some u => exact .inr (.inr ⟨xs, z, by rw [← r.ex _ _ h, r.fr _ _ hq]⟩)
theorem Rep.grow (r : Rep G F B σ H e) (g : Grow B H B' H') : Rep G F B' σ H' e where
  ex := g.sub
  fr := r.fr.trans g.exH
  b0 := r.b0.trans g.ex
  nw := fun q o h => by
    rcases g.nw q o h with z | z | ⟨xs, z1, _⟩
    · exact r.nw q o z
    · exact .inr (.inl (r.fr.none z))
    · exact .inr (.inr ⟨xs, z1⟩)
  sh := fun i d ho he => by
    obtain ⟨v, h1, h2⟩ := r.sh i d ho he
    exact ⟨v, h1, Rp.mono g.ex _ _ h2⟩
  ow := fun i d ho he => by
    obtain ⟨p, o, h1, h2, h3, h4, h5⟩ := r.ow i d ho he
    refine ⟨p, o, h1, ?_, h3, g.exH _ _ h4, h5.mono g.ex⟩
    cases q : B' p with
    | none => rfl
    | some u =>
      rcases g.nw p u q with z | z | ⟨xs, z1, z2⟩
      · rw [h2] at z; cases z
      · rw [h4] at z; cases z
      · rw [h4] at z2; cases z2; subst z1; exact h5.no_tup.elim
  ne := r.ne
  pt := r.pt
  len := r.len
/-- a shared slot is stored -/
theorem Rep.set (r : Rep G F B σ H e) {i : Nat} {d : D} {v : V} (ho : G.O i = false) (h : Rp G.T B d v) : Rep G F B (σ.set i (some v)) H (e.set i (some d)) where
  ex := r.ex
  fr := r.fr
  b0 := r.b0
  nw := r.nw
  sh := fun j d' hj he => by
    by_cases q : i = j
    · subst q
      by_cases l : i < e.length
      · rw [List.getElem?_set_self l] at he
        cases he
        exact ⟨v, List.getElem?_set_self (r.len ▸ l), h⟩
      · rw [List.getElem?_eq_none (by simpa using l)] at he; cases he
    · rw [List.getElem?_set_ne q] at he ⊢
      exact r.sh j d' hj he
  ow := fun j d' hj he => by
    have q : i ≠ j := by rintro rfl; rw [ho] at hj; cases hj
    rw [List.getElem?_set_ne q] at he ⊢
    exact r.ow j d' hj he
  ne := fun j k d1 d2 p hj hk hjk h1 h2 h3 => by
    have q : i ≠ j := by rintro rfl; rw [ho] at hj; cases hj
    have q' : i ≠ k := by rintro rfl; rw [ho] at hk; cases hk
    rw [List.getElem?_set_ne q] at h1 h3
    rw [List.getElem?_set_ne q'] at h2 ⊢
    exact r.ne j k d1 d2 p hj hk hjk h1 h2 h3
  pt := fun j p hp => by
    obtain ⟨h0, h1, h2⟩ := r.pt j p hp
    have q : i ≠ j := by rintro rfl; rw [ho] at h1; cases h1
    rw [List.getElem?_set_ne q]
    exact ⟨h0, h1, h2⟩
  len := by simpa using r.len
/-- a slot is forgotten -/
theorem Rep.gone (r : Rep G F B σ H e) (i : Nat) : Rep G F B σ H (e.set i none) where
  ex := r.ex
  fr := r.fr
  b0 := r.b0
  nw := r.nw
  sh := fun j d' hj he => by
    by_cases q : i = j
    · subst q
      by_cases l : i < e.length
      · rw [List.getElem?_set_self l] at he; cases he
      · rw [List.getElem?_eq_none (by simpa using l)] at he; cases he
    · rw [List.getElem?_set_ne q] at he
      exact r.sh j d' hj he
  ow := fun j d' hj he => by
    by_cases q : i = j
    · subst q
      by_cases l : i < e.length
      · rw [List.getElem?_set_self l] at he; cases he
      · rw [List.getElem?_eq_none (by simpa using l)] at he; cases he
    · rw [List.getElem?_set_ne q] at he
      exact r.ow j d' hj he
  ne := fun j k d1 d2 p hj hk hjk h1 h2 h3 => by
    have gone : ∀ {x : D}, (e.set i none)[i]? ≠ some (some x) := fun {x} z => by
      by_cases l : i < e.length
      · rw [List.getElem?_set_self l] at z; cases z
      · rw [List.getElem?_eq_none (by simpa using l)] at z; cases z
    have q : i ≠ j := by rintro rfl; exact gone h1
    have q' : i ≠ k := by rintro rfl; exact gone h2
    rw [List.getElem?_set_ne q] at h1
    rw [List.getElem?_set_ne q'] at h2
    exact r.ne j k d1 d2 p hj hk hjk h1 h2 h3
  pt := r.pt
  len := by simpa using r.len
/-- a slot's thing changes -/
theorem Rep.put (r : Rep G F B σ H e) {i : Nat} {d : D} {p : Addr} {o : HO} (ho : G.O i = true) (hs : σ[i]? = some (some (.ref p))) {d0 : D} (h0 : e[i]? = some (some d0)) (h : At G.T B o d) : Rep G F B σ (upd H p o) (e.set i (some d)) := by
  obtain ⟨p', o', a1, a2, a3, a4, a5⟩ := r.ow i d0 ho h0
  rw [hs] at a1
  cases a1
  have l : i < e.length := by
    by_cases l : i < e.length
    · exact l
    · rw [List.getElem?_eq_none (by simpa using l)] at h0; cases h0
  refine ⟨r.ex.upd a2, r.fr.upd a3, r.b0, r.nw, fun j d' hj he => ?_, fun j d' hj he => ?_, fun j k d1 d2 q hj hk hjk h1 h2 h3 => ?_, r.pt, by simpa using r.len⟩
  · have q : i ≠ j := by rintro rfl; rw [ho] at hj; cases hj
    rw [List.getElem?_set_ne q] at he
    exact r.sh j d' hj he
  · by_cases q : i = j
    · subst q
      rw [List.getElem?_set_self l] at he
      cases he
      exact ⟨p, o, hs, a2, a3, upd_same, h⟩
    · rw [List.getElem?_set_ne q] at he
      obtain ⟨p2, o2, b1, b2, b3, b4, b5⟩ := r.ow j d' hj he
      refine ⟨p2, o2, b1, b2, b3, ?_, b5⟩
      refine (upd_ne ?_).trans b4
      rintro rfl
      exact r.ne i j d0 d' p2 ho hj q h0 he hs b1
  · have old : ∀ {x : Nat} {dx : D}, (e.set i (some d))[x]? = some (some dx) → ∃ dy, e[x]? = some (some dy) := fun {x dx} z => by
      by_cases q : i = x
      · subst q; exact ⟨d0, h0⟩
      · rw [List.getElem?_set_ne q] at z; exact ⟨dx, z⟩
    obtain ⟨y1, g1⟩ := old h1
    obtain ⟨y2, g2⟩ := old h2
    exact r.ne j k y1 y2 q hj hk hjk g1 g2 h3
/-- a new thing of one's own, let go: it is told from now on -/
theorem Rep.freeze {p : Addr} {o : HO} (r : Rep G F B σ H e) (hB : B p = none) (h0 : F.H0 p = none) (hH : H p = some o) (hn : ∀ i d', G.O i = true → e[i]? = some (some d') → σ[i]? ≠ some (some (.ref p))) : Rep G F (upd B p o) σ H e where
  ex := fun a u h => by
    by_cases q : a = p
    · subst q; rw [upd_same] at h; rw [hH]; exact h
    · rw [upd_ne q] at h; exact r.ex _ _ h
  fr := r.fr
  b0 := r.b0.trans (.new hB)
  nw := fun q u h => by
    by_cases z : q = p
    · subst z; exact .inr (.inl h0)
    · rw [upd_ne z] at h; exact r.nw q u h
  sh := fun i d ho he => by
    obtain ⟨v, h1, h2⟩ := r.sh i d ho he
    exact ⟨v, h1, Rp.mono (.new hB) _ _ h2⟩
  ow := fun i d ho he => by
    obtain ⟨p', o', h1, h2, h3, h4, h5⟩ := r.ow i d ho he
    refine ⟨p', o', h1, ?_, h3, h4, h5.mono (.new hB)⟩
    refine (upd_ne ?_).trans h2
    rintro rfl
    exact hn i d ho he h1
  ne := r.ne
  pt := r.pt
  len := r.len
/-- a new thing of one's own is stored at a slot for such -/
theorem Rep.take {p : Addr} {o : HO} {i : Nat} {d : D} (r : Rep G F B σ H e) (ho : G.O i = true) (hi : i ≠ 0) (hB : B p = none) (h0 : F.H0 p = none) (hH : H p = some o) (hat : At G.T B o d)
    (hn : ∀ i d', G.O i = true → e[i]? = some (some d') → σ[i]? ≠ some (some (.ref p))) : Rep G F B (σ.set i (some (.ref p))) H (e.set i (some d)) where
  ex := r.ex
  fr := r.fr
  b0 := r.b0
  nw := r.nw
  sh := fun j d' hj he => by
    have q : i ≠ j := by rintro rfl; rw [ho] at hj; cases hj
    rw [List.getElem?_set_ne q] at he ⊢
    exact r.sh j d' hj he
  ow := fun j d' hj he => by
    by_cases q : i = j
    · subst q
      by_cases l : i < e.length
      · rw [List.getElem?_set_self l] at he
        cases he
        exact ⟨p, o, List.getElem?_set_self (r.len ▸ l), hB, h0, hH, hat⟩
      · rw [List.getElem?_eq_none (by simpa using l)] at he; cases he
    · rw [List.getElem?_set_ne q] at he ⊢
      exact r.ow j d' hj he
  ne := fun j k d1 d2 q hj hk hjk h1 h2 h3 => by
    have bound : ∀ {x : Nat} {dx : D}, (e.set i (some d))[x]? = some (some dx) → i = x → i < σ.length := fun {x dx} z zx => by
      subst zx
      by_cases l : i < e.length
      · exact r.len ▸ l
      · rw [List.getElem?_eq_none (by simpa using l)] at z; cases z
    by_cases qj : i = j
    · subst qj
      rw [List.getElem?_set_self (bound h1 rfl)] at h3
      cases h3
      rw [List.getElem?_set_ne hjk] at h2 ⊢
      exact hn k d2 hk h2
    · rw [List.getElem?_set_ne qj] at h1 h3
      by_cases qk : i = k
      · subst qk
        rw [List.getElem?_set_self (bound h2 rfl)]
        intro z
        cases z
        exact hn j d1 hj h1 h3
      · rw [List.getElem?_set_ne qk] at h2 ⊢
        exact r.ne j k d1 d2 q hj hk hjk h1 h2 h3
  pt := fun j q hq => by
    obtain ⟨h0, h1, h2⟩ := r.pt j q hq
    have z : i ≠ j := by rintro rfl; exact hi h0
    rw [List.getElem?_set_ne z]
    exact ⟨h0, h1, h2⟩
  len := by simpa using r.len
end

abbrev Rel (α β : Type) := Fm → L2.St → Hp → Hp → Env → α → β → Prop
def Post {α β : Type} (G : Gs) (F : Fm) (B : Hp) (σ : L2.St) (rel : Rel α β) (r : R α) (Q : β → Hp → Prop) : Prop := match r with
  | .ok a e => ∀ b B' H', Ex B B' → Rep G F B' σ H' e → rel F σ B' H' e a b → Q b H'
  | .err c e => ∀ B' H', Ex B B' → Rep G F B' σ H' e → G.W (G.xc c) none σ H'
  | .bad => False
theorem Post.mono {α β : Type} {G : Gs} {F : Fm} {B B' : Hp} {σ : L2.St} {rel : Rel α β} {r : R α} {Q : β → Hp → Prop} (e : Ex B B') (h : Post G F B σ rel r Q) : Post G F B' σ rel r Q := by
  cases r with
  | ok a e' => exact fun b B2 H2 x => h b B2 H2 (e.trans x)
  | err c e' => exact fun B2 H2 x => h B2 H2 (e.trans x)
  | bad => exact h
theorem Post.bind {α β γ δ : Type} {G : Gs} {F : Fm} {B : Hp} {σ : L2.St} {rel3 : Rel γ δ} {rel1 : Rel α β} {r : R α} {k : α → Env → R γ} {Q : δ → Hp → Prop} (h : Post G F B σ rel3 (R.bind r k) Q) :
    Post G F B σ rel1 r (fun b H1 => ∃ B1 e a, Ex B B1 ∧ Rep G F B1 σ H1 e ∧ rel1 F σ B1 H1 e a b ∧ Post G F B1 σ rel3 (k a e) Q) := by
  cases r with
  | ok a e => exact fun b B' H' ex rep rl => ⟨B', e, a, ex, rep, rl, Post.mono ex h⟩
  | err c e => exact h
  | bad => exact h
theorem Post.weak {α β : Type} {G : Gs} {F : Fm} {B : Hp} {σ : L2.St} {rel : Rel α β} {r : R α} {Q Q' : β → Hp → Prop} (h : Post G F B σ rel r Q) (i : ∀ b H, Q b H → Q' b H) : Post G F B σ rel r Q' := by
  cases r with
  | ok a e' => exact fun b B2 H2 x r rl => i _ _ (h b B2 H2 x r rl)
  | err c e' => exact h
  | bad => exact h

def tM {α β : Type} (G : Gs) (rel : Rel α β) (m : Env → R α) : L2.St → Hp → (β → Hp → Prop) → Prop := fun σ H Q => ∃ F B e, Rep G F B σ H e ∧ Post G F B σ rel (m e) Q
def relE (G : Gs) : Rel D V := fun _ _ B _ _ d v => Rp G.T B d v
def relA (G : Gs) : Rel (List D) (List V) := fun _ _ B _ _ d v => RpL G.T B d v
def relT : Rel Bool Bool := fun _ _ _ _ _ a b => b = a
/-- a new thing of one's own -/
def relF (G : Gs) : Rel D V := fun F σ B H e d v => ∃ p o, v = .ref p ∧ B p = none ∧ F.H0 p = none ∧ H p = some o ∧ At G.T B o d ∧ ∀ i d', G.O i = true → e[i]? = some (some d') → σ[i]? ≠ some (some (.ref p))
abbrev tE (G : Gs) (m : M) : TE := tM G (relE G) m
abbrev tF (G : Gs) (m : M) : TE := tM G (relF G) m
abbrev tA (G : Gs) (m : Env → R (List D)) : TA := tM G (relA G) m
abbrev tT (G : Gs) (m : Env → R Bool) : TT := tM G relT m

theorem tF_tE {G : Gs} {m : M} {σ : L2.St} {H : Hp} {Q : VK} (h : tE G m σ H Q) : tF G m σ H Q := by
  obtain ⟨F, B, e, rep, post⟩ := h
  refine ⟨F, B, e, rep, ?_⟩
  cases hm : m e with
  | ok d e' =>
    rw [hm] at post
    rintro v B' H' ex rep' ⟨p, o, rfl, hB, h0, hH, hat, hn⟩
    exact post _ (upd B' p o) H' (ex.trans (.new hB)) (rep'.freeze hB h0 hH hn) (Rp.of_at upd_same (hat.mono (.new hB)))
  | err c e' => rw [hm] at post; exact post
  | bad => rw [hm] at post; exact post

theorem pe_imp {X : Cx} {e : Expr} {t t' : TE} (h : PE X e t) (i : ∀ σ H Q, t' σ H Q → t σ H Q) : PE X e t' := ⟨fun pins s σ H Q I q => h.run pins s σ H Q I (i σ H Q q)⟩
theorem pt_imp {X : Cx} {e : Expr} {t t' : TT} (h : PT X e t) (i : ∀ σ H Q, t' σ H Q → t σ H Q) : PT X e t' := ⟨fun pins s σ H Q I q => h.run pins s σ H Q I (i σ H Q q)⟩
theorem pw_imp {X : Cx} {e : Expr} {t t' : TT} (h : PW X e t) (i : ∀ σ H Q, t' σ H Q → t σ H Q) : PW X e t' := ⟨fun w pins s σ H Q I q => h.run w pins s σ H Q I (i σ H Q q)⟩
theorem pa_imp {X : Cx} {e : List Expr} {t t' : TA} (h : PA X e t) (i : ∀ σ H Q, t' σ H Q → t σ H Q) : PA X e t' := ⟨fun pos pins s σ H Q I q => h.run pos pins s σ H Q I (i σ H Q q)⟩
theorem ps_imp {X : Cx} {e : Stmt} {t t' : TS} (h : PS X e t) (i : ∀ D σ H, t' D σ H → t D σ H) : PS X e t' := ⟨fun pins s σ H D I q => h.run pins s σ H D I (i D σ H q)⟩
theorem pss_imp {X : Cx} {e : List Stmt} {t t' : TS} (h : PSs X e t) (i : ∀ D σ H, t' D σ H → t D σ H) : PSs X e t' := ⟨fun pins s σ H D I q => h.run pins s σ H D I (i D σ H q)⟩
theorem pi_imp {X : Cx} {tg e : Expr} {t t' : TI} (h : PI X tg e t) (i : ∀ σ H Q, t' σ H Q → t σ H Q) : PI X tg e t' := ⟨fun pins s σ H Q I q => h.run pins s σ H Q I (i σ H Q q)⟩
theorem pg_imp {X : Cx} {e : Expr} {t t' : TG} (h : PG X e t) (i : ∀ v σ H Q, t' v σ H Q → t v σ H Q) : PG X e t' := ⟨fun pins s σ H v u Q I r q => h.run pins s σ H v u Q I r (i v σ H Q q)⟩
theorem le_of_f {X : Cx} {G : Gs} {e : Expr} {m : M} (h : PE X e (tF G m)) : PE X e (tE G m) := pe_imp h fun _ _ _ => tF_tE

/-! ## operands: a value, or a slot's own thing -/
inductive Opd where
  | val (m : M)
  | own (i : Nat)
def evO : Opd → Env → R (Sum D Nat)
  | .val m, e => R.bind (m e) fun d e' => .ok (.inl d) e'
  | .own i, e => match e[i]? with
    | some (some _) => .ok (.inr i) e
    | _ => .bad
def rsO : Sum D Nat → Env → Option D
  | .inl d, _ => some d
  | .inr i, e => (e[i]?).join
def relO (G : Gs) : Rel (Sum D Nat) V := fun _ σ B _ _ r v => match r with
  | .inl d => Rp G.T B d v
  | .inr i => G.O i = true ∧ σ[i]? = some (some v)
abbrev tO (G : Gs) (o : Opd) : TE := tM G (relO G) (evO o)
/-- a value stands for d, by what is told or by the heap itself -/
def RpH (T : Tb) (B H : Hp) (d : D) (v : V) : Prop := Rp T B d v ∨ ∃ p o, v = .ref p ∧ H p = some o ∧ At T B o d
theorem join_some {α : Type} {e : List (Option α)} {i : Nat} {d : α} (h : (e[i]?).join = some d) : e[i]? = some (some d) := by
  cases q : e[i]? with
  | none => rw [q] at h; cases h
  | some z => rw [q] at h; exact congrArg some h
theorem rsO_ok {G : Gs} {F F1 : Fm} {B H B1 H1 : Hp} {σ : L2.St} {e1 e : Env} {r : Sum D Nat} {v : V} {d : D} (h : relO G F1 σ B1 H1 e1 r v) (ex : Ex B1 B) (rep : Rep G F B σ H e) (hd : rsO r e = some d) : RpH G.T B H d v := by
  cases r with
  | inl d' =>
    cases hd
    exact .inl (Rp.mono ex _ _ h)
  | inr i =>
    obtain ⟨ho, hs⟩ := h
    obtain ⟨p, o, h1, h2, h3, h4, h5⟩ := rep.ow i d ho (join_some hd)
    rw [hs] at h1
    cases h1
    exact .inr ⟨p, o, rfl, h4, h5⟩
section
variable {X : Cx} {G : Gs} {e : Expr} {m : M}
theorem po_val (h : PE X e (tE G m)) : PE X e (tO G (.val m)) := pe_imp h fun σ H Q hq => by
  obtain ⟨F, B, env, rep, post⟩ := hq
  refine ⟨F, B, env, rep, ?_⟩
  have post : Post G F B σ (relO G) (R.bind (m env) fun d e' => .ok (.inl d) e') Q := post
  cases hm : m env with
  | ok d e' =>
    rw [hm] at post
    exact fun v B' H' ex rep' rl => post v B' H' ex rep' rl
  | err c e' => rw [hm] at post; exact post
  | bad => rw [hm] at post; exact post
theorem po_own {i : Nat} (h : PE X e (tVar i)) (ho : G.O i = true) : PE X e (tO G (.own i)) := pe_imp h fun σ H Q hq => by
  obtain ⟨F, B, env, rep, post⟩ := hq
  have post : Post G F B σ (relO G) (match env[i]? with | some (some _) => .ok (.inr i) env | _ => .bad) Q := post
  cases hm : env[i]? with
  | none => rw [hm] at post; exact post.elim
  | some od =>
    rw [hm] at post
    cases od with
    | none => exact post.elim
    | some d =>
      obtain ⟨p, o, h1, _⟩ := rep.ow i d ho hm
      exact ⟨_, h1, post _ B H .rfl rep ⟨ho, h1⟩⟩
end
end Fl

namespace Fl
open PySem PySem.Spec PyProof.Rows L2

section
variable {T : Tb} {B H : Hp} {v : V}
theorem rh_int {i : Int} (h : RpH T B H (.int i) v) : v = .int i := by
  rcases h with h | ⟨p, o, _, _, h⟩
  · simpa only [Rp] using h
  · simp only [At] at h
theorem rh_bl {b : Bool} (h : RpH T B H (.bl b) v) : v = .bl b := by
  rcases h with h | ⟨p, o, _, _, h⟩
  · simpa only [Rp] using h
  · simp only [At] at h
theorem rh_non (h : RpH T B H .non v) : v = .non := by
  rcases h with h | ⟨p, o, _, _, h⟩
  · simpa only [Rp] using h
  · simp only [At] at h
theorem rh_str {x : Str} (h : RpH T B H (.str x) v) : v = .str x := by
  rcases h with h | ⟨p, o, _, _, h⟩
  · simpa only [Rp] using h
  · simp only [At] at h
theorem rh_tup {ds : List D} (h : RpH T B H (.tup ds) v) : ∃ a xs, v = .ref a ∧ B a = some (.tup xs) ∧ RpL T B ds xs := by
  rcases h with h | ⟨p, o, _, _, h⟩
  · simpa only [Rp] using h
  · simp only [At] at h
theorem rh_ptp {ds : List D} (h : RpH T B H (.ptp ds) v) : ∃ a xs o, v = .ref a ∧ B a = some (.frz o (.tup xs)) ∧ o.cls = .type "tuple" ∧ o.dict = none ∧ RpL T B ds xs := by
  rcases h with h | ⟨p, o, _, _, h⟩
  · simpa only [Rp] using h
  · simp only [At] at h
theorem sqp_of {K : PySem.W.Frag} {a : Addr} {o : Obj} {xs : List V} (ex : Ex B H) (h : B a = some (.frz o (.tup xs))) : SqT K H a xs := .inl (.inr ⟨o, ex _ _ h⟩)
theorem rh_lst {ds : List D} (ex : Ex B H) (h : RpH T B H (.lst ds) v) : ∃ a xs, v = .ref a ∧ H a = some (.lst xs) ∧ RpL T B ds xs := by
  rcases h with h | ⟨p, o, e, h1, h⟩
  · simp only [Rp] at h
    obtain ⟨a, xs, e, h1, h2⟩ := h
    exact ⟨a, xs, e, ex _ _ h1, h2⟩
  · simp only [At] at h
    obtain ⟨xs, rfl, h2⟩ := h
    exact ⟨p, xs, e, h1, h2⟩
theorem rh_scr {ns : List Int} (h : RpH T B H (.scr ns) v) : ∃ a, v = .ref a ∧ SqL T.K B a (ns.map V.int) := by
  rcases h with h | ⟨p, o, _, _, h⟩
  · simpa only [Rp] using h
  · simp only [At] at h
theorem rh_dct {t : Bool} {ks vs : List D} (ex : Ex B H) (h : RpH T B H (.dct t ks vs) v) : ∃ a, v = .ref a ∧ ((t = false ∧ ∃ kvs, Rd H a (.dK kvs) ∧ ks.map keyD = kvs.map (fun p => some p.1) ∧ RpL T B vs (kvs.map (·.2))) ∨
    (t = true ∧ ∃ kvs, Rd H a (.dT kvs) ∧ ks.map keyT = kvs.map (fun p => some p.1) ∧ RpL T B vs (kvs.map (·.2)))) := by
  rcases h with h | ⟨p, o, e, h1, h⟩
  · simp only [Rp] at h
    obtain ⟨a, e, h⟩ := h
    refine ⟨a, e, ?_⟩
    rcases h with ⟨t0, kvs, h1, h2⟩ | ⟨t0, kvs, h1, h2⟩
    · exact .inl ⟨t0, kvs, ex.rd h1, h2⟩
    · exact .inr ⟨t0, kvs, ex.rd h1, h2⟩
  · simp only [At] at h
    refine ⟨p, e, ?_⟩
    rcases h with ⟨t0, kvs, rfl, h2⟩ | ⟨t0, kvs, rfl, h2⟩
    · exact .inl ⟨t0, kvs, .inl h1, h2⟩
    · exact .inr ⟨t0, kvs, .inl h1, h2⟩
def tupL : D → Option (List D)
  | .tup ds => some ds
  | .ptp ds => some ds
  | _ => none
theorem rh_tupL {K : PySem.W.Frag} {d : D} {ds : List D} (ex : Ex B H) (h : RpH T B H d v) (e : tupL d = some ds) : ∃ a xs, v = .ref a ∧ SqT K H a xs ∧ RpL T B ds xs := by
  cases d <;> simp only [tupL, reduceCtorEq, Option.some.injEq] at e
  · subst e
    obtain ⟨a, xs, rfl, h1, h2⟩ := rh_tup h
    exact ⟨a, xs, rfl, .inl (.inl (ex _ _ h1)), h2⟩
  · subst e
    obtain ⟨a, xs, o, rfl, h1, _, _, h2⟩ := rh_ptp h
    exact ⟨a, xs, rfl, .inl (.inr ⟨o, ex _ _ h1⟩), h2⟩
theorem rh_exc {c : Nat} (h : RpH T B H (.exc c) v) : ∃ a, v = .ref a ∧ B a = some (ExO (T.cls c) a) := by
  rcases h with h | ⟨p, o, _, _, h⟩
  · simpa only [Rp] using h
  · simp only [At] at h
theorem sqt_of {K : PySem.W.Frag} {a : Addr} {xs : List V} (ex : Ex B H) (h : B a = some (.tup xs)) : SqT K H a xs := .inl (.inl (ex _ _ h))
end

/-! ## operations by data -/
/-- what is asked of a rule's reading: operands by data in, data out -/
def OpD (T : Tb) (r : R2) (f : D → D → Option D) : Prop := ∀ (B H : Hp) (x y : V) (d1 d2 d : D) (Q : VK), Ex B H → RpH T B H d1 x → RpH T B H d2 y → f d1 d2 = some d →
  (∀ v B' H', Grow B H B' H' → Rp T B' d v → Q v H') → r x y H Q
/-- .. a new list -/
def OpDF (T : Tb) (r : R2) (f : D → D → Option D) : Prop := ∀ (B H : Hp) (x y : V) (d1 d2 d : D) (Q : VK), Ex B H → RpH T B H d1 x → RpH T B H d2 y → f d1 d2 = some d →
  (∀ p o, H p = none → At T B o d → Q (.ref p) (upd H p o)) → r x y H Q
theorem OpDF.opD {T : Tb} {r : R2} {f : D → D → Option D} (h : OpDF T r f) : OpD T r f := fun B H x y d1 d2 d Q ex h1 h2 hf q =>
  h B H x y d1 d2 d Q ex h1 h2 hf fun p o hp hat => q _ (upd B p o) _ (.new ex hp) (Rp.of_at upd_same (hat.mono (.new (ex.none hp))))

def vOp (f : D → D → Option D) (a b : Opd) : M := fun e => R.bind (evO a e) fun ra e1 => R.bind (evO b e1) fun rb e2 => R.ofO (do let x ← rsO ra e2; let y ← rsO rb e2; f x y) e2

section
variable {X : Cx} {G : Gs} {a b : Expr} {oa ob : Opd}
/-- two operands, then an operation: r's reading -/
theorem op_bind {r : R2} {f : D → D → Option D} {rel : Rel D V} {σ : L2.St} {H : Hp} {Q : VK} (h : tM G rel (vOp f oa ob) σ H Q)
    (k : ∀ (F : Fm) (B H2 : Hp) (e2 : Env) (x y : V) (d1 d2 d : D), Rep G F B σ H2 e2 → RpH G.T B H2 d1 x → RpH G.T B H2 d2 y → f d1 d2 = some d → Post G F B σ rel (.ok d e2) Q → r x y H2 Q) :
    tOp r (tO G oa) (tO G ob) σ H Q := by
  obtain ⟨F, B, e, rep, post⟩ := h
  refine ⟨F, B, e, rep, Post.weak (Post.bind post) ?_⟩
  rintro x H1 ⟨B1, e1, ra, ex1, rep1, rl1, post1⟩
  refine ⟨F, B1, e1, rep1, Post.weak (Post.bind post1) ?_⟩
  rintro y H2 ⟨B2, e2, rb, ex2, rep2, rl2, post2⟩
  cases h1 : rsO ra e2 with
  | none => rw [h1] at post2; exact post2.elim
  | some d1 =>
    cases h2 : rsO rb e2 with
    | none => rw [h1, h2] at post2; exact post2.elim
    | some d2 =>
      rw [h1, h2] at post2
      have post2 : Post G F B2 σ rel (R.ofO (f d1 d2) e2) Q := post2
      cases hf : f d1 d2 with
      | none => rw [hf] at post2; exact post2.elim
      | some d =>
        rw [hf] at post2
        exact k F B2 H2 e2 x y d1 d2 d rep2 (rsO_ok rl1 ex2 rep2 h1) (rsO_ok rl2 .rfl rep2 h2) hf post2
theorem op_E {r : R2} {f : D → D → Option D} (hd : OpD G.T r f) {σ : L2.St} {H : Hp} {Q : VK} (h : tE G (vOp f oa ob) σ H Q) : tOp r (tO G oa) (tO G ob) σ H Q :=
  op_bind h fun F B H2 e2 x y d1 d2 d rep h1 h2 hf post => hd B H2 x y d1 d2 d Q rep.ex h1 h2 hf fun v B' H' g rp => post v B' H' g.ex (rep.grow g) rp
theorem new_F {F : Fm} {B H : Hp} {e : Env} {σ : L2.St} {p : Addr} {o : HO} {d : D} (rep : Rep G F B σ H e) (hp : H p = none) (hat : At G.T B o d) : Rep G F B σ (upd H p o) e ∧ relF G F σ B (upd H p o) e d (.ref p) := by
  refine ⟨rep.grow (Grow.heap rep.ex (.new hp)), p, o, rfl, rep.ex.none hp, rep.fr.none hp, upd_same, hat, fun i d' hi he hs => ?_⟩
  obtain ⟨q, o', a1, a2, a3, a4, _⟩ := rep.ow i d' hi he
  rw [hs] at a1
  cases a1
  rw [hp] at a4; cases a4
theorem op_F {r : R2} {f : D → D → Option D} (hd : OpDF G.T r f) {σ : L2.St} {H : Hp} {Q : VK} (h : tF G (vOp f oa ob) σ H Q) : tOp r (tO G oa) (tO G ob) σ H Q :=
  op_bind h fun F B H2 e2 x y d1 d2 d rep h1 h2 hf post => hd B H2 x y d1 d2 d Q rep.ex h1 h2 hf fun p o hp hat => post _ B _ .rfl (new_F rep hp hat).1 (new_F rep hp hat).2
variable {op : Operator} {r : R2} {f : D → D → Option D} {pos : Pos}
theorem le_op (ho : OpR X (binaryOp op) r) (hd : OpD G.T r f) (ha : PE X a (tO G oa)) (hb : PE X b (tO G ob)) : PE X (.BinOp a op b pos) (tE G (vOp f oa ob)) := pe_imp (pe_op ho ha hb) fun _ _ _ => op_E hd
theorem lf_op (ho : OpR X (binaryOp op) r) (hd : OpDF G.T r f) (ha : PE X a (tO G oa)) (hb : PE X b (tO G ob)) : PE X (.BinOp a op b pos) (tF G (vOp f oa ob)) := pe_imp (pe_op ho ha hb) fun _ _ _ => op_F hd
theorem le_cmp {op : CmpOp} (ho : OpR X (compareOp op) r) (hd : OpD G.T r f) (ha : PE X a (tO G oa)) (hb : PE X b (tO G ob)) (hm : behindInMarks op b = false) : PE X (.Compare a [op] [b] pos) (tE G (vOp f oa ob)) := pe_imp (pe_cmpR ho ha hb hm) fun _ _ _ => op_E hd
theorem le_ix (hr : IxR X r) (hd : OpD G.T r f) (ha : PE X a (tO G oa)) (hb : PE X b (tO G ob)) (hs : PlainIx b) : PE X (.Subscript a b pos) (tE G (vOp f oa ob)) := pe_imp (pe_ix hr ha hb hs) fun _ _ _ => op_E hd
end

/-! ### tests -/
def asB (m : M) : Env → R Bool := fun e => R.bind (m e) fun d e' => match d with
  | .bl b => .ok b e'
  | _ => .bad
section
variable {X : Cx} {G : Gs} {a b : Expr} {m : M} {oa ob : Opd} {op : CmpOp} {r : R2} {f : D → D → Option D} {pos : Pos}
theorem tE_asB {σ : L2.St} {H : Hp} {Q : Bool → Hp → Prop} (h : tT G (asB m) σ H Q) : tE G m σ H (fun x H' => ∃ k, x = .bl k ∧ Q k H') := by
  obtain ⟨F, B, e, rep, post⟩ := h
  refine ⟨F, B, e, rep, Post.weak (Post.bind post) ?_⟩
  rintro x H1 ⟨B1, e1, d, ex1, rep1, rl, post1⟩
  cases d with
  | bl k =>
    have rl : x = .bl k := by simpa only [relE, Rp] using rl
    exact ⟨k, rl, post1 k B1 H1 .rfl rep1 rfl⟩
  | _ => exact post1.elim
theorem lt_cmp (ho : OpR X (compareOp op) r) (hd : OpD G.T r f) (ha : PE X a (tO G oa)) (hb : PE X b (tO G ob)) (hm : behindInMarks op b = false) : PT X (.Compare a [op] [b] pos) (tT G (asB (vOp f oa ob))) :=
  pt_imp (pt_cmpR ho ha hb hm) fun σ H Q h => op_E (Q := fun x H' => ∃ k, x = .bl k ∧ Q k H') hd (tE_asB h)
/-- a value that is a bool, as a test -/
theorem lt_val (h : PE X a (tE G m)) (he : ∀ whole, isTrue a X.env whole = (do let v ← whole; standAt a.pos; holding [v] (truthy v)) := by intro _; rfl) : PT X a (tT G (asB m)) :=
  pt_imp (pt_val h he) fun σ H Q q => tE_asB q
def bAnd (t u : Env → R Bool) : Env → R Bool := fun e => R.bind (t e) fun c e1 => if c = true then u e1 else .ok false e1
def bOr (t u : Env → R Bool) : Env → R Bool := fun e => R.bind (t e) fun c e1 => if c = true then .ok true e1 else u e1
def bNot (t : Env → R Bool) : Env → R Bool := fun e => R.bind (t e) fun c e1 => .ok (!c) e1
variable {t u : Env → R Bool} {rest : List Expr}
theorem tT_bind {k : Bool → Env → R Bool} {σ : L2.St} {H : Hp} {Q : Bool → Hp → Prop} {P : Bool → Hp → Prop} (h : tT G (fun e => R.bind (t e) k) σ H Q)
    (i : ∀ c F B H1 e1, Rep G F B σ H1 e1 → Post G F B σ relT (k c e1) Q → P c H1) : tT G t σ H P := by
  obtain ⟨F, B, e, rep, post⟩ := h
  refine ⟨F, B, e, rep, Post.weak (Post.bind post) ?_⟩
  rintro x H1 ⟨B1, e1, c, ex1, rep1, rl, post1⟩
  cases rl
  exact i x F B1 H1 e1 rep1 post1
theorem lw_and1 (ha : PT X a (tT G t)) : PW X (.BoolOp .And [a] pos) (tT G t) := pw_and1 ha
theorem lw_or1 (ha : PT X a (tT G t)) : PW X (.BoolOp .Or [a] pos) (tT G t) := pw_or1 ha
theorem lw_and (ha : PT X a (tT G t)) (hb : PW X (.BoolOp .And (b :: rest) pos) (tT G u)) : PW X (.BoolOp .And (a :: b :: rest) pos) (tT G (bAnd t u)) := pw_imp (pw_and ha hb) fun σ H Q h =>
  tT_bind h fun c F B H1 e1 rep post => by
    cases c with
    | true => exact ⟨F, B, e1, rep, post⟩
    | false => exact post false B H1 .rfl rep rfl
theorem lw_or (ha : PT X a (tT G t)) (hb : PW X (.BoolOp .Or (b :: rest) pos) (tT G u)) : PW X (.BoolOp .Or (a :: b :: rest) pos) (tT G (bOr t u)) := pw_imp (pw_or ha hb) fun σ H Q h =>
  tT_bind h fun c F B H1 e1 rep post => by
    cases c with
    | false => exact ⟨F, B, e1, rep, post⟩
    | true => exact post true B H1 .rfl rep rfl
theorem lt_not (ha : PT X a (tT G t)) : PT X (.UnaryOp .Not a pos) (tT G (bNot t)) := pt_imp (pt_not ha) fun σ H Q h =>
  tT_bind h fun c F B H1 e1 rep post => post (!c) B H1 .rfl rep rfl
theorem lt_pw {c : Expr} (h : PW X c (tT G t)) : PT X c (tT G t) := h.pt
/-! bools as values -/
def vAnd (ma mb : M) : M := fun e => R.bind (ma e) fun d e1 => match d with
  | .bl true => mb e1
  | .bl false => .ok (.bl false) e1
  | _ => .bad
def vOr (ma mb : M) : M := fun e => R.bind (ma e) fun d e1 => match d with
  | .bl true => .ok (.bl true) e1
  | .bl false => mb e1
  | _ => .bad
def vNot (ma : M) : M := fun e => R.bind (ma e) fun d e1 => match d with
  | .bl b => .ok (.bl (!b)) e1
  | _ => .bad
variable {ma mb : M}
theorem tE_bl {k : D → Env → R D} {σ : L2.St} {H : Hp} {Q : VK} {P : Bool → Hp → Prop} (h : tE G (fun e => R.bind (ma e) k) σ H Q) (nb : ∀ d e, (∀ b, d ≠ .bl b) → k d e = .bad)
    (i : ∀ c F B H1 e1, Rep G F B σ H1 e1 → Post G F B σ (relE G) (k (.bl c) e1) Q → P c H1) : tE G ma σ H (fun x H1 => ∃ c, x = .bl c ∧ P c H1) := by
  obtain ⟨F, B, e, rep, post⟩ := h
  refine ⟨F, B, e, rep, Post.weak (Post.bind post) ?_⟩
  rintro x H1 ⟨B1, e1, d, ex1, rep1, rl, post1⟩
  by_cases q : ∃ b, d = .bl b
  · obtain ⟨c, rfl⟩ := q
    have rl : x = .bl c := by simpa only [relE, Rp] using rl
    exact ⟨c, rl, i c F B1 H1 e1 rep1 post1⟩
  · rw [nb d e1 (fun b z => q ⟨b, z⟩)] at post1
    exact post1.elim
theorem le_one {op} (h : PE X a (tE G ma)) : PE X (.BoolOp op [a] pos) (tE G ma) := pe_one h
theorem le_and (ha : PE X a (tE G ma)) (hb : PE X (.BoolOp .And (b :: rest) pos) (tE G mb)) : PE X (.BoolOp .And (a :: b :: rest) pos) (tE G (vAnd ma mb)) := pe_imp (pe_and ha hb) fun σ H Q h =>
  tE_bl (P := fun c H1 => if c = true then tE G mb σ H1 Q else Q (.bl false) H1) h (fun d e n => by cases d <;> first | rfl | exact absurd rfl (n _)) fun c F B H1 e1 rep post => by
    cases c with
    | true => exact ⟨F, B, e1, rep, post⟩
    | false => exact post _ B H1 .rfl rep (by simp only [relE, Rp])
theorem le_or (ha : PE X a (tE G ma)) (hb : PE X (.BoolOp .Or (b :: rest) pos) (tE G mb)) : PE X (.BoolOp .Or (a :: b :: rest) pos) (tE G (vOr ma mb)) := pe_imp (pe_or ha hb) fun σ H Q h =>
  tE_bl (P := fun c H1 => if c = true then Q (.bl true) H1 else tE G mb σ H1 Q) h (fun d e n => by cases d <;> first | rfl | exact absurd rfl (n _)) fun c F B H1 e1 rep post => by
    cases c with
    | false => exact ⟨F, B, e1, rep, post⟩
    | true => exact post _ B H1 .rfl rep (by simp only [relE, Rp])
theorem le_not (ha : PE X a (tE G ma)) : PE X (.UnaryOp .Not a pos) (tE G (vNot ma)) := pe_imp (pe_not ha) fun σ H Q h =>
  tE_bl (P := fun c H1 => Q (.bl (!c)) H1) h (fun d e n => by cases d <;> first | rfl | exact absurd rfl (n _)) fun c F B H1 e1 rep post => post _ B H1 .rfl rep (by simp only [relE, Rp])
def vIf (t : Env → R Bool) (ma mb : M) : M := fun e => R.bind (t e) fun c e1 => if c = true then ma e1 else mb e1
theorem le_if {c : Expr} (hc : PT X c (tT G t)) (ha : PE X a (tE G ma)) (hb : PE X b (tE G mb)) : PE X (.IfExp c a b pos) (tE G (vIf t ma mb)) := pe_imp (pe_ifExp hc ha hb) fun σ H Q h => by
  obtain ⟨F, B, e, rep, post⟩ := h
  refine ⟨F, B, e, rep, Post.weak (Post.bind post) ?_⟩
  rintro x H1 ⟨B1, e1, k, ex1, rep1, rl, post1⟩
  cases rl
  cases x with
  | true => exact ⟨F, B1, e1, rep1, post1⟩
  | false => exact ⟨F, B1, e1, rep1, post1⟩
end

/-! ### names, constants, displays -/
def vVar (i : Nat) : M := fun e => match e[i]? with
  | some (some d) => .ok d e
  | _ => .bad
def vMove (i : Nat) : M := fun e => match e[i]? with
  | some (some d) => .ok d (e.set i none)
  | _ => .bad
def vC (d : D) : M := fun e => .ok d e
def aNil : Env → R (List D) := fun e => .ok [] e
def aCons (m : M) (ms : Env → R (List D)) : Env → R (List D) := fun e => R.bind (m e) fun d e1 => R.bind (ms e1) fun ds e2 => .ok (d :: ds) e2
def vTup (ms : Env → R (List D)) : M := fun e => R.bind (ms e) fun ds e1 => if ds.length ≤ 100000 then .ok (.tup ds) e1 else .bad
def vLst (ms : Env → R (List D)) : M := fun e => R.bind (ms e) fun ds e1 => if ds.length ≤ 100000 then .ok (.lst ds) e1 else .bad
section
variable {X : Cx} {G : Gs} {a b : Expr} {m : M} {ms : Env → R (List D)} {es : List Expr} {pos : Pos}
theorem le_var {i : Nat} (h : PE X a (tVar i)) (ho : G.O i = false) : PE X a (tE G (vVar i)) := pe_imp h fun σ H Q hq => by
  obtain ⟨F, B, env, rep, post⟩ := hq
  have post : Post G F B σ (relE G) (match env[i]? with | some (some d) => .ok d env | _ => .bad) Q := post
  cases hm : env[i]? with
  | none => rw [hm] at post; exact post.elim
  | some od =>
    rw [hm] at post
    cases od with
    | none => exact post.elim
    | some d =>
      obtain ⟨v, h1, h2⟩ := rep.sh i d ho hm
      exact ⟨v, h1, post v B H .rfl rep h2⟩
theorem lf_move {i : Nat} (h : PE X a (tVar i)) (ho : G.O i = true) : PE X a (tF G (vMove i)) := pe_imp h fun σ H Q hq => by
  obtain ⟨F, B, env, rep, post⟩ := hq
  have post : Post G F B σ (relF G) (match env[i]? with | some (some d) => .ok d (env.set i none) | _ => .bad) Q := post
  cases hm : env[i]? with
  | none => rw [hm] at post; exact post.elim
  | some od =>
    rw [hm] at post
    cases od with
    | none => exact post.elim
    | some d =>
      obtain ⟨p, o, h1, h2, h3, h4, h5⟩ := rep.ow i d ho hm
      refine ⟨_, h1, post (.ref p) B H .rfl (rep.gone i) ⟨p, o, rfl, h2, h3, h4, h5, fun j d' hj he hs => ?_⟩⟩
      by_cases q : i = j
      · subst q
        by_cases l : i < env.length
        · rw [List.getElem?_set_self l] at he; cases he
        · rw [List.getElem?_eq_none (by simpa using l)] at he; cases he
      · rw [List.getElem?_set_ne q] at he
        exact rep.ne i j d d' p ho hj q hm he h1 hs
theorem le_c {d : D} {v : V} (h : PE X a (tC v)) (hr : ∀ B, Rp G.T B d v) : PE X a (tE G (vC d)) := pe_imp h fun σ H Q hq => by
  obtain ⟨F, B, env, rep, post⟩ := hq
  exact post v B H .rfl rep (hr B)
theorem le_int {i : Int} {j : Nat} : PE X (.Constant (.int i) j pos) (tE G (vC (.int i))) := le_c pe_int fun _ => by simp only [Rp]
theorem le_str {x : Str} {j : Nat} : PE X (.Constant (.str x) j pos) (tE G (vC (.str x))) := le_c pe_str fun _ => by simp only [Rp]
theorem le_bl {x : Bool} {j : Nat} : PE X (.Constant (.bool x) j pos) (tE G (vC (.bl x))) := le_c pe_bl fun _ => by simp only [Rp]
theorem le_non {j : Nat} : PE X (.Constant .none j pos) (tE G (vC .non)) := le_c pe_non fun _ => by simp only [Rp]
/-- a module's number -/
theorem le_gint {x : Str} {i : Int} (hm : ∃ t, X.mg x = some (.int i t)) (hg : Gl X x) (hd : (x == ("__debug__" : Str)) = false := by decide) : PE X (.Name x pos) (tE G (vC (.int i))) := by
  obtain ⟨t, hm⟩ := hm
  exact le_c (pe_glob (v := .int i) hg hm ⟨t, rfl⟩ hd) fun _ => by simp only [Rp]
theorem la_nil : PA X [] (tA G aNil) := pa_imp pa_nil fun σ H Q h => by
  obtain ⟨F, B, env, rep, post⟩ := h
  exact post [] B H .rfl rep (by simp only [relA, RpL])
theorem la_cons (ha : PE X a (tE G m)) (hr : PA X es (tA G ms)) (hs : starEach (a :: es) X.env = (false, eval a X.env) :: starEach es X.env := by rfl) : PA X (a :: es) (tA G (aCons m ms)) := pa_imp (pa_cons ha hr hs) fun σ H Q h => by
  obtain ⟨F, B, e, rep, post⟩ := h
  refine ⟨F, B, e, rep, Post.weak (Post.bind post) ?_⟩
  rintro x H1 ⟨B1, e1, d, ex1, rep1, rl1, post1⟩
  refine ⟨F, B1, e1, rep1, Post.weak (Post.bind post1) ?_⟩
  rintro xs H2 ⟨B2, e2, ds, ex2, rep2, rl2, post2⟩
  exact post2 (x :: xs) B2 H2 .rfl rep2 (RpL.cons (Rp.mono ex2 _ _ rl1) rl2)
theorem size_le {n : Nat} (h : n ≤ 100000) : n ≤ sizeLine := by rw [sizeLine_eq]; omega
theorem le_tup {x1} (h : PA X es (tA G ms)) : PE X (.Tuple es x1 pos) (tE G (vTup ms)) := pe_imp (pe_tup h) fun σ H Q hq => by
  obtain ⟨F, B, e, rep, post⟩ := hq
  refine ⟨F, B, e, rep, Post.weak (Post.bind post) ?_⟩
  rintro xs H1 ⟨B1, e1, ds, ex1, rep1, rl, post1⟩
  have rl : RpL G.T B1 ds xs := rl
  by_cases hl : ds.length ≤ 100000
  · rw [if_pos hl] at post1
    refine ⟨size_le (by rw [rl.length]; exact hl), fun p hp => ?_⟩
    refine post1 (.ref p) (upd B1 p (.tup xs)) _ (.new (rep1.ex.none hp)) (rep1.grow (.new rep1.ex hp)) ?_
    simp only [relE, Rp]
    exact ⟨p, xs, rfl, upd_same, RpL.mono (.new (rep1.ex.none hp)) _ _ rl⟩
  · rw [if_neg hl] at post1; exact post1.elim
theorem lf_lst (h : PA X es (tA G ms)) : PE X (.List es pos) (tF G (vLst ms)) := pe_imp (pe_lst h) fun σ H Q hq => by
  obtain ⟨F, B, e, rep, post⟩ := hq
  refine ⟨F, B, e, rep, Post.weak (Post.bind post) ?_⟩
  rintro xs H1 ⟨B1, e1, ds, ex1, rep1, rl, post1⟩
  have rl : RpL G.T B1 ds xs := rl
  by_cases hl : ds.length ≤ 100000
  · rw [if_pos hl] at post1
    refine ⟨size_le (by rw [rl.length]; exact hl), fun p hp => ?_⟩
    have z := new_F (o := .lst xs) (d := .lst ds) rep1 hp (by simp only [At]; exact ⟨xs, rfl, rl⟩)
    exact post1 (.ref p) B1 _ .rfl z.1 z.2
  · rw [if_neg hl] at post1; exact post1.elim
end
end Fl

namespace Fl
open PySem PySem.Spec PyProof.Rows L2

/-! ## the operations on data -/
mutual
def eqD : D → D → Bool
  | .non, .non => true
  | .bl a, .bl b => a == b
  | .bl a, .int j => (if a then 1 else 0) == j
  | .int i, .bl b => i == (if b then 1 else 0)
  | .int i, .int j => i == j
  | .str x, .str y => x == y
  | .lst xs, .lst ys => eqL xs ys
  | .tup xs, .tup ys => eqL xs ys
  | .tup xs, .ptp ys => eqL xs ys
  | .ptp xs, .tup ys => eqL xs ys
  | .ptp xs, .ptp ys => eqL xs ys
  | _, _ => false
def eqL : List D → List D → Bool
  | [], [] => true
  | x :: xs, y :: ys => eqD x y && eqL xs ys
  | _, _ => false
end
/-- none, bools, ints, texts, lists and tuples of these, n deep -/
def strOkB (x : Str) : Bool := PyData.strOk x
mutual
def pyOk : Nat → D → Bool
  | _, .non => true
  | _, .bl _ => true
  | _, .int _ => true
  | _, .str x => strOkB x
  | 0, _ => false
  | n + 1, .lst xs => pyOkL n xs
  | n + 1, .tup xs => pyOkL n xs
  | n + 1, .ptp xs => pyOkL n xs
  | _, _ => false
def pyOkL : Nat → List D → Bool
  | _, [] => true
  | n, x :: xs => pyOk n x && pyOkL n xs
end
mutual
def toPy : D → PyData
  | .bl b => .bool b
  | .int i => .int i
  | .str x => .str x
  | .lst xs => .list (toPyL xs)
  | .tup xs => .tuple (toPyL xs)
  | .ptp xs => .tuple (toPyL xs)
  | _ => .none
def toPyL : List D → List PyData
  | [] => []
  | x :: xs => toPy x :: toPyL xs
end
mutual
theorem pyOk_shape : ∀ (d : D) (n : Nat), pyOk n d = true → (toPy d).canLay0 = true ∧ (toPy d).depth ≤ n
  | .non, n, h => by simp [toPy, PyData.canLay0, PyData.depth]
  | .bl _, n, h => by simp [toPy, PyData.canLay0, PyData.depth]
  | .int _, n, h => by simp [toPy, PyData.canLay0, PyData.depth]
  | .str x, n, h => by
    have h' : PyData.strOk x = true := by cases n <;> simpa [pyOk, strOkB] using h
    simp [toPy, PyData.canLay0, PyData.depth, h']
  | .lst xs, 0, h => by simp [pyOk] at h
  | .lst xs, n + 1, h => by
    simp only [pyOk] at h
    obtain ⟨h1, h2⟩ := pyOkL_shape xs n h
    simp [toPy, PyData.canLay0, PyData.depth, h1, h2]
  | .tup xs, 0, h => by simp [pyOk] at h
  | .tup xs, n + 1, h => by
    simp only [pyOk] at h
    obtain ⟨h1, h2⟩ := pyOkL_shape xs n h
    simp [toPy, PyData.canLay0, PyData.depth, h1, h2]
  | .scr _, n, h => by cases n <;> simp [pyOk] at h
  | .ptp xs, 0, h => by simp [pyOk] at h
  | .ptp xs, n + 1, h => by
    simp only [pyOk] at h
    obtain ⟨h1, h2⟩ := pyOkL_shape xs n h
    simp [toPy, PyData.canLay0, PyData.depth, h1, h2]
  | .exc _, n, h => by cases n <;> simp [pyOk] at h
  | .dcn _ _, n, h => by cases n <;> simp [pyOk] at h
  | .dct _ _ _, n, h => by cases n <;> simp [pyOk] at h
  | .fn _, n, h => by cases n <;> simp [pyOk] at h
  | .ins _ _, n, h => by cases n <;> simp [pyOk] at h
theorem pyOkL_shape : ∀ (ds : List D) (n : Nat), pyOkL n ds = true → PyData.canLayAll0 (toPyL ds) = true ∧ PyData.depthAll (toPyL ds) ≤ n
  | [], n, h => by simp [toPyL, PyData.canLayAll0, PyData.depthAll]
  | d :: ds, n, h => by
    simp only [pyOkL, Bool.and_eq_true] at h
    obtain ⟨a1, a2⟩ := pyOk_shape d n h.1
    obtain ⟨b1, b2⟩ := pyOkL_shape ds n h.2
    simp only [toPyL, PyData.canLayAll0, PyData.depthAll, a1, b1, Bool.and_self, true_and]
    omega
end
mutual
theorem eqv_eq : ∀ (d e : D) (n m : Nat), pyOk n d = true → pyOk m e = true → (toPy d).eqv (toPy e) = eqD d e
  | .non, e, n, m, h, g => by cases e <;> first | (simp [toPy, PyData.eqv, eqD]; done) | (cases m <;> simp [pyOk] at g)
  | .bl _, e, n, m, h, g => by cases e <;> first | (simp [toPy, PyData.eqv, eqD]; done) | (cases m <;> simp [pyOk] at g)
  | .int _, e, n, m, h, g => by cases e <;> first | (simp [toPy, PyData.eqv, eqD]; done) | (cases m <;> simp [pyOk] at g)
  | .str _, e, n, m, h, g => by cases e <;> first | (simp [toPy, PyData.eqv, eqD]; done) | (cases m <;> simp [pyOk] at g)
  | .lst xs, e, n, m, h, g => by
    cases e with
    | lst ys =>
      cases n with
      | zero => simp [pyOk] at h
      | succ n => cases m with
        | zero => simp [pyOk] at g
        | succ m =>
          simp only [pyOk] at h g
          simp only [toPy, PyData.eqv, eqD]
          exact eqvL_eq xs ys n m h g
    | _ => first | (simp [toPy, PyData.eqv, eqD]; done) | (cases m <;> simp [pyOk] at g)
  | .tup xs, e, n, m, h, g => by
    cases e with
    | tup ys =>
      cases n with
      | zero => simp [pyOk] at h
      | succ n => cases m with
        | zero => simp [pyOk] at g
        | succ m =>
          simp only [pyOk] at h g
          simp only [toPy, PyData.eqv, eqD]
          exact eqvL_eq xs ys n m h g
    | ptp ys =>
      cases n with
      | zero => simp [pyOk] at h
      | succ n => cases m with
        | zero => simp [pyOk] at g
        | succ m =>
          simp only [pyOk] at h g
          simp only [toPy, PyData.eqv, eqD]
          exact eqvL_eq xs ys n m h g
    | _ => first | (simp [toPy, PyData.eqv, eqD]; done) | (cases m <;> simp [pyOk] at g)
  | .ptp xs, e, n, m, h, g => by
    cases e with
    | tup ys =>
      cases n with
      | zero => simp [pyOk] at h
      | succ n => cases m with
        | zero => simp [pyOk] at g
        | succ m =>
          simp only [pyOk] at h g
          simp only [toPy, PyData.eqv, eqD]
          exact eqvL_eq xs ys n m h g
    | ptp ys =>
      cases n with
      | zero => simp [pyOk] at h
      | succ n => cases m with
        | zero => simp [pyOk] at g
        | succ m =>
          simp only [pyOk] at h g
          simp only [toPy, PyData.eqv, eqD]
          exact eqvL_eq xs ys n m h g
    | _ => first | (simp [toPy, PyData.eqv, eqD]; done) | (cases m <;> simp [pyOk] at g)
  | .scr _, _, n, _, h, _ => by cases n <;> simp [pyOk] at h
  | .dcn _ _, e, n, m, h, g => by cases n <;> simp [pyOk] at h
  | .exc _, _, n, _, h, _ => by cases n <;> simp [pyOk] at h
  | .dct _ _ _, _, n, _, h, _ => by cases n <;> simp [pyOk] at h
  | .fn _, _, n, _, h, _ => by cases n <;> simp [pyOk] at h
  | .ins _ _, _, n, _, h, _ => by cases n <;> simp [pyOk] at h
theorem eqvL_eq : ∀ (ds es : List D) (n m : Nat), pyOkL n ds = true → pyOkL m es = true → PyData.eqvAll (toPyL ds) (toPyL es) = eqL ds es
  | [], [], _, _, _, _ => by simp [toPyL, PyData.eqvAll, eqL]
  | [], _ :: _, _, _, _, _ => by simp [toPyL, PyData.eqvAll, eqL]
  | _ :: _, [], _, _, _, _ => by simp [toPyL, PyData.eqvAll, eqL]
  | d :: ds, e :: es, n, m, h, g => by
    simp only [pyOkL, Bool.and_eq_true] at h g
    simp only [toPyL, PyData.eqvAll, eqL]
    rw [eqv_eq d e n m h.1 g.1, eqvL_eq ds es n m h.2 g.2]
end
section
variable {T : Tb} {B H : Hp}
mutual
theorem dp_of : ∀ (d : D) (n : Nat) (v : V), pyOk n d = true → Rp T B d v → Dp T.K B v (toPy d)
  | .non, _, v, _, h => by
    have h : v = .non := by simpa only [Rp] using h
    subst h; exact .non
  | .bl b, _, v, _, h => by
    have h : v = .bl b := by simpa only [Rp] using h
    subst h; exact .bl _
  | .int i, _, v, _, h => by
    have h : v = .int i := by simpa only [Rp] using h
    subst h; exact .int _
  | .str x, _, v, _, h => by
    have h : v = .str x := by simpa only [Rp] using h
    subst h; exact .str _
  | .lst xs, n, v, k, h => by
    simp only [Rp] at h
    obtain ⟨a, zs, rfl, h1, h2⟩ := h
    cases n with
    | zero => simp [pyOk] at k
    | succ n =>
      simp only [pyOk] at k
      exact .lst (.inl (.inl h1)) (dpL_of xs n zs k h2)
  | .tup xs, n, v, k, h => by
    simp only [Rp] at h
    obtain ⟨a, zs, rfl, h1, h2⟩ := h
    cases n with
    | zero => simp [pyOk] at k
    | succ n =>
      simp only [pyOk] at k
      exact .tup (.inl (.inl h1)) (dpL_of xs n zs k h2)
  | .scr _, n, _, h, _ => by cases n <;> simp [pyOk] at h
  | .ptp xs, n, v, k, h => by
    simp only [Rp] at h
    obtain ⟨a, zs, o, rfl, h1, _, _, h2⟩ := h
    cases n with
    | zero => simp [pyOk] at k
    | succ n =>
      simp only [pyOk] at k
      exact .tup (.inl (.inr ⟨o, h1⟩)) (dpL_of xs n zs k h2)
  | .exc _, n, _, h, _ => by cases n <;> simp [pyOk] at h
  | .dcn _ _, n, _, h, _ => by cases n <;> simp [pyOk] at h
  | .dct _ _ _, n, _, h, _ => by cases n <;> simp [pyOk] at h
  | .fn _, n, _, h, _ => by cases n <;> simp [pyOk] at h
  | .ins _ _, n, _, h, _ => by cases n <;> simp [pyOk] at h
theorem dpL_of : ∀ (ds : List D) (n : Nat) (vs : List V), pyOkL n ds = true → RpL T B ds vs → DpAll T.K B vs (toPyL ds)
  | [], _, vs, _, h => by
    simp only [RpL] at h
    subst h; exact .nil
  | d :: ds, n, vs, k, h => by
    simp only [RpL] at h
    obtain ⟨x, r, rfl, h1, h2⟩ := h
    simp only [pyOkL, Bool.and_eq_true] at k
    exact .cons (dp_of d n x k.1 h1) (dpL_of ds n r k.2 h2)
end
mutual
theorem dp_mono {H' : Hp} {K : PySem.W.Frag} (e : Ex H H') : ∀ (d : PyData) (v : V), Dp K H v d → Dp K H' v d
  | .none, _, h => by cases h; exact .non
  | .bool _, _, h => by cases h; exact .bl _
  | .int _, _, h => by cases h; exact .int _
  | .str _, _, h => by cases h; exact .str _
  | .list ds, _, h => by
    cases h with
    | lst h1 h2 => exact .lst (sql_mono (T := ⟨K, fun _ _ _ => (fun _ => False, fun _ => False), fun _ => 0, fun _ => [], fun _ => 0⟩) e h1) (dpL_mono e ds _ h2)
  | .tuple ds, _, h => by
    cases h with
    | tup h1 h2 =>
      refine .tup ?_ (dpL_mono e ds _ h2)
      rcases h1 with h1 | h1
      · rcases h1 with h1 | ⟨o, h1⟩
        · exact .inl (.inl (e _ _ h1))
        · exact .inl (.inr ⟨o, e _ _ h1⟩)
      · exact .inr h1
  | .dict _, _, h => by cases h
theorem dpL_mono {H' : Hp} {K : PySem.W.Frag} (e : Ex H H') : ∀ (ds : List PyData) (vs : List V), DpAll K H vs ds → DpAll K H' vs ds
  | [], _, h => by cases h; exact .nil
  | d :: ds, _, h => by
    cases h with
    | cons h1 h2 => exact .cons (dp_mono e d _ h1) (dpL_mono e ds _ h2)
end
theorem dp_rh {d : D} {n : Nat} {v : V} (ex : Ex B H) (k : pyOk n d = true) (h : RpH T B H d v) : Dp T.K H v (toPy d) := by
  rcases h with h | ⟨p, o, rfl, h1, h⟩
  · exact dp_mono ex _ _ (dp_of d n v k h)
  · cases d <;> simp only [At] at h
    · rename_i xs
      obtain ⟨zs, rfl, h2⟩ := h
      cases n with
      | zero => simp [pyOk] at k
      | succ n =>
        simp only [pyOk] at k
        exact .lst (.inl (.inl h1)) (dpL_mono ex _ _ (dpL_of xs n zs k h2))
    · cases n <;> simp [pyOk] at k
    · cases n <;> simp [pyOk] at k
    · cases n <;> simp [pyOk] at k
theorem shaped_of {d : D} (k : pyOk 60 d = true) : SeqAt.shaped (toPy d) = true := by
  obtain ⟨h1, h2⟩ := pyOk_shape d 60 k
  unfold SeqAt.shaped
  rw [h1, Bool.true_and, decide_eq_true_eq]
  omega
end

def dEq (a b : D) : Option D := match a, b with
  | .str x, .str y => some (.bl (x == y))
  | .int i, .int j => some (.bl (i == j))
  | a, b => if pyOk 60 a && pyOk 60 b then some (.bl (eqD a b)) else none
def dNe (a b : D) : Option D := match a, b with
  | .str x, .str y => some (.bl (!(x == y)))
  | .int i, .int j => some (.bl (!(i == j)))
  | a, b => if pyOk 60 a && pyOk 60 b then some (.bl (!eqD a b)) else none
def rEqG (K : PySem.W.Frag) : R2 := fun x y H Q => rEqD K x y H Q ∨ rEq x y H Q
def rNeG (K : PySem.W.Frag) : R2 := fun x y H Q => rNeD K x y H Q ∨ rNe x y H Q
theorem op_eqG {X : Cx} (hu : X.A.units + 64 < cLine) : OpR X (compareOp .Eq) (rEqG X.K) := (op_eqD hu).or op_eq
theorem op_neG {X : Cx} (hu : X.A.units + 64 < cLine) : OpR X (compareOp .NotEq) (rNeG X.K) := (op_neD hu).or op_ne
/-- the commonest ends of an operation: a scalar -/
theorem fin_q {T : Tb} {B H : Hp} {d : D} {v : V} {Q : VK} (ex : Ex B H) (q : ∀ v B' H', Grow B H B' H' → Rp T B' d v → Q v H') (h : Rp T B d v) : Q v H := q v B H (.rfl ex) h
theorem dec_strV {x y : Str} : decide (V.str x = V.str y) = (x == y) := dec_str
theorem dec_intV {x y : Int} : decide (V.int x = V.int y) = (x == y) := dec_int
theorem eqG_gen {T : Tb} {B H : Hp} {x y : V} {d1 d2 d : D} {Q : VK} (ex : Ex B H) (h1 : RpH T B H d1 x) (h2 : RpH T B H d2 y) (hf : (if pyOk 60 d1 && pyOk 60 d2 then some (D.bl (eqD d1 d2)) else none) = some d)
    (q : ∀ v B' H', Grow B H B' H' → Rp T B' d v → Q v H') : rEqG T.K x y H Q := by
  by_cases k : (pyOk 60 d1 && pyOk 60 d2) = true
  · rw [if_pos k] at hf
    cases hf
    rw [Bool.and_eq_true] at k
    refine .inl ⟨toPy d1, toPy d2, dp_rh ex k.1 h1, dp_rh ex k.2 h2, shaped_of k.1, shaped_of k.2, ?_⟩
    rw [eqv_eq d1 d2 60 60 k.1 k.2]
    exact fin_q ex q (by simp only [Rp])
  · rw [if_neg k] at hf; cases hf
theorem neG_gen {T : Tb} {B H : Hp} {x y : V} {d1 d2 d : D} {Q : VK} (ex : Ex B H) (h1 : RpH T B H d1 x) (h2 : RpH T B H d2 y) (hf : (if pyOk 60 d1 && pyOk 60 d2 then some (D.bl (!eqD d1 d2)) else none) = some d)
    (q : ∀ v B' H', Grow B H B' H' → Rp T B' d v → Q v H') : rNeG T.K x y H Q := by
  by_cases k : (pyOk 60 d1 && pyOk 60 d2) = true
  · rw [if_pos k] at hf
    cases hf
    rw [Bool.and_eq_true] at k
    refine .inl ⟨toPy d1, toPy d2, dp_rh ex k.1 h1, dp_rh ex k.2 h2, shaped_of k.1, shaped_of k.2, ?_⟩
    rw [eqv_eq d1 d2 60 60 k.1 k.2]
    exact fin_q ex q (by simp only [Rp])
  · rw [if_neg k] at hf; cases hf
theorem od_eq {T : Tb} : OpD T (rEqG T.K) dEq := by
  intro B H x y d1 d2 d Q ex h1 h2 hf q
  unfold dEq at hf
  split at hf
  · cases hf
    cases rh_str h1
    cases rh_str h2
    refine .inr ⟨rfl, ?_⟩
    rw [dec_str]
    exact fin_q ex q (by simp only [Rp])
  · cases hf
    cases rh_int h1
    cases rh_int h2
    refine .inr ⟨rfl, ?_⟩
    rw [dec_int]
    exact fin_q ex q (by simp only [Rp])
  · exact eqG_gen ex h1 h2 hf q
theorem od_ne {T : Tb} : OpD T (rNeG T.K) dNe := by
  intro B H x y d1 d2 d Q ex h1 h2 hf q
  unfold dNe at hf
  split at hf
  · cases hf
    cases rh_str h1
    cases rh_str h2
    refine .inr ⟨rfl, ?_⟩
    rw [dec_str]
    exact fin_q ex q (by simp only [Rp])
  · cases hf
    cases rh_int h1
    cases rh_int h2
    refine .inr ⟨rfl, ?_⟩
    rw [dec_int]
    exact fin_q ex q (by simp only [Rp])
  · exact neG_gen ex h1 h2 hf q

/-! ### arithmetic, texts, tuples, lists -/
def dAdd : D → D → Option D
  | .int i, .int j => some (.int (i + j))
  | .str x, .str y => if x.length + y.length ≤ 1000000 then some (.str (x ++ y)) else none
  | .tup xs, .tup ys => if xs.length + ys.length ≤ 1000000 then some (.tup (xs ++ ys)) else none
  | .lst xs, .lst ys => if xs.length + ys.length ≤ 1000000 then some (.lst (xs ++ ys)) else none
  | _, _ => none
/-- of lists alone: a new list -/
def dCat : D → D → Option D
  | .lst xs, .lst ys => if xs.length + ys.length ≤ 1000000 then some (.lst (xs ++ ys)) else none
  | _, _ => none
def rAddG (K : PySem.W.Frag) : R2 := fun x y H Q => rI0 (fun i j => .int (i + j)) x y H Q ∨ (∃ i j, x = .str i ∧ y = .str j ∧ i.length + j.length ≤ sizeLine ∧ Q (.str (i ++ j)) H) ∨ rCatA K x y H Q ∨ rCat x y H Q
theorem op_addG {X : Cx} : OpR X (binaryOp .Add) (rAddG X.K) := op_add.or (op_add_str.or (op_catA.or op_cat))
theorem million {n : Nat} (h : n ≤ 1000000) : n ≤ sizeLine := by rw [sizeLine_eq]; omega
theorem od_cat {T : Tb} : OpDF T rCat dCat := by
  intro B H x y d1 d2 d Q ex h1 h2 hf q
  cases d1 <;> cases d2 <;> simp only [dCat, reduceCtorEq] at hf
  rename_i xs ys
  split at hf
  · rename_i hl
    cases hf
    obtain ⟨a, us, rfl, e1, r1⟩ := rh_lst ex h1
    obtain ⟨b, ws, rfl, e2, r2⟩ := rh_lst ex h2
    exact ⟨a, b, us, ws, rfl, rfl, e1, e2, million (by rw [r1.length, r2.length]; exact hl), fun p hp => q p _ hp (by simp only [At]; exact ⟨_, rfl, r1.append r2⟩)⟩
  · cases hf
theorem od_add {T : Tb} : OpD T (rAddG T.K) dAdd := by
  intro B H x y d1 d2 d Q ex h1 h2 hf q
  cases d1 <;> cases d2 <;> simp only [dAdd, reduceCtorEq, Option.some.injEq] at hf
  · subst hf
    exact .inl ⟨_, _, rh_int h1, rh_int h2, fin_q ex q (by simp only [Rp])⟩
  · split at hf
    · rename_i hl
      cases hf
      exact .inr (.inl ⟨_, _, rh_str h1, rh_str h2, million hl, fin_q ex q (by simp only [Rp])⟩)
    · cases hf
  · rename_i xs ys
    split at hf
    · rename_i hl
      cases hf
      obtain ⟨a, us, rfl, e1, r1⟩ := rh_tup h1
      obtain ⟨b, ws, rfl, e2, r2⟩ := rh_tup h2
      refine .inr (.inr (.inl ⟨a, b, us, ws, rfl, rfl, sqt_of ex e1, sqt_of ex e2, million (by rw [r1.length, r2.length]; exact hl), fun z => ?_, fun z1 z2 => ?_, fun z1 z2 p hp => ?_⟩))
      · subst z
        refine fin_q ex q ?_
        simp only [Rp]
        exact ⟨b, ws, rfl, e2, by simpa using r1.append r2⟩
      · subst z2
        refine fin_q ex q ?_
        simp only [Rp]
        exact ⟨a, us, rfl, e1, by simpa using r1.append r2⟩
      · refine q _ (upd B p (.tup (us ++ ws))) _ (.new ex hp) ?_
        simp only [Rp]
        exact ⟨p, _, rfl, upd_same, RpL.mono (.new (ex.none hp)) _ _ (r1.append r2)⟩
    · cases hf
  · exact .inr (.inr (.inr (od_cat.opD B H x y _ _ d Q ex h1 h2 (by simpa only [dCat] using hf) q)))
def dSub : D → D → Option D
  | .int i, .int j => some (.int (i - j))
  | _, _ => none
theorem od_sub {T : Tb} : OpD T (rI0 fun i j => .int (i - j)) dSub := by
  intro B H x y d1 d2 d Q ex h1 h2 hf q
  cases d1 <;> cases d2 <;> simp only [dSub, reduceCtorEq, Option.some.injEq] at hf
  subst hf
  exact ⟨_, _, rh_int h1, rh_int h2, fin_q ex q (by simp only [Rp])⟩
def dFdiv : D → D → Option D
  | .int i, .int j => if 0 < j ∧ j < 1073741824 then some (.int (i / j)) else none
  | _, _ => none
theorem od_fdiv {T : Tb} : OpD T (rI CDiv fun i j => .int (i / j)) dFdiv := by
  intro B H x y d1 d2 d Q ex h1 h2 hf q
  cases d1 <;> cases d2 <;> simp only [dFdiv, reduceCtorEq] at hf
  split at hf
  · rename_i hc
    cases hf
    exact ⟨_, _, rh_int h1, rh_int h2, hc, fin_q ex q (by simp only [Rp])⟩
  · cases hf
def dMod : D → D → Option D
  | .int i, .int j => if 0 < j then some (.int (i % j)) else none
  | _, _ => none
theorem od_mod {T : Tb} : OpD T (rI (fun _ j => 0 < j) fun i j => .int (i % j)) dMod := by
  intro B H x y d1 d2 d Q ex h1 h2 hf q
  cases d1 <;> cases d2 <;> simp only [dMod, reduceCtorEq] at hf
  split at hf
  · rename_i hc
    cases hf
    exact ⟨_, _, rh_int h1, rh_int h2, hc, fin_q ex q (by simp only [Rp])⟩
  · cases hf
def dPow : D → D → Option D
  | .int i, .int j => if 0 ≤ j ∧ j ≤ 1000000 ∧ i.natAbs < 2 ^ 64 then some (.int (i ^ j.toNat)) else none
  | _, _ => none
theorem od_pow {T : Tb} : OpD T (rI CPow fun i j => .int (i ^ j.toNat)) dPow := by
  intro B H x y d1 d2 d Q ex h1 h2 hf q
  cases d1 <;> cases d2 <;> simp only [dPow, reduceCtorEq] at hf
  split at hf
  · rename_i hc
    cases hf
    exact ⟨_, _, rh_int h1, rh_int h2, hc, fin_q ex q (by simp only [Rp])⟩
  · cases hf
/-- a text so many times -/
def repStr (x : Str) (n : Nat) : Str := ⟨(List.replicate n x.cps.toList).flatten.toArray⟩
def dMul : D → D → Option D
  | .int i, .int j => if (-(2 ^ 64) < i ∧ i < 2 ^ 64) ∨ (-(2 ^ 64) < j ∧ j < 2 ^ 64) then some (.int (i * j)) else none
  | .str x, .int n => if x.length ≤ 1000 ∧ n ≤ 1000 ∧ -1000 ≤ n then some (.str (repStr x n.toNat)) else none
  | .lst xs, .int n => if xs.length ≤ 1000 ∧ n ≤ 1000 ∧ -1000 ≤ n then some (.lst (List.replicate n.toNat xs).flatten) else none
  | .tup xs, .int n => if xs ≠ [] ∧ xs.length ≤ 1000 ∧ n ≤ 1000 ∧ 2 ≤ n then some (.tup (List.replicate n.toNat xs).flatten) else none
  | _, _ => none
theorem foldl_app (ys : Array Nat) : ∀ (n : Nat) (acc : Array Nat), (List.replicate n ys).foldl (· ++ ·) acc = acc ++ (List.replicate n ys.toList).flatten.toArray
  | 0, acc => by simp
  | n + 1, acc => by
    rw [List.replicate_succ, List.foldl_cons, foldl_app ys n, List.replicate_succ, List.flatten_cons]
    simp [← Array.toList_inj]
theorem repStr_length (x : Str) (n : Nat) : (repStr x n).length = n * x.length := by
  unfold repStr
  show ((List.replicate n x.cps.toList).flatten.toArray).size = n * x.cps.size
  simp
theorem op_mulS {X : Cx} : OpR X (binaryOp .Mult) (fun x y H Q => ∃ (a : Str) (n : Int), x = .str a ∧ y = .int n ∧ a.length ≤ 1000 ∧ n ≤ 1000 ∧ -1000 ≤ n ∧ Q (.str (repStr a n.toNat)) H) := by
  intro pins s σ H x y v u Q I rx ry h
  obtain ⟨a, n, rfl, rfl, h1, h2, h3, q⟩ := h
  obtain ⟨t, rfl⟩ := rx
  obtain ⟨t', rfl⟩ := ry
  refine PySem.P.mul_str ?_ (fun hn hx => ?_) (fun hn hx => ?_) ?_
  · have e1 : ¬ n < -(2 ^ 63 : Int) := by omega
    have e2 : ¬ n ≥ 2 ^ 63 := by omega
    rw [decide_eq_false e1, decide_eq_false e2]; rfl
  · intro hz
    have hn' : 0 < n := by omega
    have : (1000 : Int) ≤ (2 ^ 63 - 1) / n := by
      rw [Int.le_ediv_iff_mul_le hn']
      omega
    omega
  · have hle : a.length * n.toNat ≤ 1000 * 1000 := Nat.mul_le_mul h1 (by omega)
    have hs : sizeLine = 16777216 := sizeLine_eq
    unfold PySem.Builtin.Str.tooLong
    rw [decide_eq_false_iff_not]
    omega
  · by_cases hn : n < 1
    · rw [if_pos hn]
      have e : repStr a n.toNat = Str.empty := by
        have : n.toNat = 0 := by omega
        rw [this]; rfl
      rw [e] at q
      exact ⟨by decide, .str Str.empty, H, I.tok _, ⟨_, rfl⟩, q⟩
    · rw [if_neg hn]
      by_cases hx : (n == 1 || a.length == 0) = true
      · rw [if_pos hx]
        have e : repStr a n.toNat = a := by
          simp only [Bool.or_eq_true, beq_iff_eq] at hx
          rcases hx with hx | hx
          · subst hx
            unfold repStr
            simp
          · obtain ⟨⟨l⟩⟩ := a
            have hl : l = [] := by
              have : l.length = 0 := hx
              exact List.length_eq_zero_iff.mp this
            subst hl
            unfold repStr
            simp
        rw [e] at q
        exact ⟨.str a, H, I, ⟨_, rfl⟩, q⟩
      · rw [if_neg hx]
        have e : repStr a n.toNat = ⟨(List.replicate n.toNat a.cps).foldl (· ++ ·) #[]⟩ := by
          unfold repStr
          rw [foldl_app]
          simp
        rw [e] at q
        have hle : a.length * n.toNat ≤ 1000 * 1000 := Nat.mul_le_mul h1 (by omega)
        rw [← e] at q ⊢
        refine ⟨?_, .str _, H, I.tok _, ⟨_, rfl⟩, q⟩
        rw [repStr_length, Nat.mul_comm, sizeLine_eq]
        omega
def rMulG (K : PySem.W.Frag) : R2 := fun x y H Q => rI CMul (fun i j => .int (i * j)) x y H Q ∨ (∃ (a : Str) (n : Int), x = .str a ∧ y = .int n ∧ a.length ≤ 1000 ∧ n ≤ 1000 ∧ -1000 ≤ n ∧ Q (.str (repStr a n.toNat)) H) ∨ rRep x y H Q ∨ rRepT K x y H Q
theorem op_mulG {X : Cx} : OpR X (binaryOp .Mult) (rMulG X.K) := op_mul.or (op_mulS.or (op_rep.or op_repT))
section
variable {T : Tb} {B H : Hp}
theorem RpL.rep {ds : List D} {xs : List V} (h : RpL T B ds xs) : ∀ n : Nat, RpL T B (List.replicate n ds).flatten (List.replicate n xs).flatten
  | 0 => by simp [RpL]
  | n + 1 => by
    simp only [List.replicate_succ, List.flatten_cons]
    exact h.append (RpL.rep h n)
end
def dRepL : D → D → Option D
  | .lst xs, .int n => if xs.length ≤ 1000 ∧ n ≤ 1000 ∧ -1000 ≤ n then some (.lst (List.replicate n.toNat xs).flatten) else none
  | _, _ => none
theorem od_repL {T : Tb} : OpDF T rRep dRepL := by
  intro B H x y d1 d2 d Q ex h1 h2 hf q
  cases d1 <;> cases d2 <;> simp only [dRepL, reduceCtorEq] at hf
  rename_i xs n
  split at hf
  · rename_i hc
    cases hf
    obtain ⟨a, us, rfl, e1, r1⟩ := rh_lst ex h1
    refine ⟨a, n, us, rfl, rh_int h2, e1, by omega, by omega, ?_, fun p hp => q p _ hp (by simp only [At]; exact ⟨_, rfl, r1.rep _⟩)⟩
    have : us.length * n.toNat ≤ 1000 * 1000 := Nat.mul_le_mul (by rw [r1.length]; omega) (by omega)
    rw [sizeLine_eq]; omega
  · cases hf
theorem od_mul {T : Tb} : OpD T (rMulG T.K) dMul := by
  intro B H x y d1 d2 d Q ex h1 h2 hf q
  cases d1 <;> cases d2 <;> simp only [dMul, reduceCtorEq] at hf
  · split at hf
    · rename_i hc
      cases hf
      exact .inl ⟨_, _, rh_int h1, rh_int h2, hc, fin_q ex q (by simp only [Rp])⟩
    · cases hf
  · split at hf
    · rename_i hc
      cases hf
      exact .inr (.inl ⟨_, _, rh_str h1, rh_int h2, hc.1, hc.2.1, hc.2.2, fin_q ex q (by simp only [Rp])⟩)
    · cases hf
  · rename_i xs n
    split at hf
    · rename_i hc
      cases hf
      obtain ⟨a, us, rfl, e1, r1⟩ := rh_tup h1
      have hl := r1.length
      refine .inr (.inr (.inr ⟨a, n, us, rfl, rh_int h2, sqt_of ex e1, ?_, by omega, by omega, by omega, fun p hp => ?_⟩))
      · rintro rfl
        exact hc.1 (List.length_eq_zero_iff.mp (by simpa using hl.symm))
      · refine q _ (upd B p (.tup (List.replicate n.toNat us).flatten)) _ (.new ex hp) ?_
        simp only [Rp]
        exact ⟨p, _, rfl, upd_same, RpL.mono (.new (ex.none hp)) _ _ (r1.rep _)⟩
    · cases hf
  · exact .inr (.inr (.inl (od_repL.opD B H x y _ _ d Q ex h1 h2 (by simpa only [dRepL] using hf) q)))

/-! ### order -/
def dRel (p : Int → Int → Bool) : D → D → Option D
  | .int i, .int j => some (.bl (p i j))
  | _, _ => none
theorem od_rel {T : Tb} {p : Int → Int → Bool} : OpD T (rI0 fun i j => .bl (p i j)) (dRel p) := by
  intro B H x y d1 d2 d Q ex h1 h2 hf q
  cases d1 <;> cases d2 <;> simp only [dRel, reduceCtorEq, Option.some.injEq] at hf
  subst hf
  exact ⟨_, _, rh_int h1, rh_int h2, fin_q ex q (by simp only [Rp])⟩
abbrev dLt := dRel fun i j => decide (i < j)
abbrev dLe := dRel fun i j => decide (i ≤ j)
abbrev dGt := dRel fun i j => decide (j < i)
abbrev dGe := dRel fun i j => decide (j ≤ i)

/-! ### is -/
def isNon : D → Bool
  | .non => true
  | _ => false
def dIs : D → D → Option D
  | a, .non => some (.bl (isNon a))
  | .bl a, .bl b => some (.bl (decide (a = b)))
  | _, _ => none
def dIsNot : D → D → Option D
  | a, .non => some (.bl (!isNon a))
  | .bl a, .bl b => some (.bl (!decide (a = b)))
  | _, _ => none
def rIsG : R2 := fun x y H Q => (y = .non ∧ Q (.bl (decide (x = .non))) H) ∨ rIsB x y H Q
def rIsNotG : R2 := fun x y H Q => (y = .non ∧ Q (.bl (!decide (x = .non))) H) ∨ rNotB x y H Q
theorem op_isG {X : Cx} : OpR X (compareOp .Is) rIsG := op_isN.or op_isBl
theorem op_isNotG {X : Cx} : OpR X (compareOp .IsNot) rIsNotG := op_notN.or op_notBl
/-- the table's functions are no None -/
structure Tb.Ok (T : Tb) : Prop where
  tt : True
theorem non_iff {T : Tb} (ok : T.Ok) {B H : Hp} {d : D} {v : V} (h : RpH T B H d v) : decide (v = .non) = isNon d := by
  rcases h with h | ⟨p, o, rfl, h1, h⟩
  · cases d <;> simp only [Rp] at h <;> simp only [isNon]
    · subst h; rfl
    · subst h; rfl
    · subst h; rfl
    · subst h; rfl
    · obtain ⟨a, xs, rfl, _⟩ := h; rfl
    · obtain ⟨a, xs, rfl, _⟩ := h; rfl
    · obtain ⟨a, rfl, _⟩ := h; rfl
    · obtain ⟨a, rfl, _⟩ := h; rfl
    · obtain ⟨a, c, rfl, _⟩ := h; rfl
    · obtain ⟨a, dx, nvs, rfl, _⟩ := h; rfl
    · obtain ⟨a, xs, o, rfl, _⟩ := h; rfl
    · obtain ⟨a, rfl, _⟩ := h; rfl
    · obtain ⟨p, a, xs, us, rfl, _⟩ := h; rfl
  · cases d <;> simp only [At] at h <;> rfl
theorem od_is {T : Tb} (ok : T.Ok) : OpD T rIsG dIs := by
  intro B H x y d1 d2 d Q ex h1 h2 hf q
  unfold dIs at hf
  split at hf
  · cases hf
    refine .inl ⟨rh_non h2, ?_⟩
    rw [non_iff ok h1]
    exact fin_q ex q (by simp only [Rp])
  · cases hf
    exact .inr ⟨_, _, rh_bl h1, rh_bl h2, fin_q ex q (by simp only [Rp])⟩
  · cases hf
theorem od_isNot {T : Tb} (ok : T.Ok) : OpD T rIsNotG dIsNot := by
  intro B H x y d1 d2 d Q ex h1 h2 hf q
  unfold dIsNot at hf
  split at hf
  · cases hf
    refine .inl ⟨rh_non h2, ?_⟩
    rw [non_iff ok h1]
    exact fin_q ex q (by simp only [Rp])
  · cases hf
    exact .inr ⟨_, _, rh_bl h1, rh_bl h2, fin_q ex q (by simp only [Rp])⟩
  · cases hf
end Fl

namespace Fl
open PySem PySem.Spec PyProof.Rows L2

/-! ### in -/
def flatDD : D → Bool
  | .non => true
  | .bl _ => true
  | .int _ => true
  | .str _ => true
  | _ => false
/-- the one sign of a text -/
def signOf (x : Str) : Option Nat := if x.cps.size = 1 then x.cps[0]? else none
theorem signOf_eq {x : Str} {c : Nat} (h : signOf x = some c) : x = ⟨#[c]⟩ := by
  unfold signOf at h
  split at h
  · rename_i hs
    obtain ⟨⟨l⟩⟩ := x
    match l, hs, h with
    | [a], _, h =>
      have : a = c := by simpa using h
      subst this; rfl
  · cases h
def inD (a b : D) : Option Bool := match b with
  | .lst ds => if pyOk 60 a && pyOkL 59 ds then some (ds.any fun z => eqD z a) else none
  | .tup ds => if flatDD a && ds.all flatDD then some (ds.any fun z => eqD z a) else none
  | .str y => match a with
    | .str x => (signOf x).map fun c => decide (c ∈ y.cps.toList)
    | _ => none
  | _ => none
def dIn (a b : D) : Option D := (inD a b).map .bl
def dNotIn (a b : D) : Option D := (inD a b).map fun c => .bl (!c)
section
variable {T : Tb} {B H : Hp}
theorem flatV_of {d : D} {v : V} (k : flatDD d = true) (h : Rp T B d v) : flatV v = true := by
  cases d <;> simp [flatDD] at k <;> simp only [Rp] at h <;> subst h <;> rfl
theorem eqV_of {d e : D} {v u : V} (k : flatDD d = true) (k2 : flatDD e = true) (h : Rp T B d v) (h2 : Rp T B e u) : eqV v u = eqD d e := by
  cases d <;> simp [flatDD] at k <;> simp only [Rp] at h <;> subst h <;> cases e <;> simp [flatDD] at k2 <;> simp only [Rp] at h2 <;> subst h2 <;> simp [eqV, eqD]
theorem flat_rp {d : D} {v : V} (k : flatDD d = true) (h : RpH T B H d v) : Rp T B d v := by
  rcases h with h | ⟨p, o, _, _, h⟩
  · exact h
  · cases d <;> simp [flatDD] at k <;> simp only [At] at h
theorem flatL_of : ∀ {ds : List D} {vs : List V}, ds.all flatDD = true → RpL T B ds vs → vs.all flatV = true ∧ ∀ (a : D) (x : V), flatDD a = true → Rp T B a x → inV x vs = ds.any fun z => eqD z a
  | [], vs, _, h => by
    simp only [RpL] at h
    subst h
    exact ⟨rfl, fun _ _ _ _ => rfl⟩
  | d :: ds, vs, k, h => by
    simp only [RpL] at h
    obtain ⟨y, r, rfl, h1, h2⟩ := h
    simp only [List.all_cons, Bool.and_eq_true] at k
    obtain ⟨g1, g2⟩ := flatL_of k.2 h2
    refine ⟨by simp only [List.all_cons, flatV_of k.1 h1, g1, Bool.and_self], fun a x ka ha => ?_⟩
    have e := g2 a x ka ha
    unfold inV at e ⊢
    rw [List.any_cons, List.any_cons, eqV_of k.1 ka h1 ha, e]
theorem any_py : ∀ {ds : List D} {n : Nat} {a : D} {m : Nat}, pyOkL n ds = true → pyOk m a = true → ((toPyL ds).any fun z => PyData.eqv z (toPy a)) = ds.any fun z => eqD z a
  | [], _, _, _, _, _ => rfl
  | d :: ds, n, a, m, h, g => by
    simp only [pyOkL, Bool.and_eq_true] at h
    simp only [toPyL, List.any_cons]
    rw [eqv_eq d a n m h.1 g, any_py h.2 g]
end
def rInG (K : PySem.W.Frag) : R2 := fun x y H Q => rInD K x y H Q ∨ rIn K false x y H Q ∨ rInS x y H Q
def rNotInG (K : PySem.W.Frag) : R2 := fun x y H Q => rNotInD K x y H Q ∨ rIn K true x y H Q ∨ rNotInS x y H Q
theorem op_inG {X : Cx} (hu : X.A.units + 65 < cLine) : OpR X (compareOp .In) (rInG X.K) := (op_inD hu).or (op_in_seq.or op_inS)
theorem op_notInG {X : Cx} (hu : X.A.units + 65 < cLine) : OpR X (compareOp .NotIn) (rNotInG X.K) := (op_notInD hu).or (op_notIn_seq.or op_notInS)
theorem in_gen {T : Tb} {B H : Hp} {x y : V} {a b : D} {k : Bool} (ex : Ex B H) (h1 : RpH T B H a x) (h2 : RpH T B H b y) (hf : inD a b = some k) {Q Q2 : VK} (q : Q (.bl k) H) (q2 : Q2 (.bl (!k)) H) :
    rInG T.K x y H Q ∧ rNotInG T.K x y H Q2 := by
  cases b with
  | lst ds =>
    simp only [inD] at hf
    split at hf
    · rename_i c
      cases hf
      rw [Bool.and_eq_true] at c
      have sd := shaped_of c.1
      have k2 : pyOk 60 (.lst ds) = true := by simpa only [pyOk] using c.2
      have dl : Dp T.K H y (.list (toPyL ds)) := by
        have := dp_rh (n := 60) ex k2 h2
        simpa only [toPy] using this
      have sl : SeqAt.shaped (.list (toPyL ds)) = true := by
        have := shaped_of k2
        simpa only [toPy] using this
      have e := any_py (a := a) c.2 c.1
      refine ⟨.inl ⟨toPy a, toPyL ds, dp_rh ex c.1 h1, dl, sd, sl, ?_⟩, .inl ⟨toPy a, toPyL ds, dp_rh ex c.1 h1, dl, sd, sl, ?_⟩⟩
      · rw [e]; exact q
      · rw [e]; exact q2
    · cases hf
  | tup ds =>
    simp only [inD] at hf
    split at hf
    · rename_i c
      cases hf
      rw [Bool.and_eq_true] at c
      obtain ⟨p, xs, rfl, e1, r1⟩ := rh_tup h2
      obtain ⟨g1, g2⟩ := flatL_of c.2 r1
      have ha := flat_rp c.1 h1
      have e := g2 a x c.1 ha
      refine ⟨.inr (.inl ⟨p, xs, rfl, .inr (sqt_of ex e1), flatV_of c.1 ha, g1, ?_⟩), .inr (.inl ⟨p, xs, rfl, .inr (sqt_of ex e1), flatV_of c.1 ha, g1, ?_⟩)⟩
      · rw [e]; exact q
      · rw [e]; exact q2
    · cases hf
  | str y' =>
    cases a with
    | str x' =>
      simp only [inD] at hf
      cases hs : signOf x' with
      | none => rw [hs] at hf; cases hf
      | some c =>
        rw [hs] at hf
        cases hf
        have := signOf_eq hs
        subst this
        exact ⟨.inr (.inr ⟨c, y', rh_str h1, rh_str h2, q⟩), .inr (.inr ⟨c, y', rh_str h1, rh_str h2, q2⟩)⟩
    | _ => simp [inD] at hf
  | _ => simp [inD] at hf
theorem od_in {T : Tb} : OpD T (rInG T.K) dIn := by
  intro B H x y d1 d2 d Q ex h1 h2 hf q
  obtain ⟨k, hk, rfl⟩ := Option.map_eq_some_iff.mp hf
  exact (in_gen (Q2 := fun _ _ => True) ex h1 h2 hk (fin_q ex q (by simp only [Rp])) trivial).1
theorem od_notIn {T : Tb} : OpD T (rNotInG T.K) dNotIn := by
  intro B H x y d1 d2 d Q ex h1 h2 hf q
  obtain ⟨k, hk, rfl⟩ := Option.map_eq_some_iff.mp hf
  exact (in_gen (Q := fun _ _ => True) ex h1 h2 hk trivial (fin_q ex q (by simp only [Rp]))).2

/-! ### places -/
def dIx : D → D → Option D
  | .lst ds, .int i => atI ds i
  | .tup ds, .int i => atI ds i
  | .scr ns, .int i => (atI ns i).map .int
  | .str x, .int i => if x.length ≤ 1000000 then (atI x.cps.toList i).map fun c => .str ⟨#[c]⟩ else none
  | _, _ => none
section
variable {T : Tb} {B H : Hp}
theorem atI_rp {ds : List D} {xs : List V} {i : Int} {d : D} (h : RpL T B ds xs) (e : atI ds i = some d) : ∃ x, atI xs i = some x ∧ Rp T B d x := by
  unfold atI at e ⊢
  rw [h.length]
  cases q : ixN ds.length i with
  | none => rw [q] at e; cases e
  | some j =>
    rw [q] at e
    exact h.get e
end
theorem od_ix {T : Tb} : OpD T (rIx T.K) dIx := by
  intro B H x y d1 d2 d Q ex h1 h2 hf q
  cases d1 <;> cases d2 <;> simp only [dIx, reduceCtorEq] at hf
  · rename_i z i
    split at hf
    · rename_i hl
      obtain ⟨c, hc, rfl⟩ := Option.map_eq_some_iff.mp hf
      exact .inr (.inr ⟨z, i, c, rh_str h1, rh_int h2, million hl, hc, fin_q ex q (by simp only [Rp])⟩)
    · cases hf
  · obtain ⟨a, xs, rfl, e1, r1⟩ := rh_tup h1
    obtain ⟨v, hv, rv⟩ := atI_rp r1 hf
    exact .inr (.inl ⟨a, xs, _, v, rfl, rh_int h2, sqt_of ex e1, hv, fin_q ex q rv⟩)
  · rcases h1 with h1 | ⟨p, o, rfl, e1, h1⟩
    · simp only [Rp] at h1
      obtain ⟨a, xs, rfl, e1, r1⟩ := h1
      obtain ⟨v, hv, rv⟩ := atI_rp r1 hf
      exact .inl ⟨a, xs, _, v, rfl, rh_int h2, .of (ex _ _ e1), hv, fin_q ex q rv⟩
    · simp only [At] at h1
      obtain ⟨xs, rfl, r1⟩ := h1
      obtain ⟨v, hv, rv⟩ := atI_rp r1 hf
      exact .inl ⟨p, xs, _, v, rfl, rh_int h2, .of e1, hv, fin_q ex q rv⟩
  · rename_i ns i
    obtain ⟨a, rfl, hs⟩ := rh_scr h1
    obtain ⟨k, hk, rfl⟩ := Option.map_eq_some_iff.mp hf
    have hv : atI (ns.map V.int) i = some (.int k) := by
      unfold atI at hk ⊢
      rw [List.length_map]
      cases q : ixN ns.length i with
      | none => rw [q] at hk; cases hk
      | some j =>
        rw [q] at hk
        have hk : ns[j]? = some k := hk
        show (ns.map V.int)[j]? = some (.int k)
        rw [List.getElem?_map, hk]; rfl
    exact .inl ⟨a, _, i, _, rfl, rh_int h2, sql_mono ex hs, hv, fin_q ex q (by simp only [Rp])⟩

/-! ### slices -/
def cutD (xs : List D) (lo hi : Option Int) : List D := (xs.drop (HT.sIx xs.length 0 lo)).take (HT.sIx xs.length xs.length hi - HT.sIx xs.length 0 lo)
def dSl : D → Option Int → Option Int → Option D
  | .lst ds, lo, hi => some (.lst (cutD ds lo hi))
  | .tup ds, lo, hi => some (.tup (cutD ds lo hi))
  | .ptp ds, lo, hi => if (cutD ds lo hi).length < ds.length then some (.tup (cutD ds lo hi)) else none
  | .str x, lo, hi => if x.length ≤ 1000000 then some (.str (cutS x lo hi)) else none
  | _, _, _ => none
def dSlL : D → Option Int → Option Int → Option D
  | .lst ds, lo, hi => some (.lst (cutD ds lo hi))
  | _, _, _ => none
def vPart : Option M → Env → R (Option Int)
  | none, e => .ok none e
  | some m, e => R.bind (m e) fun d e1 => match d with
    | .int i => .ok (some i) e1
    | _ => .bad
def vSl (f : D → Option Int → Option Int → Option D) (o : Opd) (lo hi : Option M) : M := fun e => R.bind (evO o e) fun r e1 => R.bind (vPart lo e1) fun l e2 => R.bind (vPart hi e2) fun h e3 => R.ofO (do let d ← rsO r e3; f d l h) e3
def relP : Rel (Option Int) (Option Int) := fun _ _ _ _ _ a b => b = a
section
variable {X : Cx} {G : Gs} {a : Expr} {m : M} {o : Opd} {lo hi : Option Expr} {ml mh : Option M} {p2 pos : Pos}
theorem lp_none : PO X none (tM G relP (vPart none)) := ⟨fun pins s σ H Q I h => by
  obtain ⟨F, B, e, rep, post⟩ := h
  exact po_none.run pins s σ H Q I (post none B H .rfl rep rfl)⟩
theorem lp_some (h : PE X a (tE G m)) : PO X (some a) (tM G relP (vPart (some m))) := ⟨fun pins s σ H Q I hq => by
  refine (po_some h).run pins s σ H Q I ?_
  obtain ⟨F, B, e, rep, post⟩ := hq
  refine ⟨F, B, e, rep, Post.weak (Post.bind post) ?_⟩
  rintro x H1 ⟨B1, e1, d, ex1, rep1, rl, post1⟩
  cases d with
  | int i =>
    have rl : x = .int i := by simpa only [relE, Rp] using rl
    exact ⟨i, rl, post1 (some i) B1 H1 .rfl rep1 rfl⟩
  | _ => exact post1.elim⟩
theorem sl_bind {f : D → Option Int → Option Int → Option D} {r : V → Option Int → Option Int → Hp → VK → Prop} {rel : Rel D V} {σ : L2.St} {H : Hp} {Q : VK} (h : tM G rel (vSl f o ml mh) σ H Q)
    (k : ∀ (F : Fm) (B H2 : Hp) (e2 : Env) (x : V) (d1 d : D) (l u : Option Int), Rep G F B σ H2 e2 → RpH G.T B H2 d1 x → f d1 l u = some d → Post G F B σ rel (.ok d e2) Q → r x l u H2 Q) :
    tSl r (tO G o) (tM G relP (vPart ml)) (tM G relP (vPart mh)) σ H Q := by
  obtain ⟨F, B, e, rep, post⟩ := h
  refine ⟨F, B, e, rep, Post.weak (Post.bind post) ?_⟩
  rintro x H1 ⟨B1, e1, ra, ex1, rep1, rl1, post1⟩
  refine ⟨F, B1, e1, rep1, Post.weak (Post.bind post1) ?_⟩
  rintro l H2 ⟨B2, e2, l', ex2, rep2, rl2, post2⟩
  refine ⟨F, B2, e2, rep2, Post.weak (Post.bind post2) ?_⟩
  rintro u H3 ⟨B3, e3, u', ex3, rep3, rl3, post3⟩
  cases rl2
  cases rl3
  cases h1 : rsO ra e3 with
  | none => rw [h1] at post3; exact post3.elim
  | some d1 =>
    rw [h1] at post3
    have post3 : Post G F B3 σ rel (R.ofO (f d1 l u) e3) Q := post3
    cases hf : f d1 l u with
    | none => rw [hf] at post3; exact post3.elim
    | some d =>
      rw [hf] at post3
      exact k F B3 H3 e3 x d1 d l u rep3 (rsO_ok rl1 (ex2.trans ex3) rep3 h1) hf post3
def rSlG (K : PySem.W.Frag) : V → Option Int → Option Int → Hp → VK → Prop := fun x lo hi H Q => rSlA K x lo hi H Q ∨ rSlL K x lo hi H Q ∨ rSlS x lo hi H Q
theorem sl_G : SlR X (rSlG X.K) := sl_tupA.or (sl_list.or sl_str)
theorem cut_rp {T : Tb} {B : Hp} {ds : List D} {xs : List V} {lo hi : Option Int} (h : RpL T B ds xs) : RpL T B (cutD ds lo hi) (cutV xs lo hi) := by
  unfold cutD cutV
  rw [h.length]
  exact RpL.take _ (RpL.drop _ h)
theorem le_slice (hK : G.T.K = X.K) (he : PE X a (tO G o)) (hl : PO X lo (tM G relP (vPart ml))) (hu : PO X hi (tM G relP (vPart mh))) : PE X (.Subscript a (.Slice lo hi none p2) pos) (tE G (vSl dSl o ml mh)) :=
  pe_imp (pe_slice sl_G he hl hu) fun σ H Q h => sl_bind h fun F B H2 e2 x d1 d l u rep rh hf post => by
    rw [← hK]
    have q : ∀ v B' H', Grow B H2 B' H' → Rp G.T B' d v → Q v H' := fun v B' H' g rp => post v B' H' g.ex (rep.grow g) rp
    cases d1 <;> simp only [dSl, reduceCtorEq, Option.some.injEq] at hf
    · split at hf
      · rename_i hl
        cases hf
        exact .inr (.inr ⟨_, rh_str rh, million hl, fin_q rep.ex q (by simp only [Rp])⟩)
      · cases hf
    · subst hf
      obtain ⟨b, xs, rfl, e1, r1⟩ := rh_tup rh
      refine .inl ⟨b, xs, rfl, sqt_of rep.ex e1, fun hw => fin_q rep.ex q ?_, fun hw p hp => ?_⟩
      · simp only [Rp]
        refine ⟨b, xs, rfl, e1, ?_⟩
        have := cut_rp (lo := l) (hi := u) r1
        have e : cutV xs l u = xs := by
          unfold cutV
          rw [hw.1, hw.2]
          simp
        rw [e] at this
        exact this
      · refine q _ (upd B p (.tup (cutV xs l u))) _ (.new rep.ex hp) ?_
        simp only [Rp]
        exact ⟨p, _, rfl, upd_same, RpL.mono (.new (rep.ex.none hp)) _ _ (cut_rp r1)⟩
    · subst hf
      obtain ⟨b, xs, rfl, e1, r1⟩ := rh_lst rep.ex rh
      refine .inr (.inl ⟨b, xs, rfl, .of e1, fun p hp => ?_⟩)
      refine q _ (upd B p (.lst (cutV xs l u))) _ (.new rep.ex hp) ?_
      simp only [Rp]
      exact ⟨p, _, rfl, upd_same, RpL.mono (.new (rep.ex.none hp)) _ _ (cut_rp r1)⟩
    · split at hf
      · rename_i hlt
        cases hf
        obtain ⟨b, xs, ob, rfl, e1, _, _, r1⟩ := rh_ptp rh
        refine .inl ⟨b, xs, rfl, sqp_of rep.ex e1, fun hw => ?_, fun hw p hp => ?_⟩
        · exfalso
          have := (cut_rp (lo := l) (hi := u) r1).length
          have e : cutV xs l u = xs := by
            unfold cutV
            rw [hw.1, hw.2]
            simp
          rw [e, r1.length] at this
          omega
        · refine q _ (upd B p (.tup (cutV xs l u))) _ (.new rep.ex hp) ?_
          simp only [Rp]
          exact ⟨p, _, rfl, upd_same, RpL.mono (.new (rep.ex.none hp)) _ _ (cut_rp r1)⟩
      · cases hf
theorem lf_slice (hK : G.T.K = X.K) (he : PE X a (tO G o)) (hl : PO X lo (tM G relP (vPart ml))) (hu : PO X hi (tM G relP (vPart mh))) : PE X (.Subscript a (.Slice lo hi none p2) pos) (tF G (vSl dSlL o ml mh)) :=
  pe_imp (pe_slice sl_list he hl hu) fun σ H Q h => sl_bind h fun F B H2 e2 x d1 d l u rep rh hf post => by
    cases d1 <;> simp only [dSlL, reduceCtorEq, Option.some.injEq] at hf
    subst hf
    obtain ⟨b, xs, rfl, e1, r1⟩ := rh_lst rep.ex rh
    refine ⟨b, xs, rfl, .of e1, fun p hp => ?_⟩
    have z := new_F (o := .lst (cutV xs l u)) (d := .lst (cutD _ l u)) rep hp (by simp only [At]; exact ⟨_, rfl, cut_rp r1⟩)
    exact post (.ref p) B _ .rfl z.1 z.2
end

/-! ### chains of order -/
def vChain (f g : D → D → Option D) (a b c : M) : M := fun e => R.bind (a e) fun x e1 => R.bind (b e1) fun y e2 => match f x y with
  | some (.bl true) => R.bind (c e2) fun z e3 => R.ofO (g y z) e3
  | some (.bl false) => .ok (.bl false) e2
  | _ => .bad
section
variable {X : Cx} {G : Gs} {a b c : Expr} {ma mb mc : M} {op op' : CmpOp} {r r' : R2} {f g : D → D → Option D} {pos : Pos}
theorem chain_t (hf : OpD G.T r f) (hg : OpD G.T r' g) {σ : L2.St} {H : Hp} {Q : VK} (h : tE G (vChain f g ma mb mc) σ H Q) : tChain r r' (tE G ma) (tE G mb) (tE G mc) σ H Q := by
  obtain ⟨F, B, e, rep, post⟩ := h
  refine ⟨F, B, e, rep, Post.weak (Post.bind post) ?_⟩
  rintro x H1 ⟨B1, e1, dx, ex1, rep1, rl1, post1⟩
  refine ⟨F, B1, e1, rep1, Post.weak (Post.bind post1) ?_⟩
  rintro y H2 ⟨B2, e2, dy, ex2, rep2, rl2, post2⟩
  cases hq : f dx dy with
  | none => rw [hq] at post2; exact post2.elim
  | some d =>
    rw [hq] at post2
    refine hf B2 H2 x y dx dy d _ rep2.ex (.inl (Rp.mono ex2 _ _ rl1)) (.inl rl2) hq fun v B' H' gr rp => ?_
    cases d with
    | bl k =>
      have rp : v = .bl k := by simpa only [Rp] using rp
      refine ⟨k, rp, ?_⟩
      cases k with
      | true =>
        rw [if_pos rfl]
        have post2 := Post.mono gr.ex post2
        refine ⟨F, B', e2, rep2.grow gr, Post.weak (Post.bind post2) ?_⟩
        rintro z H3 ⟨B3, e3, dz, ex3, rep3, rl3, post3⟩
        cases hz : g dy dz with
        | none => rw [hz] at post3; exact post3.elim
        | some d3 =>
          rw [hz] at post3
          exact hg B3 H3 y z dy dz d3 Q rep3.ex (.inl (Rp.mono (gr.ex.trans ex3) _ _ rl2)) (.inl rl3) hz fun v4 B4 H4 g4 rp4 => post3 v4 B4 H4 g4.ex (rep3.grow g4) rp4
      | false =>
        rw [if_neg Bool.false_ne_true]
        exact post2 _ B' H' gr.ex (rep2.grow gr) (by simp only [relE, Rp])
    | _ => exact post2.elim
theorem le_chain (ho : OpR X (compareOp op) r) (ho' : OpR X (compareOp op') r') (hf : OpD G.T r f) (hg : OpD G.T r' g) (ha : PE X a (tE G ma)) (hb : PE X b (tE G mb)) (hc : PE X c (tE G mc))
    (hm : lastMarks [op, op'] [b, c] = false := by with_unfolding_all rfl) : PE X (.Compare a [op, op'] [b, c] pos) (tE G (vChain f g ma mb mc)) := pe_imp (pe_chain ho ho' ha hb hc hm) fun _ _ _ => chain_t hf hg
theorem lt_chain (ho : OpR X (compareOp op) r) (ho' : OpR X (compareOp op') r') (hf : OpD G.T r f) (hg : OpD G.T r' g) (ha : PE X a (tE G ma)) (hb : PE X b (tE G mb)) (hc : PE X c (tE G mc))
    (hm : lastMarks [op, op'] [b, c] = false := by with_unfolding_all rfl) : PT X (.Compare a [op, op'] [b, c] pos) (tT G (asB (vChain f g ma mb mc))) :=
  pt_imp (pt_chain ho ho' ha hb hc hm) fun σ H Q h => chain_t (Q := fun x H' => ∃ k, x = .bl k ∧ Q k H') hf hg (tE_asB h)
end

/-! ### truth -/
def dTru : D → Option Bool
  | .non => some false
  | .bl b => some b
  | .int i => some (i != 0)
  | .str y => if y.length ≤ 1000000 then some (!(y.length == 0)) else none
  | .lst ds => some (!ds.isEmpty)
  | .tup ds => some (!ds.isEmpty)
  | _ => none
def vTru (o : Opd) : Env → R Bool := fun e => R.bind (evO o e) fun r e1 => R.ofO (do let d ← rsO r e1; dTru d) e1
section
variable {X : Cx} {G : Gs} {a : Expr} {o : Opd}
theorem isEmpty_rp {T : Tb} {B : Hp} {ds : List D} {xs : List V} (h : RpL T B ds xs) : xs.isEmpty = ds.isEmpty := by
  cases ds with
  | nil => simp only [RpL] at h; subst h; rfl
  | cons d ds =>
    simp only [RpL] at h
    obtain ⟨x, r, rfl, _⟩ := h; rfl
theorem tru_rp {T : Tb} {B H : Hp} {d : D} {v : V} {k : Bool} (ex : Ex B H) (h : RpH T B H d v) (hd : dTru d = some k) : TruV T.K v H k := by
  cases d <;> simp only [dTru, reduceCtorEq, Option.some.injEq] at hd
  · subst hd; rw [rh_non h]; exact rfl
  · subst hd; rw [rh_bl h]; exact rfl
  · subst hd; rw [rh_int h]; exact rfl
  · split at hd
    · rename_i hl
      cases hd
      rw [rh_str h]
      refine ⟨million hl, ?_⟩
      rename_i x
      cases hx : x.length with
      | zero => rfl
      | succ n => simp; omega
    · cases hd
  · subst hd
    obtain ⟨a, xs, rfl, e1, r1⟩ := rh_tup h
    exact .inr (.inl ⟨xs, sqt_of ex e1, by rw [isEmpty_rp r1]⟩)
  · subst hd
    obtain ⟨a, xs, rfl, e1, r1⟩ := rh_lst ex h
    exact .inl ⟨xs, .of e1, by rw [isEmpty_rp r1]⟩
theorem lt_tru (hK : G.T.K = X.K) (h : PE X a (tO G o)) (he : ∀ whole, isTrue a X.env whole = (do let v ← whole; standAt a.pos; holding [v] (truthy v)) := by intro _; rfl) : PT X a (tT G (vTru o)) := pt_imp (pt_truth h he) fun σ H Q hq => by
  obtain ⟨F, B, e, rep, post⟩ := hq
  refine ⟨F, B, e, rep, Post.weak (Post.bind post) ?_⟩
  rintro x H1 ⟨B1, e1, r, ex1, rep1, rl, post1⟩
  cases h1 : rsO r e1 with
  | none => rw [h1] at post1; exact post1.elim
  | some d =>
    rw [h1] at post1
    have post1 : Post G F B1 σ relT (R.ofO (dTru d) e1) Q := post1
    cases hd : dTru d with
    | none => rw [hd] at post1; exact post1.elim
    | some k =>
      rw [hd] at post1
      rw [← hK]
      exact ⟨k, tru_rp rep1.ex (rsO_ok rl .rfl rep1 h1) hd, post1 k B1 H1 .rfl rep1 rfl⟩
end
end Fl

namespace Fl
open PySem PySem.Spec PyProof.Rows L2

/-! ## operands in a row -/
def evOs : List Opd → Env → R (List (Sum D Nat))
  | [], e => .ok [] e
  | o :: os, e => R.bind (evO o e) fun r e1 => R.bind (evOs os e1) fun rs e2 => .ok (r :: rs) e2
def rsOs : List (Sum D Nat) → Env → Option (List D)
  | [], _ => some []
  | r :: rs, e => do let d ← rsO r e; let ds ← rsOs rs e; some (d :: ds)
def RelOs (G : Gs) (σ : L2.St) (B : Hp) : List (Sum D Nat) → List V → Prop
  | [], vs => vs = []
  | r :: rs, vs => ∃ v vr, vs = v :: vr ∧ (match r with
    | .inl d => Rp G.T B d v
    | .inr i => G.O i = true ∧ σ[i]? = some (some v)) ∧ RelOs G σ B rs vr
theorem RelOs.mono {G : Gs} {σ : L2.St} {B B' : Hp} (e : Ex B B') : ∀ {rs : List (Sum D Nat)} {vs : List V}, RelOs G σ B rs vs → RelOs G σ B' rs vs
  | [], _, h => h
  | r :: rs, vs, h => by
    obtain ⟨v, vr, rfl, h1, h2⟩ := h
    refine ⟨v, vr, rfl, ?_, RelOs.mono e h2⟩
    cases r with
    | inl d => exact Rp.mono e _ _ h1
    | inr i => exact h1
def relOs (G : Gs) : Rel (List (Sum D Nat)) (List V) := fun _ σ B _ _ rs vs => RelOs G σ B rs vs
abbrev tAO (G : Gs) (os : List Opd) : TA := tM G (relOs G) (evOs os)
def RpHL (T : Tb) (B H : Hp) : List D → List V → Prop
  | [], vs => vs = []
  | d :: ds, vs => ∃ v vr, vs = v :: vr ∧ RpH T B H d v ∧ RpHL T B H ds vr
theorem rsOs_ok {G : Gs} {F : Fm} {B H : Hp} {σ : L2.St} {e : Env} (rep : Rep G F B σ H e) : ∀ {rs : List (Sum D Nat)} {vs : List V} {ds : List D}, RelOs G σ B rs vs → rsOs rs e = some ds → RpHL G.T B H ds vs
  | [], vs, ds, h, hd => by
    cases hd
    exact h
  | r :: rs, vs, ds, h, hd => by
    obtain ⟨v, vr, rfl, h1, h2⟩ := h
    cases q1 : rsO r e with
    | none => simp only [rsOs, q1] at hd; cases hd
    | some d =>
      cases q2 : rsOs rs e with
      | none => simp only [rsOs, q1, q2] at hd; cases hd
      | some ds' =>
        simp only [rsOs, q1, q2] at hd
        cases hd
        exact ⟨v, vr, rfl, rsO_ok (F1 := F) (B1 := B) (H1 := H) (e1 := e) (r := r) (v := v) h1 .rfl rep q1, rsOs_ok rep h2 q2⟩
def vB (f : List D → Option D) (os : List Opd) : M := fun e => R.bind (evOs os e) fun rs e1 => R.ofO (do let ds ← rsOs rs e1; f ds) e1
def CallD (T : Tb) (r : List V → Hp → VK → Prop) (f : List D → Option D) : Prop := ∀ (B H : Hp) (vs : List V) (ds : List D) (d : D) (Q : VK), Ex B H → RpHL T B H ds vs → f ds = some d →
  (∀ v B' H', Grow B H B' H' → Rp T B' d v → Q v H') → r vs H Q
def CallDF (T : Tb) (r : List V → Hp → VK → Prop) (f : List D → Option D) : Prop := ∀ (B H : Hp) (vs : List V) (ds : List D) (d : D) (Q : VK), Ex B H → RpHL T B H ds vs → f ds = some d →
  (∀ p o, H p = none → At T B o d → Q (.ref p) (upd H p o)) → r vs H Q
theorem CallDF.callD {T : Tb} {r : List V → Hp → VK → Prop} {f : List D → Option D} (h : CallDF T r f) : CallD T r f := fun B H vs ds d Q ex h1 hf q =>
  h B H vs ds d Q ex h1 hf fun p o hp hat => q _ (upd B p o) _ (.new ex hp) (Rp.of_at upd_same (hat.mono (.new (ex.none hp))))
section
variable {X : Cx} {G : Gs} {a : Expr} {o : Opd} {os : List Opd} {es : List Expr} {f : List D → Option D} {r : List V → Hp → VK → Prop} {x : Str} {p pos : Pos} {id T : String}
theorem lao_nil : PA X [] (tAO G []) := pa_imp pa_nil fun σ H Q h => by
  obtain ⟨F, B, env, rep, post⟩ := h
  exact post [] B H .rfl rep rfl
theorem lao_cons (ha : PE X a (tO G o)) (hr : PA X es (tAO G os)) (hs : starEach (a :: es) X.env = (false, eval a X.env) :: starEach es X.env := by rfl) : PA X (a :: es) (tAO G (o :: os)) := pa_imp (pa_cons ha hr hs) fun σ H Q h => by
  obtain ⟨F, B, e, rep, post⟩ := h
  refine ⟨F, B, e, rep, Post.weak (Post.bind post) ?_⟩
  rintro v H1 ⟨B1, e1, r, ex1, rep1, rl1, post1⟩
  refine ⟨F, B1, e1, rep1, Post.weak (Post.bind post1) ?_⟩
  rintro vs H2 ⟨B2, e2, rs, ex2, rep2, rl2, post2⟩
  refine post2 (v :: vs) B2 H2 .rfl rep2 ⟨v, vs, rfl, ?_, rl2⟩
  cases r with
  | inl d => exact Rp.mono ex2 _ _ rl1
  | inr i => exact rl1
theorem b_bind {rel : Rel D V} {σ : L2.St} {H : Hp} {Q : VK} (h : tM G rel (vB f os) σ H Q)
    (k : ∀ (F : Fm) (B H2 : Hp) (e2 : Env) (vs : List V) (ds : List D) (d : D), Rep G F B σ H2 e2 → RpHL G.T B H2 ds vs → f ds = some d → Post G F B σ rel (.ok d e2) Q → r vs H2 Q) : tCB r (tAO G os) σ H Q := by
  obtain ⟨F, B, e, rep, post⟩ := h
  refine ⟨F, B, e, rep, Post.weak (Post.bind post) ?_⟩
  rintro vs H1 ⟨B1, e1, rs, ex1, rep1, rl1, post1⟩
  cases h1 : rsOs rs e1 with
  | none => rw [h1] at post1; exact post1.elim
  | some ds =>
    rw [h1] at post1
    have post1 : Post G F B1 σ rel (R.ofO (f ds) e1) Q := post1
    cases hf : f ds with
    | none => rw [hf] at post1; exact post1.elim
    | some d =>
      rw [hf] at post1
      exact k F B1 H1 e1 vs ds d rep1 (rsOs_ok rep1 rl1 h1) hf post1
theorem b_E (hd : CallD G.T r f) {σ : L2.St} {H : Hp} {Q : VK} (h : tE G (vB f os) σ H Q) : tCB r (tAO G os) σ H Q :=
  b_bind h fun F B H2 e2 vs ds d rep hv hf post => hd B H2 vs ds d Q rep.ex hv hf fun v B' H' g rp => post v B' H' g.ex (rep.grow g) rp
theorem b_F (hd : CallDF G.T r f) {σ : L2.St} {H : Hp} {Q : VK} (h : tF G (vB f os) σ H Q) : tCB r (tAO G os) σ H Q :=
  b_bind h fun F B H2 e2 vs ds d rep hv hf post => hd B H2 vs ds d Q rep.ex hv hf fun p o hp hat => post _ B _ .rfl (new_F rep hp hat).1 (new_F rep hp hat).2
theorem le_callB (hc : CallR X (.builtin id) r) (hd : CallD G.T r f) (hm : X.mg x = none) (hv : bootBuiltins x = some (.builtin id)) (ha : PA X (a :: es) (tAO G os)) (hg : Gl X x) (hn : x ≠ "__name__" := by decide) (hdb : (x == ("__debug__" : Str)) = false := by decide)
    (he : starEach (a :: es) X.env = (false, eval a X.env) :: starEach es X.env := by rfl) (hpl : (backTo pos (starEach es X.env)).any (·.1) = false := by rfl) : PE X (.Call (.Name x p) (a :: es) [] pos) (tE G (vB f os)) :=
  pe_imp (pe_callB hc hg hm hv ha hn hdb he hpl) fun _ _ _ => b_E hd
theorem lf_callB (hc : CallR X (.builtin id) r) (hd : CallDF G.T r f) (hm : X.mg x = none) (hv : bootBuiltins x = some (.builtin id)) (ha : PA X (a :: es) (tAO G os)) (hg : Gl X x) (hn : x ≠ "__name__" := by decide) (hdb : (x == ("__debug__" : Str)) = false := by decide)
    (he : starEach (a :: es) X.env = (false, eval a X.env) :: starEach es X.env := by rfl) (hpl : (backTo pos (starEach es X.env)).any (·.1) = false := by rfl) : PE X (.Call (.Name x p) (a :: es) [] pos) (tF G (vB f os)) :=
  pe_imp (pe_callB hc hg hm hv ha hn hdb he hpl) fun _ _ _ => b_F hd
theorem le_callT (hc : CallR X (.type T) r) (hd : CallD G.T r f) (hm : X.mg x = none) (hv : bootBuiltins x = some (.type T)) (ha : PA X (a :: es) (tAO G os)) (hg : Gl X x) (hn : x ≠ "__name__" := by decide) (hdb : (x == ("__debug__" : Str)) = false := by decide)
    (he : starEach (a :: es) X.env = (false, eval a X.env) :: starEach es X.env := by rfl) (hpl : (backTo pos (starEach es X.env)).any (·.1) = false := by rfl) : PE X (.Call (.Name x p) (a :: es) [] pos) (tE G (vB f os)) :=
  pe_imp (pe_callTy hc hg hm hv ha hn hdb he hpl) fun _ _ _ => b_E hd
theorem lf_callT (hc : CallR X (.type T) r) (hd : CallDF G.T r f) (hm : X.mg x = none) (hv : bootBuiltins x = some (.type T)) (ha : PA X (a :: es) (tAO G os)) (hg : Gl X x) (hn : x ≠ "__name__" := by decide) (hdb : (x == ("__debug__" : Str)) = false := by decide)
    (he : starEach (a :: es) X.env = (false, eval a X.env) :: starEach es X.env := by rfl) (hpl : (backTo pos (starEach es X.env)).any (·.1) = false := by rfl) : PE X (.Call (.Name x p) (a :: es) [] pos) (tF G (vB f os)) :=
  pe_imp (pe_callTy hc hg hm hv ha hn hdb he hpl) fun _ _ _ => b_F hd
end

/-! ### the built-in functions -/
section
variable {T : Tb}
theorem hl1 {B H : Hp} {d : D} {vs : List V} (h : RpHL T B H [d] vs) : ∃ v, vs = [v] ∧ RpH T B H d v := by
  obtain ⟨v, vr, rfl, h1, h2⟩ := h
  have h2 : vr = [] := h2
  subst h2
  exact ⟨v, rfl, h1⟩
theorem hl2 {B H : Hp} {d e : D} {vs : List V} (h : RpHL T B H [d, e] vs) : ∃ v u, vs = [v, u] ∧ RpH T B H d v ∧ RpH T B H e u := by
  obtain ⟨v, vr, rfl, h1, h2⟩ := h
  obtain ⟨u, rfl, h3⟩ := hl1 h2
  exact ⟨v, u, rfl, h1, h3⟩
def fLen : List D → Option D
  | [.str x] => if x.length ≤ 1000000 then some (.int x.length) else none
  | [.lst ds] => some (.int ds.length)
  | [.tup ds] => some (.int ds.length)
  | [.scr ns] => some (.int ns.length)
  | _ => none
theorem cd_len : CallD T (fun xs H Q => ∃ x n, xs = [x] ∧ LenV T.K x H n ∧ Q (.int n) H) fLen := by
  intro B H vs ds d Q ex h hf q
  unfold fLen at hf
  split at hf
  · obtain ⟨v, rfl, hv⟩ := hl1 h
    split at hf
    · rename_i hl
      cases hf
      rw [rh_str hv]
      exact ⟨_, _, rfl, ⟨million hl, rfl⟩, fin_q ex q (by simp only [Rp])⟩
    · cases hf
  · obtain ⟨v, rfl, hv⟩ := hl1 h
    cases hf
    obtain ⟨a, xs, rfl, e1, r1⟩ := rh_lst ex hv
    exact ⟨_, _, rfl, .inl ⟨xs, .of e1, rfl⟩, fin_q ex q (by simp only [Rp, r1.length])⟩
  · obtain ⟨v, rfl, hv⟩ := hl1 h
    cases hf
    obtain ⟨a, xs, rfl, e1, r1⟩ := rh_tup hv
    exact ⟨_, _, rfl, .inr ⟨xs, sqt_of ex e1, rfl⟩, fin_q ex q (by simp only [Rp, r1.length])⟩
  · obtain ⟨v, rfl, hv⟩ := hl1 h
    cases hf
    obtain ⟨a, rfl, hs⟩ := rh_scr hv
    exact ⟨_, _, rfl, .inl ⟨_, sql_mono ex hs, rfl⟩, fin_q ex q (by simp only [Rp, List.length_map])⟩
  · cases hf
def fTuple : List D → Option D
  | [.lst ds] => some (.tup ds)
  | [.tup ds] => some (.tup ds)
  | _ => none
theorem cd_tuple : CallD T (fun xs H Q => ∃ p ys, xs = [.ref p] ∧ ((SqL T.K H p ys ∧ ∀ l, H l = none → Q (.ref l) (upd H l (.tup ys))) ∨ (SqT T.K H p ys ∧ Q (.ref p) H))) fTuple := by
  intro B H vs ds d Q ex h hf q
  unfold fTuple at hf
  split at hf
  · obtain ⟨v, rfl, hv⟩ := hl1 h
    cases hf
    obtain ⟨a, xs, rfl, e1, r1⟩ := rh_lst ex hv
    refine ⟨a, xs, rfl, .inl ⟨.of e1, fun p hp => q _ (upd B p (.tup xs)) _ (.new ex hp) ?_⟩⟩
    simp only [Rp]
    exact ⟨p, xs, rfl, upd_same, RpL.mono (.new (ex.none hp)) _ _ r1⟩
  · obtain ⟨v, rfl, hv⟩ := hl1 h
    cases hf
    obtain ⟨a, xs, rfl, e1, r1⟩ := rh_tup hv
    refine ⟨a, xs, rfl, .inr ⟨sqt_of ex e1, fin_q ex q ?_⟩⟩
    simp only [Rp]
    exact ⟨a, xs, rfl, e1, r1⟩
  · cases hf
def fList : List D → Option D
  | [.lst ds] => some (.lst ds)
  | [.tup ds] => some (.lst ds)
  | _ => none
theorem cf_list : CallDF T (fun xs H Q => ∃ p ys, xs = [.ref p] ∧ (SqL T.K H p ys ∨ SqT T.K H p ys) ∧ ∀ l, H l = none → Q (.ref l) (upd H l (.lst ys))) fList := by
  intro B H vs ds d Q ex h hf q
  unfold fList at hf
  split at hf
  · obtain ⟨v, rfl, hv⟩ := hl1 h
    cases hf
    obtain ⟨a, xs, rfl, e1, r1⟩ := rh_lst ex hv
    exact ⟨a, xs, rfl, .inl (.of e1), fun p hp => q p _ hp (by simp only [At]; exact ⟨xs, rfl, r1⟩)⟩
  · obtain ⟨v, rfl, hv⟩ := hl1 h
    cases hf
    obtain ⟨a, xs, rfl, e1, r1⟩ := rh_tup hv
    exact ⟨a, xs, rfl, .inr (sqt_of ex e1), fun p hp => q p _ hp (by simp only [At]; exact ⟨xs, rfl, r1⟩)⟩
  · cases hf
def fMax2 : List D → Option D
  | [.int i, .int j] => some (.int (if j > i then j else i))
  | _ => none
theorem cd_max2 : CallD T (fun xs H Q => ∃ i j, xs = [.int i, .int j] ∧ Q (.int (if j > i then j else i)) H) fMax2 := by
  intro B H vs ds d Q ex h hf q
  unfold fMax2 at hf
  split at hf
  · obtain ⟨v, u, rfl, h1, h2⟩ := hl2 h
    cases hf
    rw [rh_int h1, rh_int h2]
    exact ⟨_, _, rfl, fin_q ex q (by simp only [Rp])⟩
  · cases hf
def fMin2 : List D → Option D
  | [.int i, .int j] => some (.int (if j < i then j else i))
  | _ => none
theorem cd_min2 : CallD T (fun xs H Q => ∃ i j, xs = [.int i, .int j] ∧ Q (.int (if j < i then j else i)) H) fMin2 := by
  intro B H vs ds d Q ex h hf q
  unfold fMin2 at hf
  split at hf
  · obtain ⟨v, u, rfl, h1, h2⟩ := hl2 h
    cases hf
    rw [rh_int h1, rh_int h2]
    exact ⟨_, _, rfl, fin_q ex q (by simp only [Rp])⟩
  · cases hf
def fInt : List D → Option D
  | [.int i] => some (.int i)
  | [.bl k] => some (.int (if k then 1 else 0))
  | _ => none
theorem cd_int : CallD T (fun xs H Q => (∃ i, xs = [.int i] ∧ Q (.int i) H) ∨ ∃ k, xs = [.bl k] ∧ Q (.int (if k then 1 else 0)) H) fInt := by
  intro B H vs ds d Q ex h hf q
  unfold fInt at hf
  split at hf
  · obtain ⟨v, rfl, hv⟩ := hl1 h
    cases hf
    rw [rh_int hv]
    exact .inl ⟨_, rfl, fin_q ex q (by simp only [Rp])⟩
  · obtain ⟨v, rfl, hv⟩ := hl1 h
    cases hf
    rw [rh_bl hv]
    exact .inr ⟨_, rfl, fin_q ex q (by simp only [Rp])⟩
  · cases hf
def blOf : D → Option Bool
  | .bl b => some b
  | _ => none
def intOf : D → Option Int
  | .int i => some i
  | _ => none
def fAll : List D → Option D
  | [.lst ds] => (ds.mapM blOf).map fun bs => .bl (bs.all id)
  | _ => none
theorem bls_of {B : Hp} : ∀ {ds : List D} {xs : List V} {bs : List Bool}, RpL T B ds xs → ds.mapM blOf = some bs → xs = bs.map V.bl
  | [], xs, bs, h, e => by
    simp only [RpL] at h
    subst h
    cases e; rfl
  | d :: ds, xs, bs, h, e => by
    simp only [RpL] at h
    obtain ⟨x, r, rfl, h1, h2⟩ := h
    rw [List.mapM_cons] at e
    cases d with
    | bl b =>
      cases q : ds.mapM blOf with
      | none => rw [q] at e; cases e
      | some cs =>
        rw [q] at e
        cases e
        have h1 : x = .bl b := by simpa only [Rp] using h1
        rw [h1, bls_of h2 q]; rfl
    | _ => cases e
theorem ints_of {B : Hp} : ∀ {ds : List D} {xs : List V} {bs : List Int}, RpL T B ds xs → ds.mapM intOf = some bs → xs = bs.map V.int
  | [], xs, bs, h, e => by
    simp only [RpL] at h
    subst h
    cases e; rfl
  | d :: ds, xs, bs, h, e => by
    simp only [RpL] at h
    obtain ⟨x, r, rfl, h1, h2⟩ := h
    rw [List.mapM_cons] at e
    cases d with
    | int b =>
      cases q : ds.mapM intOf with
      | none => rw [q] at e; cases e
      | some cs =>
        rw [q] at e
        cases e
        have h1 : x = .int b := by simpa only [Rp] using h1
        rw [h1, ints_of h2 q]; rfl
    | _ => cases e
theorem cd_all : CallD T (rAll T.K) fAll := by
  intro B H vs ds d Q ex h hf q
  unfold fAll at hf
  split at hf
  · obtain ⟨v, rfl, hv⟩ := hl1 h
    obtain ⟨bs, hb, rfl⟩ := Option.map_eq_some_iff.mp hf
    obtain ⟨a, xs, rfl, e1, r1⟩ := rh_lst ex hv
    have := bls_of r1 hb
    subst this
    exact ⟨a, bs, rfl, .of e1, fin_q ex q (by simp only [Rp])⟩
  · cases hf
def fSum : List D → Option D
  | [.lst ds] => (ds.mapM intOf).map fun bs => .int bs.sum
  | _ => none
theorem cd_sum : CallD T (rSum T.K) fSum := by
  intro B H vs ds d Q ex h hf q
  unfold fSum at hf
  split at hf
  · obtain ⟨v, rfl, hv⟩ := hl1 h
    obtain ⟨bs, hb, rfl⟩ := Option.map_eq_some_iff.mp hf
    obtain ⟨a, xs, rfl, e1, r1⟩ := rh_lst ex hv
    have := ints_of r1 hb
    subst this
    exact ⟨a, bs, rfl, .of e1, fin_q ex q (by simp only [Rp])⟩
  · cases hf
end

/-! ### isinstance of a built-in type -/
def tyD : D → Option String
  | .non => some "NoneType"
  | .bl _ => some "bool"
  | .int _ => some "int"
  | .str _ => some "str"
  | .lst _ => some "list"
  | .tup _ => some "tuple"
  | .ptp _ => some "tuple"
  | _ => none
def vIsi (c : String) (o : Opd) : M := fun e => R.bind (evO o e) fun r e1 => R.ofO (do let d ← rsO r e1; let t ← tyD d; let b ← kitB t c; some (.bl b)) e1
section
variable {X : Cx} {G : Gs} {a : Expr} {o : Opd} {x : Str} {p p2 pos : Pos}
theorem ty_rp {T : Tb} {B H : Hp} {d : D} {v : V} {t : String} (ex : Ex B H) (h : RpH T B H d v) (ht : tyD d = some t) : TyX T.K H v (.type t) := by
  cases d <;> simp only [tyD, reduceCtorEq, Option.some.injEq] at ht <;> subst ht
  · rw [rh_non h]; exact .base .non
  · rw [rh_bl h]; exact .base (.bl _)
  · rw [rh_int h]; exact .base (.int _)
  · rw [rh_str h]; exact .base (.str _)
  · obtain ⟨a, xs, rfl, e1, _⟩ := rh_tup h
    exact .base (.tup (ex _ _ e1))
  · obtain ⟨a, xs, rfl, e1, _⟩ := rh_lst ex h
    exact .base (.lst e1)
  · obtain ⟨a, xs, o, rfl, e1, _⟩ := rh_ptp h
    exact .fTuple (ex _ _ e1)
theorem le_isi {c : String} (hK : G.T.K = X.K) (ha : PE X a (tO G o)) (hm : X.mg "isinstance" = none) (hm2 : X.mg x = none) (hv : bootBuiltins x = some (.type c)) (hb : bootBuiltins "isinstance" = some (.builtin "isinstance")) (hg : Gl X "isinstance") (hg2 : Gl X x)
    (hn : x ≠ "__name__" := by decide) (hdb : (x == ("__debug__" : Str)) = false := by decide)
    (he : starEach [a, .Name x p2] X.env = (false, eval a X.env) :: starEach [.Name x p2] X.env := by rfl) (he2 : starEach [.Name x p2] X.env = (false, eval (.Name x p2) X.env) :: starEach [] X.env := by rfl) (hpl : (backTo pos (starEach [.Name x p2] X.env)).any (·.1) = false := by rfl) :
    PE X (.Call (.Name "isinstance" p) [a, .Name x p2] [] pos) (tE G (vIsi c o)) :=
  pe_imp (pe_callB call_isi hg hm hb (pa_cons ha (pa_cons (pe_bltn (v := .ty c) hg2 hm2 hv rfl hn hdb) pa_nil he2) he) (by decide) (by decide) he hpl) fun σ H Q h => by
    obtain ⟨F, B, e, rep, post⟩ := h
    refine ⟨F, B, e, rep, Post.weak (Post.bind post) ?_⟩
    rintro v H1 ⟨B1, e1, r, ex1, rep1, rl1, post1⟩
    show rIsi X.K [v, .ty c] H1 Q
    cases h1 : rsO r e1 with
    | none => rw [h1] at post1; exact post1.elim
    | some d =>
      rw [h1] at post1
      have post1 : Post G F B1 σ (relE G) (R.ofO (do let t ← tyD d; let b ← kitB t c; some (.bl b)) e1) Q := post1
      cases h2 : tyD d with
      | none => rw [h2] at post1; exact post1.elim
      | some t =>
        rw [h2] at post1
        have post1 : Post G F B1 σ (relE G) (R.ofO (do let b ← kitB t c; some (.bl b)) e1) Q := post1
        cases h3 : kitB t c with
        | none => rw [h3] at post1; exact post1.elim
        | some b =>
          rw [h3] at post1
          refine ⟨v, .ty c, .type t, .type c, b, rfl, .ty c, ?_, kit_ty h3, post1 (.bl b) B1 H1 .rfl rep1 (by simp only [relE, Rp])⟩
          rw [← hK]
          exact ty_rp rep1.ex (rsO_ok rl1 .rfl rep1 h1) h2
end

/-! ### list(range(..)), tuple(range(..)) -/
def rgD (a b : Int) : List D := (List.range (b - a).toNat).map fun i => D.int (a + (i : Nat))
def rgOk (a b : Int) : Bool := decide (-1000000 ≤ a ∧ a ≤ 1000000 ∧ -1000000 ≤ b ∧ b ≤ 1000000)
def vRg1 (m : M) : Env → R (Int × Int) := fun e => R.bind (m e) fun d e1 => match d with
  | .int n => .ok (0, n) e1
  | _ => .bad
def vRg2 (m m2 : M) : Env → R (Int × Int) := fun e => R.bind (m e) fun d e1 => R.bind (m2 e1) fun d2 e2 => match d, d2 with
  | .int a, .int b => .ok (a, b) e2
  | _, _ => .bad
def vLstRg (g : Env → R (Int × Int)) : M := fun e => R.bind (g e) fun ab e1 => if rgOk ab.1 ab.2 = true then .ok (.lst (rgD ab.1 ab.2)) e1 else .bad
def vTupRg (g : Env → R (Int × Int)) : M := fun e => R.bind (g e) fun ab e1 => if rgOk ab.1 ab.2 = true then .ok (.tup (rgD ab.1 ab.2)) e1 else .bad
section
variable {X : Cx} {G : Gs} {a b e : Expr} {m m2 : M} {g : Env → R (Int × Int)} {p pos : Pos}
def relRg : Rel (Int × Int) (Int × Int) := fun _ _ _ _ _ a b => b = a
def tRg (G : Gs) (g : Env → R (Int × Int)) : L2.St → Hp → (Int → Int → Hp → Prop) → Prop := fun σ H Q => tM G relRg g σ H (fun ab H' => Q ab.1 ab.2 H')
theorem prg_imp {t t' : L2.St → Hp → (Int → Int → Hp → Prop) → Prop} (h : PRg X e t) (i : ∀ σ H Q, t' σ H Q → t σ H Q) : PRg X e t' := fun pins s σ H Q I q => h pins s σ H Q I (i σ H Q q)
theorem lrg_1 (hm : X.mg "range" = none) (ha : PE X a (tE G m)) (hg : Gl X "range") (na : starEach [a] X.env = (false, eval a X.env) :: starEach [] X.env := by rfl) : PRg X (.Call (.Name "range" p) [a] [] pos) (tRg G (vRg1 m)) :=
  prg_imp (prg_1 hg hm ha na) fun σ H Q h => by
    obtain ⟨F, B, e, rep, post⟩ := h
    refine ⟨F, B, e, rep, Post.weak (Post.bind post) ?_⟩
    rintro x H1 ⟨B1, e1, d, ex1, rep1, rl, post1⟩
    cases d with
    | int n => exact ⟨n, by simpa only [relE, Rp] using rl, post1 (0, n) B1 H1 .rfl rep1 rfl⟩
    | _ => exact post1.elim
theorem lrg_2 (hm : X.mg "range" = none) (ha : PE X a (tE G m)) (hb : PE X b (tE G m2)) (hg : Gl X "range") (na : starEach [a, b] X.env = (false, eval a X.env) :: starEach [b] X.env := by rfl)
    (nb : starEach [b] X.env = (false, eval b X.env) :: starEach [] X.env := by rfl) (hp : (backTo pos (starEach [b] X.env)).any (·.1) = false := by rfl) : PRg X (.Call (.Name "range" p) [a, b] [] pos) (tRg G (vRg2 m m2)) :=
  prg_imp (prg_2 hg hm ha hb na nb hp) fun σ H Q h => by
    obtain ⟨F, B, e, rep, post⟩ := h
    refine ⟨F, B, e, rep, Post.weak (Post.bind post) ?_⟩
    rintro x H1 ⟨B1, e1, d, ex1, rep1, rl, post1⟩
    refine ⟨F, B1, e1, rep1, Post.weak (Post.bind post1) ?_⟩
    rintro y H2 ⟨B2, e2, d2, ex2, rep2, rl2, post2⟩
    cases d with
    | int n =>
      cases d2 with
      | int k => exact ⟨n, k, by simpa only [relE, Rp] using rl, by simpa only [relE, Rp] using rl2, post2 (n, k) B2 H2 .rfl rep2 rfl⟩
      | _ => exact post2.elim
    | _ => exact post2.elim
theorem rgOk_ok {a b : Int} (h : rgOk a b = true) : RgOk a b := by
  unfold rgOk at h
  have h := of_decide_eq_true h
  refine ⟨by omega, by omega, by omega, by omega, by omega⟩
theorem rg_rp {T : Tb} {B : Hp} (a b : Int) : RpL T B (rgD a b) (rgV a b) := by
  have : ∀ l : List Nat, RpL T B (l.map fun i => D.int (a + (i : Nat))) (l.map fun i => V.int (a + (i : Nat))) := fun l => by
    induction l with
    | nil => exact .nil
    | cons i r ih => exact .cons (by simp only [Rp]) ih
  exact this _
theorem lf_listRg (hm : X.mg "list" = none) (hc : X.calm = true) (he : PRg X e (tRg G g)) (hg : Gl X "list") (na : starEach [e] X.env = (false, eval e X.env) :: starEach [] X.env := by rfl) : PE X (.Call (.Name "list" p) [e] [] pos) (tF G (vLstRg g)) :=
  pe_imp (pe_listRg hc hg hm he na) fun σ H Q h => by
    obtain ⟨F, B, env, rep, post⟩ := h
    refine ⟨F, B, env, rep, Post.weak (Post.bind post) ?_⟩
    rintro ⟨i, j⟩ H1 ⟨B1, e1, ab, ex1, rep1, rl, post1⟩
    have rl : (i, j) = ab := rl
    subst rl
    by_cases ok : rgOk i j = true
    · rw [if_pos ok] at post1
      refine ⟨rgOk_ok ok, fun q hq => ?_⟩
      have z := new_F (o := .lst (rgV i j)) (d := .lst (rgD i j)) rep1 hq (by simp only [At]; exact ⟨_, rfl, rg_rp _ _⟩)
      exact post1 (.ref q) B1 _ .rfl z.1 z.2
    · rw [if_neg ok] at post1; exact post1.elim
theorem le_tupRg (hm : X.mg "tuple" = none) (hc : X.calm = true) (he : PRg X e (tRg G g)) (hg : Gl X "tuple") (na : starEach [e] X.env = (false, eval e X.env) :: starEach [] X.env := by rfl) : PE X (.Call (.Name "tuple" p) [e] [] pos) (tE G (vTupRg g)) :=
  pe_imp (pe_tupRg hc hg hm he na) fun σ H Q h => by
    obtain ⟨F, B, env, rep, post⟩ := h
    refine ⟨F, B, env, rep, Post.weak (Post.bind post) ?_⟩
    rintro ⟨i, j⟩ H1 ⟨B1, e1, ab, ex1, rep1, rl, post1⟩
    have rl : (i, j) = ab := rl
    subst rl
    by_cases ok : rgOk i j = true
    · rw [if_pos ok] at post1
      refine ⟨rgOk_ok ok, fun q hq => ?_⟩
      refine post1 (.ref q) (upd B1 q (.tup (rgV i j))) _ (.new (rep1.ex.none hq)) (rep1.grow (.new rep1.ex hq)) ?_
      simp only [relE, Rp]
      exact ⟨q, _, rfl, upd_same, rg_rp _ _⟩
    · rw [if_neg ok] at post1; exact post1.elim
end
end Fl

namespace Fl
open PySem PySem.Spec PyProof.Rows L2

/-! ## functions of the text -/
inductive FR where
  | ok (d b : D)
  | err (c : Nat)
  | bad
/-- a def that makes things and hands back one; what stood stays -/
def spF (T : Tb) (xc : Nat → Value) (n : Nat) (F : List D → FR) : Sp := fun vs H Q E => ∃ B ds, Ex B H ∧ RpL T B ds vs ∧ ds.length = n ∧ match F ds with
  | .ok d _ => ∀ v B' H', Grow B H B' H' → Rp T B' d v → Q v H'
  | .err c => ∀ B' H', Grow B H B' H' → E (xc c) none H'
  | .bad => False
/-- .. and hands back a new thing -/
def spN (T : Tb) (xc : Nat → Value) (n : Nat) (F : List D → FR) : Sp := fun vs H Q E => ∃ B ds, Ex B H ∧ RpL T B ds vs ∧ ds.length = n ∧ match F ds with
  | .ok d _ => ∀ p o B' H', Grow B H B' H' → B' p = none → H p = none → H' p = some o → At T B' o d → Q (.ref p) H'
  | .err c => ∀ B' H', Grow B H B' H' → E (xc c) none H'
  | .bad => False
/-- a def whose first argument is a thing that it changes -/
def spB (T : Tb) (n : Nat) (F : List D → FR) : Sp := fun vs H Q E => ∃ B b o db ds vr, vs = .ref b :: vr ∧ Ex B H ∧ B b = none ∧ H b = some o ∧ At T B o db ∧ RpL T B ds vr ∧ ds.length + 1 = n ∧ match F (db :: ds) with
  | .ok d db' => ∀ v B' H' o', Ex B B' → (∀ q u, q ≠ b → H q = some u → H' q = some u) → Ex B' H' → (∀ q u, B' q = some u → B q = some u ∨ H q = none ∨ ∃ xs, u = .tup xs ∧ H q = some u) → H' b = some o' → At T B' o' db' → Rp T B' d v → Q v H'
  | _ => False
structure FnW (P : Program) (w : World) (K : PySem.W.Frag) (mg : Str → Option Value) (base : Heap) (sp : Sp) (x : Str) (k : Nat) : Prop where
  ex : ∃ f fd ps, FnOk P w K mg base (L2.CX P w) k f fd ps sp ∧ mg x = some (.ref f) ∧ PySem.W.keepIn K (.ref f) = true ∧ Binds K fd ps []
def vCall (n : Nat) (F : List D → FR) (ms : Env → R (List D)) : M := fun e => R.bind (ms e) fun ds e1 => if ds.length = n then (match F ds with
  | .ok d _ => .ok d e1
  | .err c => .err c e1
  | .bad => .bad) else .bad
def vCallB (n : Nat) (F : List D → FR) (i : Nat) (ms : Env → R (List D)) : M := fun e => match e[i]? with
  | some (some _) => R.bind (ms e) fun ds e1 => if ds.length + 1 = n then (match e1[i]? with
    | some (some b) => (match F (b :: ds) with
      | .ok d b' => .ok d (e1.set i (some b'))
      | _ => .bad)
    | _ => .bad) else .bad
  | _ => .bad
section
variable {X : Cx} {G : Gs} {a : Expr} {es : List Expr} {ms : Env → R (List D)} {n k : Nat} {F : List D → FR} {x y : Str} {p p2 pos : Pos}
theorem le_call (W : FnW X.prog X.w X.K X.mg X.base (spF G.T G.xc n F) x k) (hr : Room k X.A) (tk : Takes X G.W) (ha : PA X (a :: es) (tA G ms)) (hg : Gl X x)
    (hdb : (x == ("__debug__" : Str)) = false := by decide) (he : starEach (a :: es) X.env = (false, eval a X.env) :: starEach es X.env := by rfl) (hpl : (backTo pos (starEach es X.env)).any (·.1) = false := by rfl) :
    PE X (.Call (.Name x p) (a :: es) [] pos) (tE G (vCall n F ms)) := by
  obtain ⟨f, fd, ps, Fo, hm, hk, hb⟩ := W.ex
  refine pe_imp (pe_callS (E := WE G.W) Fo hr hg hm hk hb (passAt tk) ha hdb he hpl) fun σ H Q h => ?_
  obtain ⟨Fr, B, e, rep, post⟩ := h
  refine ⟨Fr, B, e, rep, Post.weak (Post.bind post) ?_⟩
  rintro vs H1 ⟨B1, e1, ds, ex1, rep1, rl, post1⟩
  by_cases hl : ds.length = n
  · rw [if_pos hl] at post1
    refine ⟨B1, ds, rep1.ex, rl, hl, ?_⟩
    cases hF : F ds with
    | ok d b =>
      rw [hF] at post1
      exact fun v B' H' g rp => post1 v B' H' g.ex (rep1.grow g) rp
    | err c =>
      rw [hF] at post1
      exact fun B' H' g => post1 B' H' g.ex (rep1.grow g)
    | bad => rw [hF] at post1; exact post1.elim
  · rw [if_neg hl] at post1; exact post1.elim
theorem lf_call (W : FnW X.prog X.w X.K X.mg X.base (spN G.T G.xc n F) x k) (hr : Room k X.A) (tk : Takes X G.W) (ha : PA X (a :: es) (tA G ms)) (hg : Gl X x)
    (hdb : (x == ("__debug__" : Str)) = false := by decide) (he : starEach (a :: es) X.env = (false, eval a X.env) :: starEach es X.env := by rfl) (hpl : (backTo pos (starEach es X.env)).any (·.1) = false := by rfl) :
    PE X (.Call (.Name x p) (a :: es) [] pos) (tF G (vCall n F ms)) := by
  obtain ⟨f, fd, ps, Fo, hm, hk, hb⟩ := W.ex
  refine pe_imp (pe_callS (E := WE G.W) Fo hr hg hm hk hb (passAt tk) ha hdb he hpl) fun σ H Q h => ?_
  obtain ⟨Fr, B, e, rep, post⟩ := h
  refine ⟨Fr, B, e, rep, Post.weak (Post.bind post) ?_⟩
  rintro vs H1 ⟨B1, e1, ds, ex1, rep1, rl, post1⟩
  by_cases hl : ds.length = n
  · rw [if_pos hl] at post1
    refine ⟨B1, ds, rep1.ex, rl, hl, ?_⟩
    cases hF : F ds with
    | ok d b =>
      rw [hF] at post1
      refine fun q o B' H' g hB hH hH' hat => post1 (.ref q) B' H' g.ex (rep1.grow g) ⟨q, o, rfl, hB, rep1.fr.none hH, hH', hat, fun i d' hi he hs => ?_⟩
      obtain ⟨q', o', a1, a2, a3, a4, _⟩ := rep1.ow i d' hi he
      rw [hs] at a1
      cases a1
      rw [hH] at a4; cases a4
    | err c =>
      rw [hF] at post1
      exact fun B' H' g => post1 B' H' g.ex (rep1.grow g)
    | bad => rw [hF] at post1; exact post1.elim
  · rw [if_neg hl] at post1; exact post1.elim
theorem Rep.bag {Fr : Fm} {B B' H H' : Hp} {σ : L2.St} {e : Env} {i : Nat} {b : Addr} {o' : HO} {db db' : D} (r : Rep G Fr B σ H e) (ho : G.O i = true) (hs : σ[i]? = some (some (.ref b))) (h0 : e[i]? = some (some db))
    (ex : Ex B B') (kp : ∀ q u, q ≠ b → H q = some u → H' q = some u) (sub : Ex B' H') (nw : ∀ q u, B' q = some u → B q = some u ∨ H q = none ∨ ∃ xs, u = .tup xs ∧ H q = some u) (hb : H' b = some o') (hat : At G.T B' o' db') : Rep G Fr B' σ H' (e.set i (some db')) := by
  obtain ⟨p', o0, a1, a2, a3, a4, a5⟩ := r.ow i db ho h0
  rw [hs] at a1
  cases a1
  have l : i < e.length := by
    by_cases l : i < e.length
    · exact l
    · rw [List.getElem?_eq_none (by simpa using l)] at h0; cases h0
  have noB : ∀ q u, H q = some u → B q = none → (∀ xs, u ≠ .tup xs) → B' q = none := fun q u hq hB nt => by
    cases z : B' q with
    | none => rfl
    | some w' =>
      rcases nw q w' z with z | z | ⟨xs, z1, z2⟩
      · rw [hB] at z; cases z
      · rw [hq] at z; cases z
      · exact (nt xs (by rw [hq] at z2; cases z2; exact z1)).elim
  refine ⟨sub, fun q u hq => kp q u (by rintro rfl; rw [a3] at hq; cases hq) (r.fr q u hq), r.b0.trans ex, fun q u hq => (nw q u hq).elim (r.nw q u) fun z => z.elim (fun z => .inr (.inl (r.fr.none z))) fun ⟨xs, z1, _⟩ => .inr (.inr ⟨xs, z1⟩), fun j d' hj he => ?_, fun j d' hj he => ?_, fun j k' d1 d2 q hj hk hjk h1 h2 h3 => ?_, r.pt, by simpa using r.len⟩
  · have q : i ≠ j := by rintro rfl; rw [ho] at hj; cases hj
    rw [List.getElem?_set_ne q] at he
    obtain ⟨v, g1, g2⟩ := r.sh j d' hj he
    exact ⟨v, g1, Rp.mono ex _ _ g2⟩
  · by_cases q : i = j
    · subst q
      rw [List.getElem?_set_self l] at he
      cases he
      exact ⟨b, o', hs, noB b _ a4 a2 (by rintro xs rfl; exact a5.no_tup), a3, hb, hat⟩
    · rw [List.getElem?_set_ne q] at he
      obtain ⟨p2, o2, b1, b2, b3, b4, b5⟩ := r.ow j d' hj he
      exact ⟨p2, o2, b1, noB p2 _ b4 b2 (by rintro xs rfl; exact b5.no_tup), b3, kp p2 o2 (by rintro rfl; exact r.ne i j db d' p2 ho hj q h0 he hs b1) b4, b5.mono ex⟩
  · have old : ∀ {x : Nat} {dx : D}, (e.set i (some db'))[x]? = some (some dx) → ∃ dy, e[x]? = some (some dy) := fun {x dx} z => by
      by_cases q : i = x
      · subst q; exact ⟨db, h0⟩
      · rw [List.getElem?_set_ne q] at z; exact ⟨dx, z⟩
    obtain ⟨y1, g1⟩ := old h1
    obtain ⟨y2, g2⟩ := old h2
    exact r.ne j k' y1 y2 q hj hk hjk g1 g2 h3
theorem le_callO {i : Nat} (W : FnW X.prog X.w X.K X.mg X.base (spB G.T n F) x k) (hr : Room k X.A) (hv : PE X (.Name y p2) (tVar i)) (ho : G.O i = true) (ha : PA X es (tA G ms)) (hg : Gl X x)
    (hdb : (x == ("__debug__" : Str)) = false := by decide) (he : starEach (.Name y p2 :: es) X.env = (false, eval (.Name y p2) X.env) :: starEach es X.env := by rfl) (hpl : (backTo pos (starEach es X.env)).any (·.1) = false := by rfl) :
    PE X (.Call (.Name x p) (.Name y p2 :: es) [] pos) (tE G (vCallB n F i ms)) := by
  obtain ⟨f, fd, ps, Fo, hm, hk, hb⟩ := W.ex
  refine pe_imp (pe_callS (E := fun _ _ _ _ => False) Fo hr hg hm hk hb (fun σ pins H s e s' I c => (by obtain ⟨_, _, _, _, _, _, _, _, _, _, _, _, z⟩ := c; exact z.elim)) (pa_cons hv ha he) hdb he hpl) fun σ H Q h => ?_
  obtain ⟨Fr, B, e, rep, post⟩ := h
  have bound : ∃ d0, e[i]? = some (some d0) := by
    cases z : e[i]? with
    | none =>
      have post : Post G Fr B σ (relE G) (match e[i]? with | some (some _) => _ | _ => .bad) Q := post
      rw [z] at post; exact post.elim
    | some od =>
      cases od with
      | some d0 => exact ⟨d0, rfl⟩
      | none =>
        have post : Post G Fr B σ (relE G) (match e[i]? with | some (some _) => _ | _ => .bad) Q := post
        rw [z] at post; exact post.elim
  obtain ⟨d0, hd0⟩ := bound
  have post : Post G Fr B σ (relE G) (match e[i]? with | some (some _) => _ | _ => .bad) Q := post
  rw [hd0] at post
  have post : Post G Fr B σ (relE G) (R.bind (ms e) _) Q := post
  -- the slot is there at the end; its pointer is the same from the start
  have key : ∀ vb, σ[i]? = some (some vb) → tA G ms σ H (fun vs H1 => spB G.T n F (vb :: vs) H1 Q fun _ _ _ => False) := fun vb hvb => by
    refine ⟨Fr, B, e, rep, Post.weak (Post.bind post) ?_⟩
    rintro vs H1 ⟨B1, e1, ds, ex1, rep1, rl, post1⟩
    by_cases hl : ds.length + 1 = n
    · rw [if_pos hl] at post1
      cases he1 : e1[i]? with
      | none => rw [he1] at post1; exact post1.elim
      | some od =>
        cases od with
        | none => rw [he1] at post1; exact post1.elim
        | some db =>
          rw [he1] at post1
          obtain ⟨b, o, h1, h2, h3, h4, h5⟩ := rep1.ow i db ho he1
          rw [hvb] at h1
          cases h1
          refine ⟨B1, b, o, db, ds, vs, rfl, rep1.ex, h2, h4, h5, rl, hl, ?_⟩
          have post1 : Post G Fr B1 σ (relE G) (match F (db :: ds) with | .ok d b' => .ok d (e1.set i (some b')) | _ => .bad) Q := post1
          cases hF : F (db :: ds) with
          | ok d db' =>
            rw [hF] at post1
            exact fun v B' H' o' g1 g2 g3 g4 g5 g6 g7 => post1 v B' H' g1 (rep1.bag ho hvb he1 g1 g2 g3 g4 g5 g6) g7
          | err c => rw [hF] at post1; exact post1.elim
          | bad => rw [hF] at post1; exact post1.elim
    · rw [if_neg hl] at post1; exact post1.elim
  show tVar i σ H fun vb H1 => tA G ms σ H1 fun vs H2 => spB G.T n F (vb :: vs) H2 Q fun _ _ _ => False
  obtain ⟨b0, o0, hb0, _⟩ := rep.ow i d0 ho hd0
  exact ⟨.ref b0, hb0, key _ hb0⟩
end
end Fl

namespace Fl
open PySem PySem.Spec PyProof.Rows L2

/-! ## statements -/
inductive RS where
  | nx (e : Env)
  | rt (d : D) (e : Env)
  | bk (e : Env)
  | ct (e : Env)
  | err (c : Nat) (e : Env)
  | bad
abbrev S := Env → RS
def PostS (G : Gs) (F : Fm) (rel : Rel D V) (B : Hp) (r : RS) (D : Ends) : Prop := match r with
  | .nx e => ∀ B' σ' H', Ex B B' → Rep G F B' σ' H' e → D.nx σ' H'
  | .rt d e => ∀ B' σ' H' v, Ex B B' → Rep G F B' σ' H' e → rel F σ' B' H' e d v → D.rt v H'
  | .bk e => ∀ B' σ' H', Ex B B' → Rep G F B' σ' H' e → D.bk σ' H'
  | .ct e => ∀ B' σ' H', Ex B B' → Rep G F B' σ' H' e → D.ct σ' H'
  | .err c e => ∀ B' σ' H', Ex B B' → Rep G F B' σ' H' e → G.W (G.xc c) none σ' H'
  | .bad => False
theorem PostS.mono {G : Gs} {F : Fm} {rel : Rel D V} {B B' : Hp} {r : RS} {D : Ends} (x : Ex B B') (h : PostS G F rel B r D) : PostS G F rel B' r D := by
  cases r with
  | nx e => exact fun B2 σ2 H2 y => h B2 σ2 H2 (x.trans y)
  | rt d e => exact fun B2 σ2 H2 v y => h B2 σ2 H2 v (x.trans y)
  | bk e => exact fun B2 σ2 H2 y => h B2 σ2 H2 (x.trans y)
  | ct e => exact fun B2 σ2 H2 y => h B2 σ2 H2 (x.trans y)
  | err c e => exact fun B2 σ2 H2 y => h B2 σ2 H2 (x.trans y)
  | bad => exact h
def tS (G : Gs) (rel : Rel D V) (m : S) : TS := fun D σ H => ∃ F B e, Rep G F B σ H e ∧ PostS G F rel B (m e) D
/-- from an expression into a statement -/
def R.toS {α : Type} (r : R α) (k : α → Env → RS) : RS := match r with
  | .ok a e => k a e
  | .err c e => .err c e
  | .bad => .bad
@[simp] theorem R.toS_ok {α : Type} (a : α) (e : Env) (k : α → Env → RS) : R.toS (.ok a e) k = k a e := rfl
@[simp] theorem R.toS_err {α : Type} (c : Nat) (e : Env) (k : α → Env → RS) : R.toS (.err c e) k = .err c e := rfl
@[simp] theorem R.toS_bad {α : Type} (k : α → Env → RS) : R.toS (.bad) k = .bad := rfl
theorem PostS.bind {α β : Type} {G : Gs} {F : Fm} {rel3 : Rel D V} {B : Hp} {σ : L2.St} {rel1 : Rel α β} {r : R α} {k : α → Env → RS} {D : Ends} (h : PostS G F rel3 B (R.toS r k) D) :
    Post G F B σ rel1 r (fun b H1 => ∃ B1 e a, Ex B B1 ∧ Rep G F B1 σ H1 e ∧ rel1 F σ B1 H1 e a b ∧ PostS G F rel3 B1 (k a e) D) := by
  cases r with
  | ok a e => exact fun b B' H' ex rep rl => ⟨B', e, a, ex, rep, rl, PostS.mono ex h⟩
  | err c e => exact fun B' H' ex rep => h B' σ H' ex rep
  | bad => exact h

def sNx : S := fun e => .nx e
def sSeq (a b : S) : S := fun e => match a e with
  | .nx e1 => b e1
  | r => r
def sIf (t : Env → R Bool) (a b : S) : S := fun e => R.toS (t e) fun c e1 => if c = true then a e1 else b e1
def sSet (i : Nat) (m : M) : S := fun e => R.toS (m e) fun d e1 => .nx (e1.set i (some d))
def sExpr (m : M) : S := fun e => R.toS (m e) fun _ e1 => .nx e1
def sRet (m : M) : S := fun e => R.toS (m e) fun d e1 => .rt d e1
def sRetN : S := fun e => .rt .non e
def sRaise (c : Nat) : S := fun e => .err c e
def sBrk : S := fun e => .bk e
def sCt : S := fun e => .ct e
section
variable {X : Cx} {G : Gs} {rel : Rel D V} {st : Stmt} {rest : List Stmt} {s t : S} {a : Expr} {m : M} {pos pos' : Pos}
theorem ls_nil : PSs X [] (tS G rel sNx) := pss_imp pss_nil fun D σ H h => by
  obtain ⟨F, B, e, rep, post⟩ := h
  exact post B σ H .rfl rep
theorem seq_t {D : Ends} {σ : L2.St} {H : Hp} (h : tS G rel (sSeq s t) D σ H) : tS G rel s { D with nx := tS G rel t D } σ H := by
  obtain ⟨F, B, e, rep, post⟩ := h
  refine ⟨F, B, e, rep, ?_⟩
  have post : PostS G F rel B (match s e with | .nx e1 => t e1 | r => r) D := post
  cases hs : s e with
  | nx e1 => rw [hs] at post; exact fun B' σ' H' x r => ⟨F, B', e1, r, PostS.mono x post⟩
  | rt d e1 => rw [hs] at post; exact post
  | bk e1 => rw [hs] at post; exact post
  | ct e1 => rw [hs] at post; exact post
  | err c e1 => rw [hs] at post; exact post
  | bad => rw [hs] at post; exact post
theorem ls_cons (h1 : PS X st (tS G rel s)) (h2 : PSs X rest (tS G rel t)) : PSs X (st :: rest) (tS G rel (sSeq s t)) := pss_imp (pss_cons h1 h2) fun D σ H h => seq_t h
theorem ls_one (h1 : PS X st (tS G rel s)) : PSs X [st] (tS G rel s) := pss_one h1
theorem ls_pass : PS X (.Pass pos) (tS G rel sNx) := ps_imp ps_pass fun D σ H h => by
  obtain ⟨F, B, e, rep, post⟩ := h
  exact post B σ H .rfl rep
theorem ls_brk : PS X (.Break pos) (tS G rel sBrk) := ps_imp ps_break fun D σ H h => by
  obtain ⟨F, B, e, rep, post⟩ := h
  exact post B σ H .rfl rep
theorem ls_ct : PS X (.Continue pos) (tS G rel sCt) := ps_imp ps_continue fun D σ H h => by
  obtain ⟨F, B, e, rep, post⟩ := h
  exact post B σ H .rfl rep
theorem ls_if {c : Expr} {sa sb : List Stmt} {tt : Env → R Bool} (hc : PT X c (tT G tt)) (ha : PSs X sa (tS G rel s)) (hb : PSs X sb (tS G rel t)) : PS X (.If c sa sb pos) (tS G rel (sIf tt s t)) := ps_imp (ps_if hc ha hb) fun D σ H h => by
  obtain ⟨F, B, e, rep, post⟩ := h
  refine ⟨F, B, e, rep, Post.weak (PostS.bind post) ?_⟩
  rintro x H1 ⟨B1, e1, k, ex1, rep1, rl, post1⟩
  cases rl
  cases x with
  | true => exact ⟨F, B1, e1, rep1, post1⟩
  | false => exact ⟨F, B1, e1, rep1, post1⟩
theorem set_t {D : Ends} {σ : L2.St} {H : Hp} {i : Nat} (ho : G.O i = false) (h : tS G rel (sSet i m) D σ H) : tAsg (tE G m) (gName i) D σ H := by
  obtain ⟨F, B, e, rep, post⟩ := h
  refine ⟨F, B, e, rep, Post.weak (PostS.bind post) ?_⟩
  rintro x H1 ⟨B1, e1, d, ex1, rep1, rl, post1⟩
  exact post1 B1 _ H1 .rfl (rep1.set ho rl)
theorem ls_set {i : Nat} {x : Str} (hN : X.N.Nodup) (hi : X.N[i]? = some x) (hx : Loc X.env.scope x) (ho : G.O i = false) (he : PE X a (tE G m)) (hs : swapsWith a (some (.Name x pos')) pos.line X.env = pure false := by rfl) (hf : X.fn x = true ∨ X.env.scope.names.lookup x = some .local := by first | exact .inl rfl | exact .inr rfl | assumption) :
    PS X (.Assign [.Name x pos'] a pos) (tS G rel (sSet i m)) := ps_imp (ps_set hN hi hx he hs hf) fun D σ H h => set_t ho h
/-- a new thing of one's own, at a slot for such -/
theorem setO_t {D : Ends} {σ : L2.St} {H : Hp} {i : Nat} (ho : G.O i = true) (hio : i ≠ 0) (h : tS G rel (sSet i m) D σ H) : tAsg (tF G m) (gName i) D σ H := by
  obtain ⟨F, B, e, rep, post⟩ := h
  refine ⟨F, B, e, rep, Post.weak (PostS.bind post) ?_⟩
  rintro x H1 ⟨B1, e1, d, ex1, rep1, ⟨p, o, rfl, h1, h2, h3, h4, h5⟩, post1⟩
  exact post1 B1 _ H1 .rfl (rep1.take ho hio h1 h2 h3 h4 h5)
theorem ls_setO {i : Nat} {x : Str} (hN : X.N.Nodup) (hi : X.N[i]? = some x) (hx : Loc X.env.scope x) (ho : G.O i = true) (hio : i ≠ 0) (he : PE X a (tF G m)) (hs : swapsWith a (some (.Name x pos')) pos.line X.env = pure false := by rfl) (hf : X.fn x = true ∨ X.env.scope.names.lookup x = some .local := by first | exact .inl rfl | exact .inr rfl | assumption) :
    PS X (.Assign [.Name x pos'] a pos) (tS G rel (sSet i m)) := ps_imp (ps_set hN hi hx he hs hf) fun D σ H h => setO_t ho hio h
theorem ls_expr (he : PE X a (tE G m)) (hs : swapsWith a none pos.line X.env = pure false := by rfl) : PS X (.Expr a pos) (tS G rel (sExpr m)) := ps_imp (ps_expr he hs) fun D σ H h => by
  obtain ⟨F, B, e, rep, post⟩ := h
  refine ⟨F, B, e, rep, Post.weak (PostS.bind post) ?_⟩
  rintro x H1 ⟨B1, e1, d, ex1, rep1, rl, post1⟩
  exact post1 B1 _ H1 .rfl rep1
theorem ls_ret (he : PE X a (tE G m)) : PS X (.Return (some a) pos) (tS G (relE G) (sRet m)) := ps_imp (ps_ret he) fun D σ H h => by
  obtain ⟨F, B, e, rep, post⟩ := h
  refine ⟨F, B, e, rep, Post.weak (PostS.bind post) ?_⟩
  rintro x H1 ⟨B1, e1, d, ex1, rep1, rl, post1⟩
  exact post1 B1 σ H1 x .rfl rep1 rl
theorem ls_retF (he : PE X a (tF G m)) : PS X (.Return (some a) pos) (tS G (relF G) (sRet m)) := ps_imp (ps_ret he) fun D σ H h => by
  obtain ⟨F, B, e, rep, post⟩ := h
  refine ⟨F, B, e, rep, Post.weak (PostS.bind post) ?_⟩
  rintro x H1 ⟨B1, e1, d, ex1, rep1, rl, post1⟩
  exact post1 B1 σ H1 x .rfl rep1 rl
theorem ls_retN : PS X (.Return none pos) (tS G (relE G) sRetN) := ps_imp ps_retN fun D σ H h => by
  obtain ⟨F, B, e, rep, post⟩ := h
  exact post B σ H .non .rfl rep (by simp only [relE, Rp])
theorem ls_raise {c : Nat} {C : Addr} {bmB : List Value} {Bs newId initId : String} {x m : Str} {j : Nat} {p p2 p3 : Pos} (hc : X.calm = true) (tk : Takes X G.W) (FB : ExcBaseFacts Bs newId initId bmB) (q : PySem.W.excIn X.K C bmB newId = true) (gC : X.mg x = some (.ref C)) (kC : PySem.W.keepIn X.K (.ref C) = true) (r : Raises X (.ref C)) (hxc : G.xc c = .ref C) (hg : Gl X x)
    (hdb : (x == ("__debug__" : Str)) = false := by decide) : PS X (.Raise (some (.Call (.Name x p) [.Constant (.str m) j p2] [] p3)) none pos) (tS G rel (sRaise c)) := ps_imp (ps_raise hc tk (pmk_own FB q gC kC r hg hdb)) fun D σ H h => by
  obtain ⟨F, B, e, rep, post⟩ := h
  have z := post B σ H .rfl rep
  rw [hxc] at z
  exact z
end

/-! ### op= at a name -/
def dIAdd : D → D → Option D
  | .int i, .int j => some (.int (i + j))
  | .str x, .str y => if x.length + y.length ≤ 1000000 then some (.str (x ++ y)) else none
  | _, _ => none
def rIAdd : R2 := fun x y H Q => rI0 (fun i j => .int (i + j)) x y H Q ∨ (∃ i j, x = .str i ∧ y = .str j ∧ i.length + j.length ≤ sizeLine ∧ Q (.str (i ++ j)) H)
theorem op_iaddG {X : Cx} : OpR X (inplaceOp .Add) rIAdd := iop_add.or iop_add_str
theorem od_iadd {T : Tb} : OpD T rIAdd dIAdd := by
  intro B H x y d1 d2 d Q ex h1 h2 hf q
  cases d1 <;> cases d2 <;> simp only [dIAdd, reduceCtorEq, Option.some.injEq] at hf
  · subst hf
    exact .inl ⟨_, _, rh_int h1, rh_int h2, fin_q ex q (by simp only [Rp])⟩
  · split at hf
    · rename_i hl
      cases hf
      exact .inr ⟨_, _, rh_str h1, rh_str h2, million hl, fin_q ex q (by simp only [Rp])⟩
    · cases hf
def sAug (i : Nat) (f : D → D → Option D) (m : M) : S := fun e => match e[i]? with
  | some (some x) => R.toS (m e) fun y e1 => (match f x y with
    | some d => .nx (e1.set i (some d))
    | none => .bad)
  | _ => .bad
section
variable {X : Cx} {G : Gs} {rel : Rel D V} {a : Expr} {m : M} {pos pos' : Pos}
theorem ls_aug {i : Nat} {x : Str} {op : Operator} {r : R2} {f : D → D → Option D} (hN : X.N.Nodup) (hi : X.N[i]? = some x) (hx : Loc X.env.scope x) (ho : G.O i = false) (he : PE X a (tE G m)) (hop : OpR X (inplaceOp op) r) (hd : OpD G.T r f) (hf : X.fn x = true ∨ X.env.scope.names.lookup x = some .local := by first | exact .inl rfl | exact .inr rfl | assumption) :
    PS X (.AugAssign (.Name x pos') op a pos) (tS G rel (sAug i f m)) := ps_imp (ps_aug hN hi hx he (fun pins s σ H x y v u Q => hop pins s σ H x y v u Q) hf) fun D σ H h => by
  obtain ⟨F, B, e, rep, post⟩ := h
  have post : PostS G F rel B (match e[i]? with | some (some x) => R.toS (m e) fun y e1 => (match f x y with | some d => .nx (e1.set i (some d)) | none => .bad) | _ => .bad) D := post
  cases z : e[i]? with
  | none => rw [z] at post; exact post.elim
  | some od =>
    cases od with
    | none => rw [z] at post; exact post.elim
    | some dx =>
      rw [z] at post
      obtain ⟨vx, h1, h2⟩ := rep.sh i dx ho z
      have post : PostS G F rel B (R.toS (m e) fun y e1 => match f dx y with | some d => .nx (e1.set i (some d)) | none => .bad) D := post
      refine ⟨vx, h1, F, B, e, rep, Post.weak (PostS.bind post) ?_⟩
      rintro y H1 ⟨B1, e1, dy, ex1, rep1, rl, post1⟩
      cases hq : f dx dy with
      | none => rw [hq] at post1; exact post1.elim
      | some d =>
        rw [hq] at post1
        exact hd B1 H1 vx y dx dy d _ rep1.ex (.inl (Rp.mono ex1 _ _ h2)) (.inl rl) hq fun v B' H' g rp => post1 B' _ H' g.ex ((rep1.grow g).set ho rp)
end

/-! ### a def as a function of data -/
def bagOf (e : Env) : D := match e with
  | some d :: _ => d
  | _ => .non
def runF (m : S) (pad : Nat) (ds : List D) : FR := match m (ds.map some ++ List.replicate pad none) with
  | .nx e => .ok .non (bagOf e)
  | .rt d e => .ok d (bagOf e)
  | .err c _ => .err c
  | _ => .bad
def runFN (m : S) (pad : Nat) (ds : List D) : FR := match m (ds.map some ++ List.replicate pad none) with
  | .rt d e => .ok d (bagOf e)
  | .err c _ => .err c
  | _ => .bad
def runFB (m : S) (pad : Nat) (ds : List D) : FR := match m (ds.map some ++ List.replicate pad none) with
  | .nx (some b :: _) => .ok .non b
  | .rt d (some b :: _) => .ok d b
  | _ => .bad
theorem start_get {N : List Str} {vs : List V} {i : Nat} {v : V} (h : vs[i]? = some v) : (L2.start N vs)[i]? = some (some v) := by
  unfold L2.start
  have hi := (List.getElem?_eq_some_iff.mp h).1
  rw [List.getElem?_append_left (by simpa using hi), List.getElem?_map, h]
  rfl
theorem env_get {ds : List D} {pad i : Nat} {d : D} (h : (ds.map some ++ List.replicate pad none)[i]? = some (some d)) : ds[i]? = some d := by
  by_cases hi : i < ds.length
  · rw [List.getElem?_append_left (by simpa using hi), List.getElem?_map] at h
    cases q : ds[i]? with
    | none => rw [q] at h; cases h
    | some x => rw [q] at h; simpa using h
  · rw [List.getElem?_append_right (by simpa using hi)] at h
    rw [List.getElem?_replicate] at h
    split at h <;> cases h
theorem rep_start {G : Gs} {N : List Str} {B H : Hp} {ds : List D} {vs : List V} (ex : Ex B H) (h : RpL G.T B ds vs) (hl : ds.length ≤ N.length) (hO : ∀ i, i < ds.length → G.O i = false) :
    Rep G ⟨H, B, fun _ => none⟩ B (L2.start N vs) H (ds.map some ++ List.replicate (N.length - ds.length) none) where
  ex := ex
  fr := .rfl
  b0 := .rfl
  nw := fun q o h => .inl h
  sh := fun i d _ he => by
    obtain ⟨v, hv, rv⟩ := h.get (env_get he)
    exact ⟨v, start_get hv, rv⟩
  ow := fun i d ho he => by
    have := (List.getElem?_eq_some_iff.mp (env_get he)).1
    rw [hO i this] at ho; cases ho
  ne := fun i j d d' p ho _ _ he _ _ => by
    have := (List.getElem?_eq_some_iff.mp (env_get he)).1
    rw [hO i this] at ho; cases ho
  pt := fun i p hp => by cases hp
  len := by
    unfold L2.start
    simp only [List.length_append, List.length_map, List.length_replicate, h.length]
section
variable {P : Program} {w : World} {K : PySem.W.Frag} {mg : Str → Option Value} {base : Heap} {T : Tb} {xc : Nat → Value}
/-- what a body's term may lean on -/
structure Bd (X : Cx) (G : Gs) (k : Nat) : Prop where
  hr : Room k X.A
  tk : Takes X G.W
  po : PassesOwn (model X.prog X.w) X.A X.env X.xe
theorem fn_lift {x qual : Str} {st : Stmt} {f : Addr} {fd : FuncData} {N ps : List Str} {k n : Nat} {O : Nat → Bool} {m : S} (Fd : Fun K x qual st f fd) (Sc : FnScope N ps (defScope st)) (hn : ps.length = n) (hN : n ≤ N.length) (hO : ∀ i, i < n → O i = false)
    (body : ∀ (cdv : Value) (A : Around) (outer : List PySem.Env) (s : Shared) (H : Hp) (E : XK), Bd (cxOf (L2.CX P w) P w K mg base N qual (defScope st) f cdv A outer s H E) ⟨T, O, fun cls d _ H' => E cls d H', xc⟩ k →
      PSs (cxOf (L2.CX P w) P w K mg base N qual (defScope st) f cdv A outer s H E) (defBody st) (tS ⟨T, O, fun cls d _ H' => E cls d H', xc⟩ (relE ⟨T, O, fun cls d _ H' => E cls d H', xc⟩) m)) :
    FnOk P w K mg base (L2.CX P w) (k + 1) f fd ps (spF T xc n (runF m (N.length - n))) := by
  refine Fd.okX Sc (fun vs H Q E h => ?_) (fun cdv A outer s H vs Q E hr h => ?_)
  · obtain ⟨B, ds, _, rl, hl, _⟩ := h
    rw [rl.length, hl, hn]
  · obtain ⟨B, ds, ex, rl, hl, h⟩ := h
    refine ⟨_, body cdv A outer s H E ⟨hr, takes_of rfl rfl rfl rfl, passes_of rfl⟩, ?_⟩
    subst hl
    refine ⟨⟨H, B, fun _ => none⟩, B, _, rep_start ex rl hN hO, ?_⟩
    unfold runF at h
    cases hm : m (ds.map some ++ List.replicate (N.length - ds.length) none) with
    | nx e =>
      rw [hm] at h
      exact fun B' σ' H' x r => h .non B' H' ⟨x, r.fr, r.ex, r.nwG⟩ (by simp only [Rp])
    | rt d e =>
      rw [hm] at h
      exact fun B' σ' H' v x r rp => h v B' H' ⟨x, r.fr, r.ex, r.nwG⟩ rp
    | bk e => rw [hm] at h; exact h.elim
    | ct e => rw [hm] at h; exact h.elim
    | err c e =>
      rw [hm] at h
      exact fun B' σ' H' x r => h B' H' ⟨x, r.fr, r.ex, r.nwG⟩
    | bad => rw [hm] at h; exact h
/-- .. that hands back a new thing -/
theorem fn_liftN {x qual : Str} {st : Stmt} {f : Addr} {fd : FuncData} {N ps : List Str} {k n : Nat} {O : Nat → Bool} {m : S} (Fd : Fun K x qual st f fd) (Sc : FnScope N ps (defScope st)) (hn : ps.length = n) (hN : n ≤ N.length) (hO : ∀ i, i < n → O i = false)
    (body : ∀ (cdv : Value) (A : Around) (outer : List PySem.Env) (s : Shared) (H : Hp) (E : XK), Bd (cxOf (L2.CX P w) P w K mg base N qual (defScope st) f cdv A outer s H E) ⟨T, O, fun cls d _ H' => E cls d H', xc⟩ k →
      PSs (cxOf (L2.CX P w) P w K mg base N qual (defScope st) f cdv A outer s H E) (defBody st) (tS ⟨T, O, fun cls d _ H' => E cls d H', xc⟩ (relF ⟨T, O, fun cls d _ H' => E cls d H', xc⟩) m)) :
    FnOk P w K mg base (L2.CX P w) (k + 1) f fd ps (spN T xc n (runFN m (N.length - n))) := by
  refine Fd.okX Sc (fun vs H Q E h => ?_) (fun cdv A outer s H vs Q E hr h => ?_)
  · obtain ⟨B, ds, _, rl, hl, _⟩ := h
    rw [rl.length, hl, hn]
  · obtain ⟨B, ds, ex, rl, hl, h⟩ := h
    refine ⟨_, body cdv A outer s H E ⟨hr, takes_of rfl rfl rfl rfl, passes_of rfl⟩, ?_⟩
    subst hl
    refine ⟨⟨H, B, fun _ => none⟩, B, _, rep_start ex rl hN hO, ?_⟩
    unfold runFN at h
    cases hm : m (ds.map some ++ List.replicate (N.length - ds.length) none) with
    | nx e => rw [hm] at h; exact h.elim
    | rt d e =>
      rw [hm] at h
      rintro B' σ' H' v x r ⟨p, o, rfl, h1, h2, h3, h4, _⟩
      exact h p o B' H' ⟨x, r.fr, r.ex, r.nwG⟩ h1 h2 h3 h4
    | bk e => rw [hm] at h; exact h.elim
    | ct e => rw [hm] at h; exact h.elim
    | err c e =>
      rw [hm] at h
      exact fun B' σ' H' x r => h B' H' ⟨x, r.fr, r.ex, r.nwG⟩
    | bad => rw [hm] at h; exact h
def without (H : Hp) (b : Addr) : Hp := fun q => if q = b then none else H q
theorem without_ne {H : Hp} {b q : Addr} {u : HO} (h : q ≠ b) (e : H q = some u) : without H b q = some u := by unfold without; rw [if_neg h]; exact e
theorem without_some {H : Hp} {b q : Addr} {u : HO} (e : without H b q = some u) : q ≠ b ∧ H q = some u := by
  unfold without at e
  by_cases h : q = b
  · rw [if_pos h] at e; cases e
  · rw [if_neg h] at e; exact ⟨h, e⟩
/-- .. whose first argument is a thing that it changes: slot 0 -/
theorem fn_liftB {x qual : Str} {st : Stmt} {f : Addr} {fd : FuncData} {N ps : List Str} {k n : Nat} {O : Nat → Bool} {m : S} (Fd : Fun K x qual st f fd) (Sc : FnScope N ps (defScope st)) (hn : ps.length = n) (hN : n ≤ N.length) (h0 : O 0 = true) (hO : ∀ i, 0 < i → i < n → O i = false)
    (body : ∀ (cdv : Value) (A : Around) (outer : List PySem.Env) (s : Shared) (H : Hp) (E : XK), Bd (cxOf (L2.CX P w) P w K mg base N qual (defScope st) f cdv A outer s H E) ⟨T, O, fun cls d _ H' => E cls d H', xc⟩ k →
      PSs (cxOf (L2.CX P w) P w K mg base N qual (defScope st) f cdv A outer s H E) (defBody st) (tS ⟨T, O, fun cls d _ H' => E cls d H', xc⟩ (relE ⟨T, O, fun cls d _ H' => E cls d H', xc⟩) m)) :
    FnOk P w K mg base (L2.CX P w) (k + 1) f fd ps (spB T n (runFB m (N.length - n))) := by
  refine Fd.okX Sc (fun vs H Q E h => ?_) (fun cdv A outer s H vs Q E hr h => ?_)
  · obtain ⟨B, b, o, db, ds, vr, rfl, _, _, _, _, rl, hl, _⟩ := h
    rw [List.length_cons, rl.length, hl, hn]
  · obtain ⟨B, b, o, db, ds, vr, rfl, ex, hBb, hHb, hat, rl, hl, h⟩ := h
    refine ⟨_, body cdv A outer s H E ⟨hr, takes_of rfl rfl rfl rfl, passes_of rfl⟩, ?_⟩
    subst hl
    have rs : Rep ⟨T, O, fun cls d _ H' => E cls d H', xc⟩ ⟨without H b, B, fun i => if i = 0 then some b else none⟩ B (L2.start N (.ref b :: vr)) H ((db :: ds).map some ++ List.replicate (N.length - (ds.length + 1)) none) := by
      refine ⟨ex, fun q u e => (without_some e).2, .rfl, fun q o h => .inl h, fun i d ho he => ?_, fun i d ho he => ?_, fun i j d d' p ho hj hij he he' hs => ?_, fun i p hp => ?_, ?_⟩
      · have he := env_get he
        cases i with
        | zero => have ho : O 0 = false := ho; rw [h0] at ho; cases ho
        | succ i =>
          obtain ⟨v, hv, rv⟩ := rl.get (i := i) (by simpa using he)
          exact ⟨v, start_get (by simpa using hv), rv⟩
      · have he := env_get he
        cases i with
        | zero =>
          have : db = d := by simpa using he
          subst this
          exact ⟨b, o, start_get rfl, hBb, by show without H b b = none; unfold without; rw [if_pos rfl], hHb, hat⟩
        | succ i =>
          have hi := (List.getElem?_eq_some_iff.mp he).1
          have ho : O (i + 1) = true := ho
          rw [hO (i + 1) (Nat.succ_pos _) (by simpa using hi)] at ho; cases ho
      · have he := env_get he
        have he' := env_get he'
        have zero : ∀ {y : Nat} {dy : D}, O y = true → (db :: ds)[y]? = some dy → y = 0 := fun {y dy} h1 h2 => by
          cases y with
          | zero => rfl
          | succ y =>
            have hi := (List.getElem?_eq_some_iff.mp h2).1
            rw [hO (y + 1) (Nat.succ_pos _) (by simpa using hi)] at h1; cases h1
        exact absurd ((zero ho he).trans (zero hj he').symm) hij
      · have hp : (if i = 0 then some b else none) = some p := hp
        by_cases hi : i = 0
        · subst hi
          rw [if_pos rfl] at hp
          cases hp
          exact ⟨rfl, h0, start_get rfl⟩
        · rw [if_neg hi] at hp; cases hp
      · unfold L2.start
        simp only [List.length_append, List.length_map, List.length_replicate, List.length_cons, rl.length]
    refine ⟨_, B, _, rs, ?_⟩
    -- the end: slot 0 holds b still
    have fin : ∀ (B' : Hp) (σ' : L2.St) (H' : Hp) (bd : D) (er : Env), Ex B B' → Rep ⟨T, O, fun cls d _ H' => E cls d H', xc⟩ ⟨without H b, B, fun i => if i = 0 then some b else none⟩ B' σ' H' (some bd :: er) →
        (∀ q u, q ≠ b → H q = some u → H' q = some u) ∧ Ex B' H' ∧ (∀ q u, B' q = some u → B q = some u ∨ H q = none ∨ ∃ xs, u = .tup xs ∧ H q = some u) ∧ ∃ o', H' b = some o' ∧ At T B' o' bd := fun B' σ' H' bd er x r => by
      obtain ⟨p, o', a1, a2, a3, a4, a5⟩ := r.ow 0 bd h0 rfl
      obtain ⟨_, _, b1⟩ := r.pt 0 b rfl
      rw [b1] at a1
      cases a1
      refine ⟨fun q u hq e => r.fr q u (without_ne hq e), r.ex, fun q u e => ?_, o', a4, a5⟩
      have hq : q ≠ b := by rintro rfl; rw [a2] at e; cases e
      rcases r.nwG q u e with z | z | ⟨xs, z1, z2⟩
      · exact .inl z
      · have z : without H b q = none := z
        unfold without at z; rw [if_neg hq] at z; exact .inr (.inl z)
      · have z2 : without H b q = some u := z2
        unfold without at z2; rw [if_neg hq] at z2; exact .inr (.inr ⟨xs, z1, z2⟩)
    unfold runFB at h
    rw [List.map_cons] at h ⊢
    cases hm : m ((some db :: ds.map some) ++ List.replicate (N.length - (ds.length + 1)) none) with
    | nx e =>
      rw [hm] at h
      obtain ⟨bd, er, rfl⟩ : ∃ bd er, e = some bd :: er := by
        cases e with
        | nil => exact h.elim
        | cons x er => cases x with
          | none => exact h.elim
          | some bd => exact ⟨bd, er, rfl⟩
      intro B' σ' H' x r
      obtain ⟨f1, f2, f3, o', f4, f5⟩ := fin B' σ' H' bd er x r
      exact h .non B' H' o' x f1 f2 f3 f4 f5 (by simp only [Rp])
    | rt d e =>
      rw [hm] at h
      obtain ⟨bd, er, rfl⟩ : ∃ bd er, e = some bd :: er := by
        cases e with
        | nil => exact h.elim
        | cons x er => cases x with
          | none => exact h.elim
          | some bd => exact ⟨bd, er, rfl⟩
      intro B' σ' H' v x r rp
      obtain ⟨f1, f2, f3, o', f4, f5⟩ := fin B' σ' H' bd er x r
      exact h v B' H' o' x f1 f2 f3 f4 f5 rp
    | bk e => rw [hm] at h; exact h.elim
    | ct e => rw [hm] at h; exact h.elim
    | err c e => rw [hm] at h; exact h.elim
    | bad => rw [hm] at h; exact h.elim
end
end Fl

namespace Fl
open PySem PySem.Spec PyProof.Rows L2

/-! ## what is walked -/
/-- J walks the data ds, while P holds of what is told -/
structure Wk (T : Tb) (H0 : Hp) (J : It) (ds : List D) (P : Hp → Prop) : Prop where
  up : ∀ B B', Ex B B' → P B → P B'
  go : ∀ i B H, P B → Ex B H → Ex H0 H → i < ds.length → J.go i H
  yl : ∀ i B H x H' d, P B → Ex B H → Ex H0 H → ds[i]? = some d → J.yld i H x H' → ∃ B', Grow B H B' H' ∧ Rp T B' d x
  st : ∀ i B H, P B → Ex B H → Ex H0 H → ds.length ≤ i → J.stop i H
def relI (G : Gs) : Rel (List D) It := fun F _ B _ _ ds J => ∃ P : Hp → Prop, P B ∧ Wk G.T F.H0 J ds P
abbrev tI (G : Gs) (m : Env → R (List D)) : TI := tM G (relI G) m
def vIt (f : D → Option (List D)) (m : M) : Env → R (List D) := fun e => R.bind (m e) fun d e1 => R.ofO (f d) e1
def itL : D → Option (List D)
  | .lst ds => some ds
  | _ => none
def itT : D → Option (List D)
  | .tup ds => some ds
  | _ => none
def itS : D → Option (List D)
  | .str x => some (x.cps.toList.map fun c => .str ⟨#[c]⟩)
  | _ => none
section
variable {X : Cx} {G : Gs} {a b tg : Expr} {m m2 : M} {p pos : Pos}
theorem li_list (h : PE X a (tE G m)) (hK : G.T.K = X.K) : PI X tg a (tI G (vIt itL m)) := pi_imp (pi_list h) fun σ H R' hq => by
  obtain ⟨F, B, e, rep, post⟩ := hq
  refine ⟨F, B, e, rep, Post.weak (Post.bind post) ?_⟩
  rintro x H1 ⟨B1, e1, d, ex1, rep1, rl, post1⟩
  cases d with
  | lst ds =>
    simp only [relE, Rp] at rl
    obtain ⟨c, xs, rfl, h1, h2⟩ := rl
    refine ⟨c, rfl, ⟨xs, .of (rep1.ex _ _ h1)⟩, post1 (Itl X.K c) B1 H1 .rfl rep1 ⟨fun B => B c = some (.lst xs) ∧ RpL G.T B ds xs, ⟨h1, h2⟩, ?_⟩⟩
    refine ⟨fun B B' ex ⟨p1, p2⟩ => ⟨ex _ _ p1, RpL.mono ex _ _ p2⟩, fun i B H ⟨p1, p2⟩ ex _ hi => ?_, fun i B H x H' d ⟨p1, p2⟩ ex _ hd hy => ?_, fun i B H ⟨p1, p2⟩ ex _ hi => ?_⟩
    · have hi' : i < xs.length := by rw [p2.length]; exact hi
      exact ⟨xs, xs[i], .of (ex _ _ p1), List.getElem?_eq_getElem hi'⟩
    · obtain ⟨rfl, hy⟩ := hy
      obtain ⟨y, g1, g2⟩ := p2.get hd
      have := hy xs (.of (ex _ _ p1))
      rw [g1] at this
      cases this
      exact ⟨B, .rfl ex, g2⟩
    · exact ⟨xs, .of (ex _ _ p1), by rw [p2.length]; exact hi⟩
  | _ => exact post1.elim
theorem li_tup (h : PE X a (tE G m)) (hK : G.T.K = X.K) : PI X tg a (tI G (vIt itT m)) := pi_imp (pi_tup h) fun σ H R' hq => by
  obtain ⟨F, B, e, rep, post⟩ := hq
  refine ⟨F, B, e, rep, Post.weak (Post.bind post) ?_⟩
  rintro x H1 ⟨B1, e1, d, ex1, rep1, rl, post1⟩
  cases d with
  | tup ds =>
    simp only [relE, Rp] at rl
    obtain ⟨c, xs, rfl, h1, h2⟩ := rl
    refine ⟨c, rfl, ⟨xs, .of (rep1.ex _ _ h1)⟩, post1 (Itt X.K c) B1 H1 .rfl rep1 ⟨fun B => B c = some (.tup xs) ∧ RpL G.T B ds xs, ⟨h1, h2⟩, ?_⟩⟩
    refine ⟨fun B B' ex ⟨p1, p2⟩ => ⟨ex _ _ p1, RpL.mono ex _ _ p2⟩, fun i B H ⟨p1, p2⟩ ex _ hi => ?_, fun i B H x H' d ⟨p1, p2⟩ ex _ hd hy => ?_, fun i B H ⟨p1, p2⟩ ex _ hi => ?_⟩
    · have hi' : i < xs.length := by rw [p2.length]; exact hi
      exact ⟨xs, xs[i], .of (ex _ _ p1), List.getElem?_eq_getElem hi'⟩
    · obtain ⟨rfl, hy⟩ := hy
      obtain ⟨y, g1, g2⟩ := p2.get hd
      have := hy xs (.of (ex _ _ p1))
      rw [g1] at this
      cases this
      exact ⟨B, .rfl ex, g2⟩
    · exact ⟨xs, .of (ex _ _ p1), by rw [p2.length]; exact hi⟩
  | _ => exact post1.elim
theorem li_str (h : PE X a (tE G m)) : PI X tg a (tI G (vIt itS m)) := pi_imp (pi_str h) fun σ H R' hq => by
  obtain ⟨F, B, e, rep, post⟩ := hq
  refine ⟨F, B, e, rep, Post.weak (Post.bind post) ?_⟩
  rintro x H1 ⟨B1, e1, d, ex1, rep1, rl, post1⟩
  cases d with
  | str z =>
    simp only [relE, Rp] at rl
    subst rl
    refine ⟨z, rfl, post1 (Its z) B1 H1 .rfl rep1 ⟨fun _ => True, trivial, ?_⟩⟩
    refine ⟨fun _ _ _ _ => trivial, fun i B H _ ex _ hi => ?_, fun i B H x H' d _ ex _ hd hy => ?_, fun i B H _ ex _ hi => ?_⟩
    · show i < z.cps.size
      simpa using hi
    · obtain ⟨rfl, c, hc, rfl⟩ := hy
      refine ⟨B, .rfl ex, ?_⟩
      rw [List.getElem?_map] at hd
      have hc' : z.cps.toList[i]? = some c := by simpa using hc
      rw [hc'] at hd
      cases hd
      simp only [Rp]
    · show z.cps.size ≤ i
      simpa using hi
  | _ => exact post1.elim
def vRng1 (m : M) : Env → R (List D) := fun e => R.bind (m e) fun d e1 => match d with
  | .int n => if n ≤ 100000000 ∧ -100000000 ≤ n then .ok (rgD 0 n) e1 else .bad
  | _ => .bad
def vRng2 (m m2 : M) : Env → R (List D) := fun e => R.bind (m e) fun d e1 => R.bind (m2 e1) fun d2 e2 => match d, d2 with
  | .int a, .int b => if (a ≤ 100000000 ∧ -100000000 ≤ a) ∧ b ≤ 100000000 ∧ -100000000 ≤ b then .ok (rgD a b) e2 else .bad
  | _, _ => .bad
theorem rgD_get {a b : Int} {i : Nat} {d : D} (h : (rgD a b)[i]? = some d) : d = .int (a + (i : Nat)) := by
  unfold rgD at h
  rw [List.getElem?_map] at h
  cases q : (List.range (b - a).toNat)[i]? with
  | none => rw [q] at h; cases h
  | some j =>
    rw [q] at h
    cases h
    obtain ⟨h1, h2⟩ := List.getElem?_eq_some_iff.mp q
    rw [List.getElem_range] at h2
    rw [h2]
theorem rgD_length (a b : Int) : (rgD a b).length = (b - a).toNat := by unfold rgD; rw [List.length_map, List.length_range]
theorem wk_range {T : Tb} {H0 : Hp} (a b : Int) : Wk T H0 (Itr a (b - a).toNat) (rgD a b) fun _ => True := by
  refine ⟨fun _ _ _ _ => trivial, fun i B H _ ex _ hi => ?_, fun i B H x H' d _ ex _ hd hy => ?_, fun i B H _ ex _ hi => ?_⟩
  · rw [rgD_length] at hi; exact hi
  · obtain ⟨rfl, rfl⟩ := hy
    rw [rgD_get hd]
    exact ⟨B, .rfl ex, by simp only [Rp]⟩
  · rw [rgD_length] at hi; exact hi
theorem li_rng1 (hm : X.mg "range" = none) (h : PE X a (tE G m)) (hg : Gl X "range") (hs : starEach [a] X.env = [(false, eval a X.env)] := by rfl) : PI X tg (.Call (.Name "range" p) [a] [] pos) (tI G (vRng1 m)) :=
  pi_imp (pi_range1 hg hm (pa_cons h pa_nil hs) hs) fun σ H R' hq => by
    obtain ⟨F, B, e, rep, post⟩ := hq
    refine ⟨F, B, e, rep, Post.weak (Post.bind post) ?_⟩
    rintro x H1 ⟨B1, e1, d, ex1, rep1, rl, post1⟩
    cases d with
    | int n =>
      simp only [relE, Rp] at rl
      subst rl
      by_cases hn : n ≤ 100000000 ∧ -100000000 ≤ n
      · have post1 : Post G F B1 σ (relI G) (if n ≤ 100000000 ∧ -100000000 ≤ n then R.ok (rgD 0 n) e1 else .bad) R' := post1
        rw [if_pos hn] at post1
        refine ⟨n, rfl, by omega, by omega, ?_⟩
        have z := post1 (Itr 0 (n - 0).toNat) B1 H1 .rfl rep1 ⟨_, trivial, wk_range 0 n⟩
        rw [Int.sub_zero] at z
        exact z
      · have post1 : Post G F B1 σ (relI G) (if n ≤ 100000000 ∧ -100000000 ≤ n then R.ok (rgD 0 n) e1 else .bad) R' := post1
        rw [if_neg hn] at post1; exact post1.elim
    | _ => exact post1.elim
theorem li_rng2 (hm : X.mg "range" = none) (h : PE X a (tE G m)) (h2 : PE X b (tE G m2)) (hg : Gl X "range") (hs : starEach [a, b] X.env = [(false, eval a X.env), (false, eval b X.env)] := by rfl) (hs2 : starEach [b] X.env = [(false, eval b X.env)] := by rfl) :
    PI X tg (.Call (.Name "range" p) [a, b] [] pos) (tI G (vRng2 m m2)) :=
  pi_imp (pi_range2 hg hm (pa_cons h (pa_cons h2 pa_nil hs2) (by rw [hs, hs2])) hs hs2) fun σ H R' hq => by
    obtain ⟨F, B, e, rep, post⟩ := hq
    refine ⟨F, B, e, rep, Post.weak (Post.bind post) ?_⟩
    rintro x H1 ⟨B1, e1, d, ex1, rep1, rl, post1⟩
    refine ⟨F, B1, e1, rep1, Post.weak (Post.bind post1) ?_⟩
    rintro y H2 ⟨B2, e2, d2, ex2, rep2, rl2, post2⟩
    cases d with
    | int n =>
      cases d2 with
      | int k =>
        simp only [relE, Rp] at rl rl2
        subst rl rl2
        have post2 : Post G F B2 σ (relI G) (if (n ≤ 100000000 ∧ -100000000 ≤ n) ∧ k ≤ 100000000 ∧ -100000000 ≤ k then R.ok (rgD n k) e2 else .bad) R' := post2
        by_cases hn : (n ≤ 100000000 ∧ -100000000 ≤ n) ∧ k ≤ 100000000 ∧ -100000000 ≤ k
        · rw [if_pos hn] at post2
          exact ⟨n, k, rfl, ⟨by omega, by omega, by omega, by omega⟩, post2 (Itr n (k - n).toNat) B2 H2 .rfl rep2 ⟨_, trivial, wk_range n k⟩⟩
        · rw [if_neg hn] at post2; exact post2.elim
      | _ => exact post2.elim
    | _ => exact post2.elim
/-- zip of two lists, enumerate of a list: new pairs -/
def pairD : D × D → D
  | (x, y) => .tup [x, y]
def vZip (m m2 : M) : Env → R (List D) := fun e => R.bind (m e) fun d e1 => R.bind (m2 e1) fun d2 e2 => match d, d2 with
  | .lst xs, .lst ys => .ok ((xs.zip ys).map pairD) e2
  | _, _ => .bad
def enumD : Nat → List D → List D
  | _, [] => []
  | n, d :: ds => .tup [.int (n : Nat), d] :: enumD (n + 1) ds
def vEnum (m : M) : Env → R (List D) := fun e => R.bind (m e) fun d e1 => match d with
  | .lst xs => .ok (enumD 0 xs) e1
  | _ => .bad
theorem zip_get {xs ys : List D} {i : Nat} {d : D} (h : ((xs.zip ys).map pairD)[i]? = some d) : ∃ x y, xs[i]? = some x ∧ ys[i]? = some y ∧ d = .tup [x, y] := by
  rw [List.getElem?_map] at h
  obtain ⟨⟨x, y⟩, h1, rfl⟩ := Option.map_eq_some_iff.mp h
  have := List.getElem?_zip_eq_some.mp h1
  exact ⟨x, y, this.1, this.2, rfl⟩
theorem enum_get : ∀ {ds : List D} {n i : Nat} {d : D}, (enumD n ds)[i]? = some d → ∃ x, ds[i]? = some x ∧ d = .tup [.int ((n + i : Nat) : Int), x]
  | [], _, _, _, h => by simp [enumD] at h
  | x :: ds, n, i, d, h => by
    cases i with
    | zero => simp only [enumD, List.getElem?_cons_zero, Option.some.injEq] at h; subst h; exact ⟨x, rfl, rfl⟩
    | succ i =>
      simp only [enumD, List.getElem?_cons_succ] at h
      obtain ⟨y, h1, rfl⟩ := enum_get h
      exact ⟨y, by simpa using h1, by rw [show n + 1 + i = n + (i + 1) from by omega]⟩
theorem enum_length : ∀ (ds : List D) (n : Nat), (enumD n ds).length = ds.length
  | [], _ => rfl
  | _ :: ds, n => by simp only [enumD, List.length_cons, enum_length ds]
theorem pair_new {T : Tb} {B H : Hp} {p : Addr} {d1 d2 : D} {x y : V} (ex : Ex B H) (hp : H p = none) (h1 : Rp T B d1 x) (h2 : Rp T B d2 y) : Grow B H (upd B p (.tup [x, y])) (upd H p (.tup [x, y])) ∧ Rp T (upd B p (.tup [x, y])) (.tup [d1, d2]) (.ref p) := by
  have nB := ex.none hp
  refine ⟨.new ex hp, ?_⟩
  simp only [Rp]
  exact ⟨p, _, rfl, upd_same, .cons (Rp.mono (.new nB) _ _ h1) (.cons (Rp.mono (.new nB) _ _ h2) .nil)⟩
theorem li_zip {elts : List Expr} {kk : Nat} {tpos : Pos} (hm : X.mg "zip" = none) (h : PE X a (tE G m)) (h2 : PE X b (tE G m2)) (hg : Gl X "zip") (hs : starEach [a, b] X.env = (false, eval a X.env) :: starEach [b] X.env := by rfl)
    (hs2 : starEach [b] X.env = (false, eval b X.env) :: starEach [] X.env := by rfl) (hpl : (backTo pos (starEach [b] X.env)).any (·.1) = false := by rfl) :
    PI X (.Tuple elts kk tpos) (.Call (.Name "zip" p) [a, b] [] pos) (tI G (vZip m m2)) :=
  pi_imp (pi_zip hg hm (pa_cons h (pa_cons h2 pa_nil hs2) hs) hs hpl) fun σ H R' hq => by
    obtain ⟨F, B, e, rep, post⟩ := hq
    refine ⟨F, B, e, rep, Post.weak (Post.bind post) ?_⟩
    rintro x H1 ⟨B1, e1, d, ex1, rep1, rl, post1⟩
    refine ⟨F, B1, e1, rep1, Post.weak (Post.bind post1) ?_⟩
    rintro y H2 ⟨B2, e2, d2, ex2, rep2, rl2, post2⟩
    cases d with
    | lst ds =>
      cases d2 with
      | lst es =>
        simp only [relE, Rp] at rl rl2
        obtain ⟨ca, xs, rfl, a1, a2⟩ := rl
        obtain ⟨cb, ys, rfl, b1, b2⟩ := rl2
        have a1 := ex2 _ _ a1
        have a2 := RpL.mono ex2 _ _ a2
        refine ⟨ca, cb, xs, ys, rfl, .of (rep2.ex _ _ a1), .of (rep2.ex _ _ b1), post2 (Itz X.K ca cb) B2 H2 .rfl rep2 ⟨fun B => B ca = some (.lst xs) ∧ RpL G.T B ds xs ∧ B cb = some (.lst ys) ∧ RpL G.T B es ys, ⟨a1, a2, b1, b2⟩, ?_⟩⟩
        refine ⟨fun B B' ex ⟨p1, p2, p3, p4⟩ => ⟨ex _ _ p1, RpL.mono ex _ _ p2, ex _ _ p3, RpL.mono ex _ _ p4⟩, fun i B H ⟨p1, p2, p3, p4⟩ ex _ hi => ?_, fun i B H x H' d ⟨p1, p2, p3, p4⟩ ex _ hd hy => ?_, fun i B H ⟨p1, p2, p3, p4⟩ ex _ hi => ?_⟩
        · rw [List.length_map, List.length_zip] at hi
          have i1 : i < xs.length := by rw [p2.length]; omega
          have i2 : i < ys.length := by rw [p4.length]; omega
          exact ⟨xs, ys, xs[i], ys[i], .of (ex _ _ p1), .of (ex _ _ p3), List.getElem?_eq_getElem i1, List.getElem?_eq_getElem i2⟩
        · obtain ⟨T', u, v, rfl, hT, rfl, g1, g2⟩ := hy
          obtain ⟨dx, dy, h1, h2, rfl⟩ := zip_get hd
          obtain ⟨u', q1, q2⟩ := p2.get h1
          obtain ⟨v', q3, q4⟩ := p4.get h2
          have e1 := g1 xs (.of (ex _ _ p1))
          have e2 := g2 ys (.of (ex _ _ p3))
          rw [q1] at e1; cases e1
          rw [q3] at e2; cases e2
          exact ⟨_, (pair_new ex hT q2 q4).1, (pair_new ex hT q2 q4).2⟩
        · rw [List.length_map, List.length_zip] at hi
          refine ⟨xs, ys, .of (ex _ _ p1), .of (ex _ _ p3), ?_⟩
          rw [p2.length, p4.length]
          omega
      | _ => exact post2.elim
    | _ => exact post2.elim
theorem li_enum {elts : List Expr} {kk : Nat} {tpos : Pos} (hm : X.mg "enumerate" = none) (h : PE X a (tE G m)) (hg : Gl X "enumerate") (hs : starEach [a] X.env = [(false, eval a X.env)] := by rfl) :
    PI X (.Tuple elts kk tpos) (.Call (.Name "enumerate" p) [a] [] pos) (tI G (vEnum m)) :=
  pi_imp (pi_enum hg hm (pa_cons h pa_nil hs) hs) fun σ H R' hq => by
    obtain ⟨F, B, e, rep, post⟩ := hq
    refine ⟨F, B, e, rep, Post.weak (Post.bind post) ?_⟩
    rintro x H1 ⟨B1, e1, d, ex1, rep1, rl, post1⟩
    cases d with
    | lst ds =>
      simp only [relE, Rp] at rl
      obtain ⟨c, xs, rfl, h1, h2⟩ := rl
      refine ⟨c, xs, rfl, .of (rep1.ex _ _ h1), post1 (Ite X.K c) B1 H1 .rfl rep1 ⟨fun B => B c = some (.lst xs) ∧ RpL G.T B ds xs, ⟨h1, h2⟩, ?_⟩⟩
      refine ⟨fun B B' ex ⟨p1, p2⟩ => ⟨ex _ _ p1, RpL.mono ex _ _ p2⟩, fun i B H ⟨p1, p2⟩ ex _ hi => ?_, fun i B H x H' d ⟨p1, p2⟩ ex _ hd hy => ?_, fun i B H ⟨p1, p2⟩ ex _ hi => ?_⟩
      · rw [enum_length] at hi
        have hi' : i < xs.length := by rw [p2.length]; exact hi
        exact ⟨xs, xs[i], .of (ex _ _ p1), List.getElem?_eq_getElem hi'⟩
      · obtain ⟨T', u, rfl, hT, rfl, g1⟩ := hy
        obtain ⟨dx, h1, rfl⟩ := enum_get hd
        obtain ⟨u', q1, q2⟩ := p2.get h1
        have e1 := g1 xs (.of (ex _ _ p1))
        rw [q1] at e1; cases e1
        rw [Nat.zero_add]
        have z := pair_new (T := G.T) (d1 := .int (i : Nat)) (x := .int (i : Nat)) ex hT (by simp only [Rp]) q2
        exact ⟨_, z.1, z.2⟩
      · rw [enum_length] at hi
        exact ⟨xs, .of (ex _ _ p1), by rw [p2.length]; exact hi⟩
    | _ => exact post1.elim
end

/-! ## targets -/
def tG (G : Gs) (f : D → Env → Option Env) : TG := fun v σ H Q => ∃ F B e d, Rep G F B σ H e ∧ Rp G.T B d v ∧ ∃ e', f d e = some e' ∧ ∀ B' σ' H', Ex B B' → Rep G F B' σ' H' e' → Q σ' H'
def gN (i : Nat) : D → Env → Option Env := fun d e => some (e.set i (some d))
def gT2 (i j : Nat) : D → Env → Option Env := fun d e => match d with
  | .tup [x, y] => some ((e.set i (some x)).set j (some y))
  | _ => none
def gT3 (i j k : Nat) : D → Env → Option Env := fun d e => match d with
  | .tup [x, y, z] => some (((e.set i (some x)).set j (some y)).set k (some z))
  | _ => none
section
variable {X : Cx} {G : Gs} {pos p1 p2 p3 : Pos}
theorem lg_name {i : Nat} {x : Str} (hN : X.N.Nodup) (hi : X.N[i]? = some x) (hx : Loc X.env.scope x) (ho : G.O i = false) (hf : X.fn x = true ∨ X.env.scope.names.lookup x = some .local := by first | exact .inl rfl | exact .inr rfl | assumption) : PG X (.Name x pos) (tG G (gN i)) :=
  pg_imp (pg_name hN hi hx hf) fun v σ H Q h => by
    obtain ⟨F, B, e, d, rep, rp, e', he, k⟩ := h
    cases he
    exact k B _ H .rfl (rep.set ho rp)
theorem rpl2 {T : Tb} {B : Hp} {x y : D} {vs : List V} (h : RpL T B [x, y] vs) : ∃ u v, vs = [u, v] ∧ Rp T B x u ∧ Rp T B y v := by
  simp only [RpL] at h
  obtain ⟨u, r, rfl, h1, v, r2, rfl, h2, rfl⟩ := h
  exact ⟨u, v, rfl, h1, h2⟩
theorem rpl3 {T : Tb} {B : Hp} {x y z : D} {vs : List V} (h : RpL T B [x, y, z] vs) : ∃ u v w, vs = [u, v, w] ∧ Rp T B x u ∧ Rp T B y v ∧ Rp T B z w := by
  simp only [RpL] at h
  obtain ⟨u, r, rfl, h1, v, r2, rfl, h2, w, r3, rfl, h3, rfl⟩ := h
  exact ⟨u, v, w, rfl, h1, h2, h3⟩
theorem lg_tup2 {i j : Nat} {x y : Str} {kk : Nat} (hc : X.calm = true) (hN : X.N.Nodup) (hi : X.N[i]? = some x) (hj : X.N[j]? = some y) (hx : Loc X.env.scope x) (hy : Loc X.env.scope y) (ho : G.O i = false) (ho2 : G.O j = false)
    (hf : X.fn x = true ∨ X.env.scope.names.lookup x = some .local := by first | exact .inl rfl | exact .inr rfl | assumption) (hf2 : X.fn y = true ∨ X.env.scope.names.lookup y = some .local := by first | exact .inl rfl | exact .inr rfl | assumption)
    (hs : (assignEach [.Name x p1, .Name y p2] X.env).map (·.2) = assign (.Name x p1) X.env :: (assignEach [.Name y p2] X.env).map (·.2) := by rfl) (hs2 : (assignEach [.Name y p2] X.env).map (·.2) = assign (.Name y p2) X.env :: (assignEach [] X.env).map (·.2) := by rfl)
    (hn : (assignEach [.Name x p1, .Name y p2] X.env).length = 2 := by rfl) (hst : (assignEach [.Name x p1, .Name y p2] X.env).findIdx? (·.1) = none := by rfl) : PG X (.Tuple [.Name x p1, .Name y p2] kk pos) (tG G (gT2 i j)) :=
  pg_imp (pg_tup (n := 2) hc (pgs_cons (pg_name hN hi hx hf) (pgs_cons (pg_name hN hj hy hf2) pgs_nil hs2) hs) hn hst) fun v σ H Q h => by
    obtain ⟨F, B, e, d, rep, rp, e', he, k⟩ := h
    unfold gT2 at he
    split at he
    · cases he
      simp only [Rp] at rp
      obtain ⟨a, xs, rfl, h1, h2⟩ := rp
      obtain ⟨u, w, rfl, r1, r2⟩ := rpl2 (by simpa only [RpL] using h2)
      exact ⟨a, _, rfl, sqt_of rep.ex h1, rfl, u, [w], rfl, w, [], rfl, rfl, k B _ H .rfl ((rep.set ho r1).set ho2 r2)⟩
    · cases he
theorem lg_tup3 {i j l : Nat} {x y z : Str} {kk : Nat} (hc : X.calm = true) (hN : X.N.Nodup) (hi : X.N[i]? = some x) (hj : X.N[j]? = some y) (hl : X.N[l]? = some z) (hx : Loc X.env.scope x) (hy : Loc X.env.scope y) (hz : Loc X.env.scope z) (ho : G.O i = false) (ho2 : G.O j = false) (ho3 : G.O l = false)
    (hf : X.fn x = true ∨ X.env.scope.names.lookup x = some .local := by first | exact .inl rfl | exact .inr rfl | assumption) (hf2 : X.fn y = true ∨ X.env.scope.names.lookup y = some .local := by first | exact .inl rfl | exact .inr rfl | assumption)
    (hf3 : X.fn z = true ∨ X.env.scope.names.lookup z = some .local := by first | exact .inl rfl | exact .inr rfl | assumption)
    (hs : (assignEach [.Name x p1, .Name y p2, .Name z p3] X.env).map (·.2) = assign (.Name x p1) X.env :: (assignEach [.Name y p2, .Name z p3] X.env).map (·.2) := by rfl) (hs2 : (assignEach [.Name y p2, .Name z p3] X.env).map (·.2) = assign (.Name y p2) X.env :: (assignEach [.Name z p3] X.env).map (·.2) := by rfl)
    (hs3 : (assignEach [.Name z p3] X.env).map (·.2) = assign (.Name z p3) X.env :: (assignEach [] X.env).map (·.2) := by rfl)
    (hn : (assignEach [.Name x p1, .Name y p2, .Name z p3] X.env).length = 3 := by rfl) (hst : (assignEach [.Name x p1, .Name y p2, .Name z p3] X.env).findIdx? (·.1) = none := by rfl) : PG X (.Tuple [.Name x p1, .Name y p2, .Name z p3] kk pos) (tG G (gT3 i j l)) :=
  pg_imp (pg_tup (n := 3) hc (pgs_cons (pg_name hN hi hx hf) (pgs_cons (pg_name hN hj hy hf2) (pgs_cons (pg_name hN hl hz hf3) pgs_nil hs3) hs2) hs) hn hst) fun v σ H Q h => by
    obtain ⟨F, B, e, d, rep, rp, e', he, k⟩ := h
    unfold gT3 at he
    split at he
    · cases he
      simp only [Rp] at rp
      obtain ⟨a, xs, rfl, h1, h2⟩ := rp
      obtain ⟨u, w, s', rfl, r1, r2, r3⟩ := rpl3 (by simpa only [RpL] using h2)
      exact ⟨a, _, rfl, sqt_of rep.ex h1, rfl, u, [w, s'], rfl, w, [s'], rfl, s', [], rfl, rfl, k B _ H .rfl (((rep.set ho r1).set ho2 r2).set ho3 r3)⟩
    · cases he
/-- target = value -/
def sAsg (f : D → Env → Option Env) (m : M) : S := fun e => R.toS (m e) fun d e1 => match f d e1 with
  | some e2 => .nx e2
  | none => .bad
theorem ls_asg {rel : Rel D V} {tgt a : Expr} {m : M} {f : D → Env → Option Env} (he : PE X a (tE G m)) (hg : PG X tgt (tG G f)) (hs : swapsWithSole [tgt] a pos.line X.env = pure false := by rfl) (hw : swappedStores [tgt] a X.env = pure none := by rfl)
    (h1 : (assignEach [tgt] X.env).map (·.2) = [assign tgt X.env] := by rfl) : PS X (.Assign [tgt] a pos) (tS G rel (sAsg f m)) := ps_imp (ps_asg he hg hs hw h1) fun D σ H h => by
  obtain ⟨F, B, e, rep, post⟩ := h
  refine ⟨F, B, e, rep, Post.weak (PostS.bind post) ?_⟩
  rintro x H1 ⟨B1, e1, d, ex1, rep1, rl, post1⟩
  cases hf : f d e1 with
  | none => rw [hf] at post1; exact post1.elim
  | some e2 =>
    rw [hf] at post1
    exact ⟨F, B1, e1, d, rep1, rl, e2, hf, fun B' σ' H' x r => post1 B' σ' H' x r⟩
end

/-! ## loops -/
def forL (f : D → Env → Option Env) (b : S) : List D → Env → RS
  | [], e => .nx e
  | d :: ds, e => match f d e with
    | some e1 => (match b e1 with
      | .nx e2 => forL f b ds e2
      | .ct e2 => forL f b ds e2
      | .bk e2 => .nx e2
      | r => r)
    | none => .bad
def sFor (it : Env → R (List D)) (f : D → Env → Option Env) (b : S) : S := fun e => R.toS (it e) fun ds e1 => forL f b ds e1
section
variable {X : Cx} {G : Gs} {rel : Rel D V} {iter tg : Expr} {body : List Stmt} {it : Env → R (List D)} {f : D → Env → Option Env} {s : S} {pos : Pos}
theorem for_t {D : Ends} {σ : L2.St} {H : Hp} (h : tS G rel (sFor it f s) D σ H) : tFor (tI G it) (tG G f) (tS G rel s) D σ H := by
  obtain ⟨F, B, e, rep, post⟩ := h
  refine ⟨F, B, e, rep, Post.weak (PostS.bind post) ?_⟩
  rintro J H1 ⟨B1, e1, ds, ex1, rep1, ⟨P, hP, wk⟩, post1⟩
  refine ⟨fun i m σ' H' => ∃ B' e', Ex B1 B' ∧ Rep G F B' σ' H' e' ∧ P B' ∧ i + m = ds.length ∧ PostS G F rel B' (forL f s (ds.drop i) e') D, ⟨ds.length, B1, e1, .rfl, rep1, hP, by omega, by simpa using post1⟩, ?_⟩
  rintro i m σ' H' ⟨B', e', ex', rep', hP', him, post'⟩
  by_cases hi : i < ds.length
  · refine .inr ⟨wk.go i B' H' hP' rep'.ex rep'.fr hi, fun σ2 H2 => ∃ B2 e2, Ex B1 B2 ∧ Rep G F B2 σ2 H2 e2 ∧ P B2 ∧ PostS G F rel B2 (forL f s (ds.drop (i + 1)) e2) D, fun σ2 H2 ⟨B2, e2, x2, r2, p2, q2⟩ => ⟨m - 1, by omega, B2, e2, x2, r2, p2, by omega, q2⟩, fun x H2 hy => ?_⟩
    have hd : ds[i]? = some ds[i] := List.getElem?_eq_getElem hi
    obtain ⟨B2, g, rx⟩ := wk.yl i B' H' x H2 ds[i] hP' rep'.ex rep'.fr hd hy
    have rep2 := rep'.grow g
    rw [List.drop_eq_getElem_cons hi] at post'
    have post' := PostS.mono g.ex post'
    have post' : PostS G F rel B2 (match f ds[i] e' with | some e1 => (match s e1 with | .nx e2 => forL f s (ds.drop (i + 1)) e2 | .ct e2 => forL f s (ds.drop (i + 1)) e2 | .bk e2 => .nx e2 | r => r) | none => .bad) D := post'
    cases hf : f ds[i] e' with
    | none => rw [hf] at post'; exact post'.elim
    | some e3 =>
      rw [hf] at post'
      refine ⟨F, B2, e', ds[i], rep2, rx, e3, hf, fun B4 σ4 H4 x4 r4 => ⟨F, B4, e3, r4, ?_⟩⟩
      have post' := PostS.mono x4 post'
      have x14 : Ex B1 B4 := (ex'.trans g.ex).trans x4
      have pB4 : P B4 := wk.up _ _ (g.ex.trans x4) hP'
      have post' : PostS G F rel B4 (match s e3 with | .nx e2 => forL f s (ds.drop (i + 1)) e2 | .ct e2 => forL f s (ds.drop (i + 1)) e2 | .bk e2 => .nx e2 | r => r) D := post'
      cases hs : s e3 with
      | nx e5 => rw [hs] at post'; exact fun B5 σ5 H5 x5 r5 => ⟨B5, e5, x14.trans x5, r5, wk.up _ _ x5 pB4, PostS.mono x5 post'⟩
      | ct e5 => rw [hs] at post'; exact fun B5 σ5 H5 x5 r5 => ⟨B5, e5, x14.trans x5, r5, wk.up _ _ x5 pB4, PostS.mono x5 post'⟩
      | bk e5 => rw [hs] at post'; exact post'
      | rt d e5 => rw [hs] at post'; exact post'
      | err c e5 => rw [hs] at post'; exact post'
      | bad => rw [hs] at post'; exact post'
  · refine .inl ⟨wk.st i B' H' hP' rep'.ex rep'.fr (by omega), ?_⟩
    have e0 : ds.drop i = [] := List.drop_eq_nil_of_le (by omega)
    rw [e0] at post'
    exact post' B' σ' H' .rfl rep'
theorem ls_for (po : PassesOwn (model X.prog X.w) X.A X.env X.xe) (hc : X.calm = true) (hi : PI X tg iter (tI G it)) (hg : PG X tg (tG G f)) (hb : PSs X body (tS G rel s)) (hs : ∀ x, foldedSetIterable iter X.env x = pure x := by intro _; rfl) :
    PS X (.For tg iter body [] pos) (tS G rel (sFor it f s)) := ps_imp (ps_for po hc hi hg hb hs) fun D σ H h => for_t h
end
def whileN (t : Env → R Bool) (b : S) : Nat → Env → RS
  | 0, _ => .bad
  | n + 1, e => R.toS (t e) fun c e1 => if c = true then (match b e1 with
    | .nx e2 => whileN t b n e2
    | .ct e2 => whileN t b n e2
    | .bk e2 => .nx e2
    | r => r) else .nx e1
def sWhile (n : Nat) (t : Env → R Bool) (b : S) : S := fun e => whileN t b n e
section
variable {X : Cx} {G : Gs} {rel : Rel D V} {c : Expr} {body : List Stmt} {t : Env → R Bool} {s : S} {pos : Pos} {n : Nat}
theorem while_t {D : Ends} {σ : L2.St} {H : Hp} (h : tS G rel (sWhile n t s) D σ H) : tWhile (tT G t) (tS G rel s) D σ H := by
  obtain ⟨F, B, e, rep, post⟩ := h
  refine ⟨fun m σ' H' => ∃ B' e', Rep G F B' σ' H' e' ∧ PostS G F rel B' (whileN t s m e') D, ⟨n, B, e, rep, post⟩, ?_⟩
  rintro m σ' H' ⟨B', e', rep', post'⟩
  cases m with
  | zero => exact post'.elim
  | succ m =>
    refine ⟨F, B', e', rep', Post.weak (PostS.bind post') ?_⟩
    rintro k H2 ⟨B2, e2, k', ex2, rep2, rl, post2⟩
    cases rl
    cases k with
    | false => exact post2 B2 σ' H2 .rfl rep2
    | true =>
      rw [if_pos rfl]
      refine ⟨fun σ3 H3 => ∃ B3 e3, Rep G F B3 σ3 H3 e3 ∧ PostS G F rel B3 (whileN t s m e3) D, fun σ3 H3 ⟨B3, e3, r3, p3⟩ => ⟨m, Nat.lt_succ_self _, B3, e3, r3, p3⟩, F, B2, e2, rep2, ?_⟩
      have post2 : PostS G F rel B2 (match s e2 with | .nx e2 => whileN t s m e2 | .ct e2 => whileN t s m e2 | .bk e2 => .nx e2 | r => r) D := post2
      cases hs : s e2 with
      | nx e5 => rw [hs] at post2; exact fun B5 σ5 H5 x5 r5 => ⟨B5, e5, r5, PostS.mono x5 post2⟩
      | ct e5 => rw [hs] at post2; exact fun B5 σ5 H5 x5 r5 => ⟨B5, e5, r5, PostS.mono x5 post2⟩
      | bk e5 => rw [hs] at post2; exact post2
      | rt d e5 => rw [hs] at post2; exact post2
      | err c e5 => rw [hs] at post2; exact post2
      | bad => rw [hs] at post2; exact post2
theorem ls_while (po : PassesOwn (model X.prog X.w) X.A X.env X.xe) (hc : PT X c (tT G t)) (hb : PSs X body (tS G rel s)) : PS X (.While c body [] pos) (tS G rel (sWhile n t s)) := ps_imp (ps_while po hc hb) fun D σ H h => while_t h
end
end Fl

namespace Fl
open PySem PySem.Spec PyProof.Rows L2

/-! ## comprehensions -/
def wipeE (e : Env) : List Nat → Env
  | [] => e
  | v :: vs => (wipeE e vs).set v none
def restE (e0 e : Env) : List Nat → Env
  | [] => e
  | v :: vs => (restE e0 e vs).set v ((e0[v]?).join)
def lcL (f : D → Env → Option Env) (tt : Env → R Bool) (te : M) (vs : List Nat) : List D → Env → R (List D)
  | [], e => .ok [] e
  | d :: ds, e => match f d e with
    | none => .bad
    | some e1 => R.bind (tt e1) fun c e2 => if c = true then R.bind (te e2) fun x e3 => R.bind (lcL f tt te vs ds (wipeE e3 vs)) fun xs e4 => .ok (x :: xs) e4 else lcL f tt te vs ds (wipeE e2 vs)
def vLc (it : Env → R (List D)) (f : D → Env → Option Env) (tt : Env → R Bool) (te : M) (vs : List Nat) : M := fun e => R.bind (it e) fun ds e1 => if ds.length ≤ 1000000 then (match lcL f tt te vs ds (wipeE e1 vs) with
  | .ok xs e2 => .ok (.lst xs) (restE e1 e2 vs)
  | _ => .bad) else .bad
def tYesD : Env → R Bool := fun e => .ok true e
section
variable {G : Gs} {F : Fm} {B H : Hp} {σ : L2.St} {e : Env}
theorem wipe_get {σ : L2.St} {i : Nat} : ∀ {vs : List Nat}, i ∉ vs → (wipe σ vs)[i]? = σ[i]?
  | [], _ => rfl
  | v :: vs, h => by
    simp only [List.mem_cons, not_or] at h
    unfold wipe
    rw [List.getElem?_set_ne (Ne.symm h.1)]
    exact wipe_get h.2
theorem wipeE_get {e : Env} {i : Nat} : ∀ {vs : List Nat}, i ∉ vs → (wipeE e vs)[i]? = e[i]?
  | [], _ => rfl
  | v :: vs, h => by
    simp only [List.mem_cons, not_or] at h
    unfold wipeE
    rw [List.getElem?_set_ne (Ne.symm h.1)]
    exact wipeE_get h.2
theorem wipeE_mem {e : Env} {i : Nat} {d : D} : ∀ {vs : List Nat}, i ∈ vs → (wipeE e vs)[i]? ≠ some (some d)
  | v :: vs, h, z => by
    unfold wipeE at z
    by_cases q : v = i
    · subst q
      by_cases l : v < (wipeE e vs).length
      · rw [List.getElem?_set_self l] at z; cases z
      · rw [List.getElem?_eq_none (by simpa using l)] at z; cases z
    · rw [List.getElem?_set_ne q] at z
      exact wipeE_mem ((List.mem_cons.mp h).resolve_left (Ne.symm q)) z
theorem wipeE_length (e : Env) : ∀ vs : List Nat, (wipeE e vs).length = e.length
  | [] => rfl
  | v :: vs => by unfold wipeE; rw [List.length_set, wipeE_length e vs]
theorem restE_get {e0 e : Env} {i : Nat} : ∀ {vs : List Nat}, i ∉ vs → (restE e0 e vs)[i]? = e[i]?
  | [], _ => rfl
  | v :: vs, h => by
    simp only [List.mem_cons, not_or] at h
    unfold restE
    rw [List.getElem?_set_ne (Ne.symm h.1)]
    exact restE_get h.2
theorem restE_mem {e0 e : Env} {i : Nat} {d : D} : ∀ {vs : List Nat}, i ∈ vs → (restE e0 e vs)[i]? = some (some d) → e0[i]? = some (some d)
  | v :: vs, h, z => by
    unfold restE at z
    by_cases q : v = i
    · subst q
      by_cases l : v < (restE e0 e vs).length
      · rw [List.getElem?_set_self l] at z
        exact join_some (Option.some.inj z)
      · rw [List.getElem?_eq_none (by simpa using l)] at z; cases z
    · rw [List.getElem?_set_ne q] at z
      exact restE_mem ((List.mem_cons.mp h).resolve_left (Ne.symm q)) z
theorem restE_length (e0 e : Env) : ∀ vs : List Nat, (restE e0 e vs).length = e.length
  | [] => rfl
  | v :: vs => by unfold restE; rw [List.length_set, restE_length e0 e vs]
theorem set_comm' {α : Type} (l : List α) (i j : Nat) (x : α) : (l.set i x).set j x = (l.set j x).set i x := by
  by_cases h : i = j
  · subst h; rfl
  · exact List.set_comm _ _ h
theorem wipe_set {σ : L2.St} {i : Nat} {x : Option V} : ∀ {vs : List Nat}, i ∈ vs → wipe (σ.set i x) vs = wipe σ vs
  | v :: vs, h => by
    unfold wipe
    by_cases hm : i ∈ vs
    · rw [wipe_set hm]
    · have e : i = v := (List.mem_cons.mp h).resolve_right hm
      subst e
      have : ∀ ws : List Nat, i ∉ ws → wipe (σ.set i x) ws = (wipe σ ws).set i x := fun ws => by
        induction ws with
        | nil => intro _; rfl
        | cons w ws ih =>
          intro hw
          simp only [List.mem_cons, not_or] at hw
          unfold wipe
          rw [ih hw.2, List.set_comm _ _ hw.1]
      rw [this vs hm, List.set_set]
theorem wipe_idem (σ : L2.St) : ∀ vs : List Nat, wipe (wipe σ vs) vs = wipe σ vs := fun vs => by
  have : ∀ ws us : List Nat, (∀ w ∈ ws, w ∈ us) → wipe (wipe σ us) ws = wipe σ us := fun ws us => by
    induction ws with
    | nil => intro _; rfl
    | cons w ws ih =>
      intro hw
      unfold wipe
      rw [ih (fun z hz => hw z (List.mem_cons_of_mem _ hz))]
      have hwu := hw w List.mem_cons_self
      have : ∀ us : List Nat, w ∈ us → (wipe σ us).set w none = wipe σ us := fun us => by
        induction us with
        | nil => intro h; cases h
        | cons u us ih2 =>
          intro h
          unfold wipe
          by_cases hu : w = u
          · subst hu; rw [List.set_set]
          · rw [List.set_comm _ _ (Ne.symm hu), ih2 ((List.mem_cons.mp h).resolve_left hu)]
      have z := this us hwu
      cases us <;> exact z
  exact this vs vs fun _ h => h
theorem Rep.wiped (r : Rep G F B σ H e) {vs : List Nat} (hO : ∀ v ∈ vs, G.O v = false) : Rep G F B (L2.wipe σ vs) H (wipeE e vs) where
  ex := r.ex
  fr := r.fr
  b0 := r.b0
  nw := r.nw
  sh := fun i d ho he => by
    by_cases hi : i ∈ vs
    · exact absurd he (wipeE_mem hi)
    · rw [wipeE_get hi] at he
      rw [wipe_get hi]
      exact r.sh i d ho he
  ow := fun i d ho he => by
    have hi : i ∉ vs := fun h => by rw [hO i h] at ho; cases ho
    rw [wipeE_get hi] at he
    rw [wipe_get hi]
    exact r.ow i d ho he
  ne := fun i j d d' p ho hj hij he he' hs => by
    have hi : i ∉ vs := fun h => by rw [hO i h] at ho; cases ho
    have hj' : j ∉ vs := fun h => by rw [hO j h] at hj; cases hj
    rw [wipeE_get hi] at he
    rw [wipeE_get hj'] at he'
    rw [wipe_get hi] at hs
    rw [wipe_get hj']
    exact r.ne i j d d' p ho hj hij he he' hs
  pt := fun i p hp => by
    obtain ⟨h0, h1, h2⟩ := r.pt i p hp
    have hi : i ∉ vs := fun h => by rw [hO i h] at h1; cases h1
    rw [wipe_get hi]
    exact ⟨h0, h1, h2⟩
  len := by rw [wipeE_length, wipe_length, r.len]
/-- behind the comprehension: its own slots as they were -/
theorem Rep.unwiped {B1 H1 : Hp} {e1 : Env} (r0 : Rep G F B1 σ H1 e1) {vs : List Nat} (hO : ∀ v ∈ vs, G.O v = false) (ex : Ex B1 B) (r : Rep G F B (L2.wipe σ vs) H e) : Rep G F B σ H (restE e1 e vs) where
  ex := r.ex
  fr := r.fr
  b0 := r.b0
  nw := r.nw
  sh := fun i d ho he => by
    by_cases hi : i ∈ vs
    · obtain ⟨v, h1, h2⟩ := r0.sh i d ho (restE_mem hi he)
      exact ⟨v, h1, Rp.mono ex _ _ h2⟩
    · rw [restE_get hi] at he
      have z := r.sh i d ho he
      rw [wipe_get hi] at z
      exact z
  ow := fun i d ho he => by
    have hi : i ∉ vs := fun h => by rw [hO i h] at ho; cases ho
    rw [restE_get hi] at he
    have z := r.ow i d ho he
    rw [wipe_get hi] at z
    exact z
  ne := fun i j d d' p ho hj hij he he' hs => by
    have hi : i ∉ vs := fun h => by rw [hO i h] at ho; cases ho
    have hj' : j ∉ vs := fun h => by rw [hO j h] at hj; cases hj
    rw [restE_get hi] at he
    rw [restE_get hj'] at he'
    have z := r.ne i j d d' p ho hj hij he he'
    rw [wipe_get hi, wipe_get hj'] at z
    exact z hs
  pt := fun i p hp => by
    obtain ⟨h0, h1, h2⟩ := r.pt i p hp
    have hi : i ∉ vs := fun h => by rw [hO i h] at h1; cases h1
    rw [wipe_get hi] at h2
    exact ⟨h0, h1, h2⟩
  len := by rw [restE_length, r.len, wipe_length]
theorem Rep.nox (r : Rep G F B σ H e) : Rep G.nox F B σ H e := ⟨r.ex, r.fr, r.b0, r.nw, r.sh, r.ow, r.ne, r.pt, r.len⟩
theorem Rep.unnox (r : Rep G.nox F B σ H e) : Rep G F B σ H e := ⟨r.ex, r.fr, r.b0, r.nw, r.sh, r.ow, r.ne, r.pt, r.len⟩
/-- a thing that is nobody's changes -/
theorem Rep.other {p : Addr} {o : HO} (r : Rep G F B σ H e) (hB : B p = none) (h0 : F.H0 p = none) (hn : ∀ i d', G.O i = true → e[i]? = some (some d') → σ[i]? ≠ some (some (.ref p))) : Rep G F B σ (upd H p o) e where
  ex := r.ex.upd hB
  fr := r.fr.upd h0
  b0 := r.b0
  nw := r.nw
  sh := r.sh
  ow := fun i d ho he => by
    obtain ⟨p', o', a1, a2, a3, a4, a5⟩ := r.ow i d ho he
    refine ⟨p', o', a1, a2, a3, ?_, a5⟩
    rw [upd_ne (by rintro rfl; exact hn i d ho he a1)]; exact a4
  ne := r.ne
  pt := r.pt
  len := r.len
/-- a new thing at p is put into the frame -/
theorem Rep.pin {p : Addr} {o : HO} (r : Rep G F B σ H e) (hB : B p = none) (h0 : F.H0 p = none) (hH : H p = some o) (hn : ∀ i d', G.O i = true → e[i]? = some (some d') → σ[i]? ≠ some (some (.ref p))) : Rep G { F with H0 := upd F.H0 p o } B σ H e where
  ex := r.ex
  fr := fun q u hq => by
    by_cases z : q = p
    · subst z
      have hq : upd F.H0 q o q = some u := hq
      rw [upd_same] at hq
      rw [hH]; exact hq
    · have hq : upd F.H0 p o q = some u := hq
      rw [upd_ne z] at hq
      exact r.fr q u hq
  b0 := r.b0
  nw := fun q u hq => by
    rcases r.nw q u hq with z | z | z
    · exact .inl z
    · refine .inr (.inl ?_)
      show upd F.H0 p o q = none
      rw [upd_ne (by rintro rfl; rw [hB] at hq; cases hq)]; exact z
    · exact .inr (.inr z)
  sh := r.sh
  ow := fun i d ho he => by
    obtain ⟨p', o', a1, a2, a3, a4, a5⟩ := r.ow i d ho he
    refine ⟨p', o', a1, a2, ?_, a4, a5⟩
    show upd F.H0 p o p' = none
    rw [upd_ne (by rintro rfl; exact hn i d ho he a1)]; exact a3
  ne := r.ne
  pt := r.pt
  len := r.len
/-- .. and taken out again -/
theorem Rep.unpin {p : Addr} {o : HO} (nt : ∀ xs, o ≠ .tup xs) (h0 : F.H0 p = none) (hb : F.B0 p = none) (r : Rep G { F with H0 := upd F.H0 p o } B σ H e) : Rep G F B σ H e ∧ B p = none ∧ H p = some o ∧ ∀ i d', G.O i = true → e[i]? = some (some d') → σ[i]? ≠ some (some (.ref p)) := by
  have key : ∀ q, upd F.H0 p o q = none → F.H0 q = none := fun q z => by
    by_cases hq' : q = p
    · subst hq'; exact h0
    · rw [upd_ne hq'] at z; exact z
  refine ⟨⟨r.ex, fun q u hq => r.fr q u (by
      show upd F.H0 p o q = some u
      rw [upd_ne (by rintro rfl; rw [h0] at hq; cases hq)]; exact hq), r.b0, fun q u hq => (r.nw q u hq).elim .inl fun z => z.elim (fun z => .inr (.inl (key q z))) fun z => .inr (.inr z), r.sh, fun i d ho he => ?_, r.ne, r.pt, r.len⟩, ?_, r.fr p o (by show upd F.H0 p o p = some o; exact upd_same), fun i d' ho he hs => ?_⟩
  · obtain ⟨p', o', a1, a2, a3, a4, a5⟩ := r.ow i d ho he
    refine ⟨p', o', a1, a2, ?_, a4, a5⟩
    have z : upd F.H0 p o p' = none := a3
    by_cases hq' : p' = p
    · subst hq'; exact h0
    · rw [upd_ne hq'] at z; exact z
  · cases q : B p with
    | none => rfl
    | some u =>
      rcases r.nw p u q with z | z | ⟨xs, z⟩
      · have z : F.B0 p = some u := z
        rw [hb] at z; cases z
      · have z : upd F.H0 p o p = none := z
        rw [upd_same] at z; cases z
      · have h1 := r.ex _ _ q
        have h2 := r.fr p o (by show upd F.H0 p o p = some o; exact upd_same)
        rw [h1] at h2
        cases h2
        exact (nt xs z).elim
  · obtain ⟨p', o', a1, a2, a3, a4, a5⟩ := r.ow i d' ho he
    rw [hs] at a1
    cases a1
    have z : upd F.H0 p o p = none := a3
    rw [upd_same] at z; cases z
end
/-- a comprehension's target: only its own slots -/
def TgOk (G : Gs) (vs : List Nat) (g : TG) (f : D → Env → Option Env) : Prop := ∀ (v : V) (σ : L2.St) (H : Hp) (Q : L2.St → Hp → Prop) (F : Fm) (B : Hp) (e e' : Env) (d : D), Rep G F B σ H e → Rp G.T B d v → f d e = some e' →
  (∀ σ', Rep G F B σ' H e' → L2.wipe σ' vs = L2.wipe σ vs → Q σ' H) → g v σ H Q
section
variable {G : Gs} {K : PySem.W.Frag}
theorem tg_name {vs : List Nat} {i : Nat} (hi : i ∈ vs) (ho : G.O i = false) : TgOk G vs (gName i) (gN i) := fun v σ H Q F B e e' d r rp hf k => by
  cases hf
  exact k _ (r.set ho rp) (wipe_set hi)
theorem tg_tup2 {vs : List Nat} {i j : Nat} (hi : i ∈ vs) (hj : j ∈ vs) (ho : G.O i = false) (ho2 : G.O j = false) : TgOk G vs (gTup K 2 (gCons (gName i) (gCons (gName j) gNil))) (gT2 i j) := fun v σ H Q F B e e' d r rp hf k => by
  unfold gT2 at hf
  split at hf
  · cases hf
    simp only [Rp] at rp
    obtain ⟨a, xs, rfl, h1, h2⟩ := rp
    obtain ⟨u, w, rfl, r1, r2⟩ := rpl2 (by simpa only [RpL] using h2)
    exact ⟨a, _, rfl, sqt_of r.ex h1, rfl, u, [w], rfl, w, [], rfl, rfl, k _ ((r.set ho r1).set ho2 r2) (by rw [wipe_set hj, wipe_set hi])⟩
  · cases hf
theorem tg_tup3 {vs : List Nat} {i j l : Nat} (hi : i ∈ vs) (hj : j ∈ vs) (hl : l ∈ vs) (ho : G.O i = false) (ho2 : G.O j = false) (ho3 : G.O l = false) : TgOk G vs (gTup K 3 (gCons (gName i) (gCons (gName j) (gCons (gName l) gNil)))) (gT3 i j l) := fun v σ H Q F B e e' d r rp hf k => by
  unfold gT3 at hf
  split at hf
  · cases hf
    simp only [Rp] at rp
    obtain ⟨a, xs, rfl, h1, h2⟩ := rp
    obtain ⟨u, w, s', rfl, r1, r2, r3⟩ := rpl3 (by simpa only [RpL] using h2)
    exact ⟨a, _, rfl, sqt_of r.ex h1, rfl, u, [w, s'], rfl, w, [s'], rfl, s', [], rfl, rfl, k _ (((r.set ho r1).set ho2 r2).set ho3 r3) (by rw [wipe_set hl, wipe_set hj, wipe_set hi])⟩
  · cases hf
end
section
variable {X : Cx} {G : Gs} {it : Env → R (List D)} {f : D → Env → Option Env} {tt : Env → R Bool} {te : M} {vs : List Nat} {g : TG}
theorem lc_core {σ : L2.St} {H1 : Hp} {Q : VK} {J : It} {F : Fm} {B1 : Hp} {e1 eEnd : Env} {ds full : List D} {P : Hp → Prop} (hO : ∀ v ∈ vs, G.O v = false) (hg : TgOk G.nox vs g f) (rep1 : Rep G F B1 σ H1 e1) (hP : P B1) (wk : Wk G.T F.H0 J ds P)
    (hl : ds.length ≤ 1000000) (hq : lcL f tt te vs ds (wipeE e1 vs) = .ok full eEnd) (D : Addr) (hD : H1 D = none) (post1 : Post G F B1 σ (relF G) (.ok (.lst full) (restE e1 eEnd vs)) Q) :
    ∃ W : Nat → Nat → Hp → Prop, (∃ m, W 0 m (upd H1 D (.lst []))) ∧ ∀ i m H, W i m H → (J.stop i H ∧ Q (.ref D) H) ∨ (J.go i H ∧ ∃ Nx : Hp → Prop, (∀ H', Nx H' → ∃ m', m' < m ∧ W (i + 1) m' H') ∧ ∀ x H', J.yld i H x H' → g x (L2.wipe σ vs) H' fun σ2 H2 => L2.wipe σ2 vs = L2.wipe σ vs ∧ tT G.nox tt σ2 H2 fun b H3 =>
      if b = true then tE G.nox te σ2 H3 fun y H4 => ∃ acc, H4 D = some (.lst acc) ∧ acc.length < sizeLine ∧ Nx (upd H4 D (.lst (acc ++ [y]))) else Nx H3) := by
  have hB1 : B1 D = none := rep1.ex.none hD
  have h0 : F.H0 D = none := rep1.fr.none hD
  have hb0 : F.B0 D = none := rep1.b0.none hB1
  refine ⟨fun i m H' => ∃ B' e' acc xs, Ex B1 B' ∧ Rep G F B' (L2.wipe σ vs) H' e' ∧ P B' ∧ i + m = ds.length ∧ B' D = none ∧ H' D = some (.lst xs) ∧ RpL G.T B' acc xs ∧
    (∀ j d', G.O j = true → e'[j]? = some (some d') → (L2.wipe σ vs)[j]? ≠ some (some (.ref D))) ∧ acc.length ≤ i ∧ ∃ rest, lcL f tt te vs (ds.drop i) e' = .ok rest eEnd ∧ full = acc ++ rest, ?_, ?_⟩
  · refine ⟨ds.length, B1, wipeE e1 vs, [], [], .rfl, ?_, hP, by omega, hB1, upd_same, .nil, ?_, Nat.zero_le _, full, by simpa using hq, rfl⟩
    · exact (rep1.wiped hO).grow (Grow.heap rep1.ex (.new hD))
    · intro j d' hj he hs
      obtain ⟨p', o', a1, a2, a3, a4, _⟩ := (rep1.wiped hO).ow j d' hj he
      rw [hs] at a1
      cases a1
      rw [hD] at a4; cases a4
  · rintro i m H' ⟨B', e', acc, xs, exB, rep', hP', him, hBD, hHD, hacc, hnD, hal, rest, hrest, hfull⟩
    by_cases hi : i < ds.length
    · refine .inr ⟨wk.go i B' H' hP' rep'.ex rep'.fr hi, fun H2 => ∃ B' e' acc xs, Ex B1 B' ∧ Rep G F B' (L2.wipe σ vs) H2 e' ∧ P B' ∧ B' D = none ∧ H2 D = some (.lst xs) ∧ RpL G.T B' acc xs ∧
        (∀ j d', G.O j = true → e'[j]? = some (some d') → (L2.wipe σ vs)[j]? ≠ some (some (.ref D))) ∧ acc.length ≤ i + 1 ∧ ∃ rest, lcL f tt te vs (ds.drop (i + 1)) e' = .ok rest eEnd ∧ full = acc ++ rest, ?_, ?_⟩
      · rintro H2 ⟨B2, e2, acc2, xs2, k1, k2, k3, k4, k5, k6, k7, k8, k9⟩
        exact ⟨m - 1, by omega, B2, e2, acc2, xs2, k1, k2, k3, by omega, k4, k5, k6, k7, k8, k9⟩
      · intro x H2 hy
        have hd : ds[i]? = some ds[i] := List.getElem?_eq_getElem hi
        obtain ⟨B2, gr, rx⟩ := wk.yl i B' H' x H2 ds[i] hP' rep'.ex rep'.fr hd hy
        have rep2 := rep'.grow gr
        have hHD2 : H2 D = some (.lst xs) := gr.exH _ _ hHD
        have hBD2 : B2 D = none := by
          cases q : B2 D with
          | none => rfl
          | some u =>
            rcases gr.nw D u q with z | z | ⟨xs, z1, z2⟩
            · rw [hBD] at z; cases z
            · rw [hHD] at z; cases z
            · rw [hHD] at z2; cases z2; cases z1
        rw [List.drop_eq_getElem_cons hi] at hrest
        have hrest : (match f ds[i] e' with
          | none => R.bad
          | some e1 => R.bind (tt e1) fun c e2 => if c = true then R.bind (te e2) fun x e3 => R.bind (lcL f tt te vs (ds.drop (i + 1)) (wipeE e3 vs)) fun xs e4 => .ok (x :: xs) e4 else lcL f tt te vs (ds.drop (i + 1)) (wipeE e2 vs)) = .ok rest eEnd := hrest
        cases hf : f ds[i] e' with
        | none => rw [hf] at hrest; cases hrest
        | some e3 =>
          rw [hf] at hrest
          have hrest : R.bind (tt e3) (fun c e2 => if c = true then R.bind (te e2) fun x e3 => R.bind (lcL f tt te vs (ds.drop (i + 1)) (wipeE e3 vs)) fun xs e4 => .ok (x :: xs) e4 else lcL f tt te vs (ds.drop (i + 1)) (wipeE e2 vs)) = .ok rest eEnd := hrest
          have repN := (rep2.pin hBD2 h0 hHD2 hnD).nox
          refine hg x (L2.wipe σ vs) H2 _ _ B2 e' e3 ds[i] repN rx hf fun σ2 r2 hw => ?_
          have hw' : L2.wipe σ2 vs = L2.wipe σ vs := by rw [hw, wipe_idem]
          refine ⟨hw', _, B2, e3, r2, ?_⟩
          have xB2 : Ex B1 B2 := exB.trans gr.ex
          cases htt : tt e3 with
          | err c e' => rw [htt] at hrest; cases hrest
          | bad => rw [htt] at hrest; cases hrest
          | ok c e4 =>
            rw [htt] at hrest
            rintro c' B4 H4 x4 r4 rfl
            have hrest : (if c' = true then R.bind (te e4) fun x e3 => R.bind (lcL f tt te vs (ds.drop (i + 1)) (wipeE e3 vs)) fun xs e4 => .ok (x :: xs) e4 else lcL f tt te vs (ds.drop (i + 1)) (wipeE e4 vs)) = .ok rest eEnd := hrest
            cases c' with
            | false =>
              rw [if_neg Bool.false_ne_true] at hrest ⊢
              obtain ⟨u1, u2, u3, u4⟩ := Rep.unpin (F := F) (by intro _ z; cases z) h0 hb0 r4.unnox
              have rw4 := u1.wiped hO
              rw [hw'] at rw4
              refine ⟨B4, wipeE e4 vs, acc, xs, xB2.trans x4, rw4, wk.up _ _ (gr.ex.trans x4) hP', u2, u3, RpL.mono (gr.ex.trans x4) _ _ hacc, fun j d' hj he hs => ?_, by omega, rest, hrest, hfull⟩
              have hjv : j ∉ vs := fun z => by rw [hO j z] at hj; cases hj
              rw [wipeE_get hjv] at he
              refine u4 j d' hj he ?_
              rw [← wipe_get (σ := σ2) hjv, hw']; exact hs
            | true =>
              rw [if_pos rfl] at hrest ⊢
              refine ⟨_, B4, e4, r4, ?_⟩
              cases hte : te e4 with
              | err c e' => rw [hte] at hrest; cases hrest
              | bad => rw [hte] at hrest; cases hrest
              | ok dx e5 =>
                rw [hte] at hrest
                have hrest : R.bind (lcL f tt te vs (ds.drop (i + 1)) (wipeE e5 vs)) (fun xs e4 => .ok (dx :: xs) e4) = .ok rest eEnd := hrest
                rintro y B5 H5 x5 r5 ry
                have ry : Rp G.T B5 dx y := ry
                obtain ⟨u1, u2, u3, u4⟩ := Rep.unpin (F := F) (by intro _ z; cases z) h0 hb0 r5.unnox
                have hxl : xs.length = acc.length := hacc.length
                refine ⟨xs, u3, ?_, ?_⟩
                · rw [hxl, sizeLine_eq]; omega
                have rw5 := (u1.other (o := .lst (xs ++ [y])) u2 h0 u4).wiped hO
                rw [hw'] at rw5
                have xx : Ex B' B5 := (gr.ex.trans x4).trans x5
                cases hrec : lcL f tt te vs (ds.drop (i + 1)) (wipeE e5 vs) with
                | err c e' => rw [hrec] at hrest; cases hrest
                | bad => rw [hrec] at hrest; cases hrest
                | ok rest2 e6 =>
                  rw [hrec] at hrest
                  have hrest : R.ok (dx :: rest2) e6 = .ok rest eEnd := hrest
                  cases hrest
                  refine ⟨B5, wipeE e5 vs, acc ++ [dx], xs ++ [y], (xB2.trans x4).trans x5, rw5, wk.up _ _ xx hP', u2, upd_same, (RpL.mono xx _ _ hacc).append (.one ry), fun j d' hj he hs => ?_, by rw [List.length_append, List.length_singleton]; omega, rest2, hrec, by rw [hfull]; simp⟩
                  have hjv : j ∉ vs := fun z => by rw [hO j z] at hj; cases hj
                  rw [wipeE_get hjv] at he
                  refine u4 j d' hj he ?_
                  rw [← wipe_get (σ := σ2) hjv, hw']; exact hs
    · have e0 : ds.drop i = [] := List.drop_eq_nil_of_le (by omega)
      rw [e0] at hrest
      have hrest : R.ok [] e' = R.ok rest eEnd := hrest
      cases hrest
      rw [List.append_nil] at hfull
      subst hfull
      refine .inl ⟨wk.st i B' H' hP' rep'.ex rep'.fr (by omega), ?_⟩
      have repE := rep1.unwiped hO exB rep'
      refine post1 (.ref D) B' H' exB repE ⟨D, .lst xs, rfl, hBD, h0, hHD, by simp only [At]; exact ⟨xs, rfl, hacc⟩, fun j d' hj he hs => ?_⟩
      have hjv : j ∉ vs := fun z => by rw [hO j z] at hj; cases hj
      rw [restE_get hjv] at he
      exact hnD j d' hj he (by rw [wipe_get hjv]; exact hs)
theorem lc_t {σ : L2.St} {H : Hp} {Q : VK} (hO : ∀ v ∈ vs, G.O v = false) (hg : TgOk G.nox vs g f) (h : tF G (vLc it f tt te vs) σ H Q) : tLc (tI G it) g (tT G.nox tt) (tE G.nox te) vs σ H Q := by
  obtain ⟨F, B, e, rep, post⟩ := h
  refine ⟨F, B, e, rep, Post.weak (Post.bind post) ?_⟩
  rintro J H1 ⟨B1, e1, ds, ex1, rep1, ⟨P, hP, wk⟩, post1⟩
  intro D hD
  by_cases hl : ds.length ≤ 1000000
  · rw [if_pos hl] at post1
    cases hq : lcL f tt te vs ds (wipeE e1 vs) with
    | err c e' => rw [hq] at post1; exact post1.elim
    | bad => rw [hq] at post1; exact post1.elim
    | ok full eEnd =>
      rw [hq] at post1
      exact lc_core hO hg rep1 hP wk hl hq D hD post1
  · rw [if_neg hl] at post1; exact post1.elim
end
end Fl

namespace Fl
open PySem PySem.Spec PyProof.Rows L2

section
variable {X : Cx} {G : Gs} {it : Env → R (List D)} {f : D → Env → Option Env} {tt : Env → R Bool} {te : M} {g : TG} {elt tg iter : Expr} {ifs : List Expr} {scope : Scope} {own : List (Str × Nat)} {pos spos py : Pos} {rel : Rel D V}
theorem lts_nil {Y : Cx} : PTs Y [] (tT G.nox tYesD) := ⟨fun pins s σ H Q I h => by
  obtain ⟨F, B, e, rep, post⟩ := h
  exact pts_nil.run pins s σ H Q I (post true B H .rfl rep rfl)⟩
theorem lf_lc (hc : X.calm = true) (hN : X.N.Nodup) (hi : PI X tg iter (tI G it)) (ok : BlkOk X.N X.env.scope scope own) (hO : ∀ v ∈ own.map (·.2), G.O v = false) (tgo : TgOk G.nox (own.map (·.2)) g f)
    (hg : ∀ (s : Shared) (H : Hp) (C : Addr) (cl : List (Str × Addr)) (fp : List Addr), PG (X.blk s H scope (compEnvC scope cl C X.env) fp) tg g) (ht : ∀ (s : Shared) (H : Hp) (C : Addr) (cl : List (Str × Addr)) (fp : List Addr), PTs (X.blk s H scope (compEnvC scope cl C X.env) fp) ifs (tT G.nox tt))
    (he : ∀ (s : Shared) (H : Hp) (C : Addr) (cl : List (Str × Addr)) (fp : List Addr), PE (X.blk s H scope (compEnvC scope cl C X.env) fp) elt (tE G.nox te)) (hs : ∀ x, foldedSetIterable iter X.env x = pure x := by intro _; rfl) :
    PE X (.ListComp elt [⟨tg, iter, ifs, 0⟩] scope pos) (tF G (vLc it f tt te (own.map (·.2)))) := pe_imp (pe_lc hc hN hi ok hg ht he hs) fun σ H Q h => lc_t hO tgo h
theorem ls_setLc {i : Nat} {y : Str} (hc : X.calm = true) (hN : X.N.Nodup) (hy : X.N[i]? = some y) (hyl : X.env.scope.names.lookup y = some .local) (hsw : swapsWith (.ListComp elt [⟨tg, iter, ifs, 0⟩] scope pos) (some (.Name y py)) spos.line X.env = pure true) (ho : G.O i = false)
    (hi : PI X tg iter (tI G it)) (ok : BlkOk X.N X.env.scope scope own) (hO : ∀ v ∈ own.map (·.2), G.O v = false) (tgo : TgOk G.nox (own.map (·.2)) g f)
    (hg : ∀ (s : Shared) (H : Hp) (C : Addr) (cl : List (Str × Addr)) (fp : List Addr), PG (X.blk s H scope (compEnvC scope cl C X.env) fp) tg g) (ht : ∀ (s : Shared) (H : Hp) (C : Addr) (cl : List (Str × Addr)) (fp : List Addr), PTs (X.blk s H scope (compEnvC scope cl C X.env) fp) ifs (tT G.nox tt))
    (he : ∀ (s : Shared) (H : Hp) (C : Addr) (cl : List (Str × Addr)) (fp : List Addr), PE (X.blk s H scope (compEnvC scope cl C X.env) fp) elt (tE G.nox te)) (hs : ∀ x, foldedSetIterable iter X.env x = pure x := by intro _; rfl) :
    PS X (.Assign [.Name y py] (.ListComp elt [⟨tg, iter, ifs, 0⟩] scope pos) spos) (tS G rel (sSet i (vLc it f tt te (own.map (·.2))))) := ps_imp (ps_setLc hc hN hy hyl hsw hi ok hg ht he hs) fun D σ H h =>
  lc_t hO tgo (tF_tE (set_t ho h))
theorem ls_setLcO {i : Nat} {y : Str} (hc : X.calm = true) (hN : X.N.Nodup) (hy : X.N[i]? = some y) (hyl : X.env.scope.names.lookup y = some .local) (hsw : swapsWith (.ListComp elt [⟨tg, iter, ifs, 0⟩] scope pos) (some (.Name y py)) spos.line X.env = pure true) (ho : G.O i = true) (hio : i ≠ 0)
    (hi : PI X tg iter (tI G it)) (ok : BlkOk X.N X.env.scope scope own) (hO : ∀ v ∈ own.map (·.2), G.O v = false) (tgo : TgOk G.nox (own.map (·.2)) g f)
    (hg : ∀ (s : Shared) (H : Hp) (C : Addr) (cl : List (Str × Addr)) (fp : List Addr), PG (X.blk s H scope (compEnvC scope cl C X.env) fp) tg g) (ht : ∀ (s : Shared) (H : Hp) (C : Addr) (cl : List (Str × Addr)) (fp : List Addr), PTs (X.blk s H scope (compEnvC scope cl C X.env) fp) ifs (tT G.nox tt))
    (he : ∀ (s : Shared) (H : Hp) (C : Addr) (cl : List (Str × Addr)) (fp : List Addr), PE (X.blk s H scope (compEnvC scope cl C X.env) fp) elt (tE G.nox te)) (hs : ∀ x, foldedSetIterable iter X.env x = pure x := by intro _; rfl) :
    PS X (.Assign [.Name y py] (.ListComp elt [⟨tg, iter, ifs, 0⟩] scope pos) spos) (tS G rel (sSet i (vLc it f tt te (own.map (·.2))))) := ps_imp (ps_setLc hc hN hy hyl hsw hi ok hg ht he hs) fun D σ H h =>
  lc_t hO tgo (setO_t ho hio h)
end

/-! ## several values at once, some of them new things of one's own -/
def evX : List (Bool × M) → Env → R (List D)
  | [], e => .ok [] e
  | (_, m) :: ms, e => R.bind (m e) fun d e1 => R.bind (evX ms e1) fun ds e2 => .ok (d :: ds) e2
inductive Pins : Fm → Fm → Prop where
  | refl (F : Fm) : Pins F F
  | pin {F F' : Fm} {p : Addr} {o : HO} (nt : ∀ xs, o ≠ .tup xs) (h0 : F.H0 p = none) (hb : F.B0 p = none) (h : Pins { F with H0 := upd F.H0 p o } F') : Pins F F'
theorem Rep.unpins {G : Gs} {B H : Hp} {σ : L2.St} {e : Env} {F F' : Fm} (h : Pins F F') : Rep G F' B σ H e → Rep G F B σ H e := by
  induction h with
  | refl F => exact id
  | pin nt h0 hb _ ih => exact fun r => (Rep.unpin nt h0 hb (ih r)).1
/-- the values vs for the kinds ks (true: new), from the frame F to F', where the new ones are pinned -/
def RelX (T : Tb) (B : Hp) : Fm → List (Bool × M) → List D → List V → Fm → Prop
  | F, [], ds, vs, F' => ds = [] ∧ vs = [] ∧ F' = F
  | F, (false, _) :: ks, ds, vs, F' => ∃ d dr v vr, ds = d :: dr ∧ vs = v :: vr ∧ Rp T B d v ∧ RelX T B F ks dr vr F'
  | F, (true, _) :: ks, ds, vs, F' => ∃ d dr p o vr, ds = d :: dr ∧ vs = .ref p :: vr ∧ F.H0 p = none ∧ F.B0 p = none ∧ At T B o d ∧ RelX T B { F with H0 := upd F.H0 p o } ks dr vr F'
theorem RelX.pins {T : Tb} {B : Hp} : ∀ {ks : List (Bool × M)} {F F' : Fm} {ds : List D} {vs : List V}, RelX T B F ks ds vs F' → Pins F F'
  | [], _, _, _, _, h => by
    obtain ⟨_, _, rfl⟩ := h
    exact .refl _
  | (false, _) :: ks, _, _, _, _, h => by
    obtain ⟨_, _, _, _, _, _, _, h⟩ := h
    exact RelX.pins h
  | (true, _) :: ks, _, _, _, _, h => by
    obtain ⟨_, _, _, _, _, _, _, h1, h2, h3, h⟩ := h
    exact .pin h3.nt h1 h2 (RelX.pins h)
theorem RelX.length {T : Tb} {B : Hp} : ∀ {ks : List (Bool × M)} {F F' : Fm} {ds : List D} {vs : List V}, RelX T B F ks ds vs F' → vs.length = ks.length
  | [], _, _, _, _, h => by
    obtain ⟨_, rfl, _⟩ := h
    rfl
  | (false, _) :: ks, _, _, _, _, h => by
    obtain ⟨_, _, _, _, _, rfl, _, h⟩ := h
    simp only [List.length_cons, RelX.length h]
  | (true, _) :: ks, _, _, _, _, h => by
    obtain ⟨_, _, _, _, _, _, rfl, _, _, _, h⟩ := h
    simp only [List.length_cons, RelX.length h]
def PostX (G : Gs) (F : Fm) (B : Hp) (σ : L2.St) (ks : List (Bool × M)) (r : R (List D)) (Q : List V → Hp → Prop) : Prop := match r with
  | .ok ds e => ∀ vs B' H' F', Ex B B' → RelX G.T B' F ks ds vs F' → Rep G F' B' σ H' e → Q vs H'
  | .err c e => ∀ B' H', Ex B B' → Rep G F B' σ H' e → G.W (G.xc c) none σ H'
  | .bad => False
def tX (G : Gs) (ks : List (Bool × M)) : TA := fun σ H Q => ∃ F B e, Rep G F B σ H e ∧ PostX G F B σ ks (evX ks e) Q
section
variable {X : Cx} {G : Gs} {a : Expr} {m : M} {es : List Expr} {ks : List (Bool × M)}
theorem lx_nil : PA X [] (tX G []) := pa_imp pa_nil fun σ H Q h => by
  obtain ⟨F, B, env, rep, post⟩ := h
  exact post [] B H F .rfl ⟨rfl, rfl, rfl⟩ rep
theorem lx_val (ha : PE X a (tE G m)) (hr : PA X es (tX G ks)) (hs : starEach (a :: es) X.env = (false, eval a X.env) :: starEach es X.env := by rfl) : PA X (a :: es) (tX G ((false, m) :: ks)) := pa_imp (pa_cons ha hr hs) fun σ H Q h => by
  obtain ⟨F, B, e, rep, post⟩ := h
  have post : PostX G F B σ ((false, m) :: ks) (R.bind (m e) fun d e1 => R.bind (evX ks e1) fun ds e2 => .ok (d :: ds) e2) Q := post
  refine ⟨F, B, e, rep, ?_⟩
  cases hm : m e with
  | bad => rw [hm] at post; exact post
  | err c e1 => rw [hm] at post; exact post
  | ok d e1 =>
    rw [hm] at post
    intro v B1 H1 ex1 rep1 rl1
    refine ⟨F, B1, e1, rep1, ?_⟩
    have post : PostX G F B σ ((false, m) :: ks) (R.bind (evX ks e1) fun ds e2 => .ok (d :: ds) e2) Q := post
    cases hk : evX ks e1 with
    | bad => rw [hk] at post; exact post
    | err c e2 => rw [hk] at post; exact fun B2 H2 x2 r2 => post B2 H2 (ex1.trans x2) r2
    | ok ds e2 =>
      rw [hk] at post
      exact fun vs B2 H2 F' x2 rl2 r2 => post (v :: vs) B2 H2 F' (ex1.trans x2) ⟨d, ds, v, vs, rfl, rfl, Rp.mono x2 _ _ rl1, rl2⟩ r2
theorem lx_new (ha : PE X a (tF G m)) (hr : PA X es (tX G ks)) (hs : starEach (a :: es) X.env = (false, eval a X.env) :: starEach es X.env := by rfl) : PA X (a :: es) (tX G ((true, m) :: ks)) := pa_imp (pa_cons ha hr hs) fun σ H Q h => by
  obtain ⟨F, B, e, rep, post⟩ := h
  have post : PostX G F B σ ((true, m) :: ks) (R.bind (m e) fun d e1 => R.bind (evX ks e1) fun ds e2 => .ok (d :: ds) e2) Q := post
  refine ⟨F, B, e, rep, ?_⟩
  cases hm : m e with
  | bad => rw [hm] at post; exact post
  | err c e1 => rw [hm] at post; exact post
  | ok d e1 =>
    rw [hm] at post
    rintro v B1 H1 ex1 rep1 ⟨p, o, rfl, h1, h2, h3, h4, h5⟩
    have hb0 : F.B0 p = none := rep1.b0.none h1
    refine ⟨{ F with H0 := upd F.H0 p o }, B1, e1, rep1.pin h1 h2 h3 h5, ?_⟩
    have post : PostX G F B σ ((true, m) :: ks) (R.bind (evX ks e1) fun ds e2 => .ok (d :: ds) e2) Q := post
    cases hk : evX ks e1 with
    | bad => rw [hk] at post; exact post
    | err c e2 => rw [hk] at post; exact fun B2 H2 x2 r2 => post B2 H2 (ex1.trans x2) (Rep.unpin h4.nt h2 hb0 r2).1
    | ok ds e2 =>
      rw [hk] at post
      exact fun vs B2 H2 F' x2 rl2 r2 => post (.ref p :: vs) B2 H2 F' (ex1.trans x2) ⟨d, ds, p, o, vs, rfl, rfl, h2, hb0, h4.mono x2, rl2⟩ r2
end
def setsV (σ : L2.St) : List Nat → List V → L2.St
  | i :: is, v :: vs => (setsV σ is vs).set i (some v)
  | _, _ => σ
def setsE (e : Env) : List Nat → List D → Env
  | i :: is, d :: ds => (setsE e is ds).set i (some d)
  | _, _ => e
def slotsOk (O : Nat → Bool) : List Nat → List (Bool × M) → Prop
  | [], [] => True
  | i :: is, (k, _) :: ks => O i = k ∧ (k = true → i ≠ 0) ∧ slotsOk O is ks
  | _, _ => False
theorem sets_rep {G : Gs} {B H : Hp} {σ : L2.St} {e : Env} {F' : Fm} : ∀ {ks : List (Bool × M)} {is : List Nat} {F : Fm} {ds : List D} {vs : List V}, slotsOk G.O is ks → RelX G.T B F ks ds vs F' → Rep G F' B σ H e → Rep G F B (setsV σ is vs) H (setsE e is ds)
  | [], [], F, ds, vs, _, h, r => by
    obtain ⟨rfl, rfl, rfl⟩ := h
    exact r
  | (false, _) :: ks, i :: is, F, ds, vs, hs, h, r => by
    obtain ⟨d, dr, v, vr, rfl, rfl, h1, h2⟩ := h
    exact (sets_rep hs.2.2 h2 r).set hs.1 h1
  | (true, _) :: ks, i :: is, F, ds, vs, hs, h, r => by
    obtain ⟨d, dr, p, o, vr, rfl, rfl, h1, h2, h3, h4⟩ := h
    obtain ⟨u1, u2, u3, u4⟩ := Rep.unpin h3.nt h1 h2 (sets_rep hs.2.2 h4 r)
    exact u1.take hs.1 (hs.2.1 rfl) u2 h1 u3 h3 u4
def sPar (is : List Nat) (ks : List (Bool × M)) : S := fun e => R.toS (evX ks e) fun ds e1 => .nx (setsE e1 is ds)
section
variable {X : Cx} {G : Gs} {rel : Rel D V} {ks : List (Bool × M)} {is : List Nat}
theorem par_t {D : Ends} {σ : L2.St} {H : Hp} (hs : slotsOk G.O is ks) (h : tS G rel (sPar is ks) D σ H) : tX G ks σ H (fun vs H1 => vs.length = ks.length ∧ D.nx (setsV σ is vs) H1) := by
  obtain ⟨F, B, e, rep, post⟩ := h
  have post : PostS G F rel B (R.toS (evX ks e) fun ds e1 => .nx (setsE e1 is ds)) D := post
  refine ⟨F, B, e, rep, ?_⟩
  cases hk : evX ks e with
  | bad => rw [hk] at post; exact post
  | err c e2 => rw [hk] at post; exact fun B2 H2 x2 r2 => post B2 σ H2 x2 r2
  | ok ds e2 =>
    rw [hk] at post
    exact fun vs B2 H2 F' x2 rl2 r2 => ⟨rl2.length, post B2 _ H2 x2 (sets_rep hs rl2 r2)⟩
theorem ls_par2 {i j : Nat} {x y : Str} {a b : Expr} {px py pt pos : Pos} {kt k2 pt2} {k1 k2' : Bool × M} (hc : X.calm = true) (hN : X.N.Nodup) (hi : X.N[i]? = some x) (hj : X.N[j]? = some y) (hij : i ≠ j) (hx : X.env.scope.names.lookup x = some .local) (hy : X.env.scope.names.lookup y = some .local)
    (hso : slotsOk G.O [i, j] [k1, k2']) (ha : PA X [a, b] (tX G [k1, k2'])) (hw : swappedStores [.Tuple [.Name x px, .Name y py] kt pt] (.Tuple [a, b] k2 pt2) X.env = pure (some [x, y]))
    (hs : swapsWithSole [.Tuple [.Name x px, .Name y py] kt pt] (.Tuple [a, b] k2 pt2) pos.line X.env = pure false := by rfl) :
    PS X (.Assign [.Tuple [.Name x px, .Name y py] kt pt] (.Tuple [a, b] k2 pt2) pos) (tS G rel (sPar [i, j] [k1, k2'])) := by
  refine ps_imp (ps_par hc hN hi hj hij hx hy ha hw hs) fun D σ H h => ?_
  show tX G [k1, k2'] σ H fun vs H1 => ∃ v w, vs = [v, w] ∧ D.nx ((σ.set i (some v)).set j (some w)) H1
  obtain ⟨F, B, e, rep, post⟩ := par_t hso h
  refine ⟨F, B, e, rep, ?_⟩
  cases hk : evX [k1, k2'] e with
  | bad => rw [hk] at post; exact post
  | err c e2 => rw [hk] at post; exact post
  | ok ds e2 =>
    rw [hk] at post
    intro vs B2 H2 F' x2 rl2 r2
    obtain ⟨hl, q⟩ := post vs B2 H2 F' x2 rl2 r2
    match vs, hl, q with
    | [v, w], _, q =>
      refine ⟨v, w, rfl, ?_⟩
      have e1 : setsV σ [i, j] [v, w] = (σ.set i (some v)).set j (some w) := by
        show (σ.set j (some w)).set i (some v) = _
        rw [List.set_comm _ _ (Ne.symm hij)]
      rw [e1] at q
      exact q
theorem ls_par3 {i j l : Nat} {x y z : Str} {a b c : Expr} {px py pz pt pos : Pos} {kt k2 pt2} {k1 k2' k3 : Bool × M} (hc : X.calm = true) (hN : X.N.Nodup) (hi : X.N[i]? = some x) (hj : X.N[j]? = some y) (hl : X.N[l]? = some z) (hij : i ≠ j) (hil : i ≠ l) (hjl : j ≠ l) (hx : X.env.scope.names.lookup x = some .local) (hy : X.env.scope.names.lookup y = some .local) (hz : X.env.scope.names.lookup z = some .local)
    (hso : slotsOk G.O [i, j, l] [k1, k2', k3]) (ha : PA X [a, b, c] (tX G [k1, k2', k3])) (hw : swappedStores [.Tuple [.Name x px, .Name y py, .Name z pz] kt pt] (.Tuple [a, b, c] k2 pt2) X.env = pure (some [x, y, z]))
    (hs : swapsWithSole [.Tuple [.Name x px, .Name y py, .Name z pz] kt pt] (.Tuple [a, b, c] k2 pt2) pos.line X.env = pure false := by rfl) :
    PS X (.Assign [.Tuple [.Name x px, .Name y py, .Name z pz] kt pt] (.Tuple [a, b, c] k2 pt2) pos) (tS G rel (sPar [i, j, l] [k1, k2', k3])) := by
  refine ps_imp (ps_par3 hc hN hi hj hl hij hil hjl hx hy hz ha hw hs) fun D σ H h => ?_
  show tX G [k1, k2', k3] σ H fun vs H1 => ∃ u v w, vs = [u, v, w] ∧ D.nx (((σ.set i (some u)).set j (some v)).set l (some w)) H1
  obtain ⟨F, B, e, rep, post⟩ := par_t hso h
  refine ⟨F, B, e, rep, ?_⟩
  cases hk : evX [k1, k2', k3] e with
  | bad => rw [hk] at post; exact post
  | err c e2 => rw [hk] at post; exact post
  | ok ds e2 =>
    rw [hk] at post
    intro vs B2 H2 F' x2 rl2 r2
    obtain ⟨hl, q⟩ := post vs B2 H2 F' x2 rl2 r2
    match vs, hl, q with
    | [u, v, w], _, q =>
      refine ⟨u, v, w, rfl, ?_⟩
      have e1 : setsV σ [i, j, l] [u, v, w] = ((σ.set i (some u)).set j (some v)).set l (some w) := by
        show ((σ.set l (some w)).set j (some v)).set i (some u) = _
        rw [List.set_comm _ _ (Ne.symm hjl), List.set_comm _ _ (Ne.symm hil), List.set_comm _ _ (Ne.symm hij)]
      rw [e1] at q
      exact q
end
end Fl

namespace Fl
open PySem PySem.Spec PyProof.Rows L2

/-! ## a slot's own list: append, pop, stores -/
def vAppend (i : Nat) (m : M) : M := fun e => match e[i]? with
  | some (some (.lst _)) => R.bind (m e) fun d e1 => (match e1[i]? with
    | some (some (.lst ds)) => if ds.length ≤ 1000000 then .ok .non (e1.set i (some (.lst (ds ++ [d])))) else .bad
    | _ => .bad)
  | _ => .bad
def vPopAt (i : Nat) (m : M) : M := fun e => match e[i]? with
  | some (some (.lst _)) => R.bind (m e) fun d e1 => (match d, e1[i]? with
    | .int k, some (some (.lst ds)) => if -1000000 ≤ k ∧ k ≤ 1000000 then (match ixN ds.length k with
      | some j => (match ds[j]? with
        | some x => .ok x (e1.set i (some (.lst (ds.eraseIdx j))))
        | none => .bad)
      | none => .bad) else .bad
    | _, _ => .bad)
  | _ => .bad
def sSetIx (i : Nat) (mi mv : M) : S := fun e => R.toS (mv e) fun d e1 => (match e1[i]? with
  | some (some (.lst _)) => R.toS (mi e1) fun k e2 => (match k, e2[i]? with
    | .int k, some (some (.lst ds)) => (match ixN ds.length k with
      | some j => .nx (e2.set i (some (.lst (ds.set j d))))
      | none => .bad)
    | _, _ => .bad)
  | _ => .bad)
def sAugIx (i : Nat) (f : D → D → Option D) (mi mv : M) : S := fun e => match e[i]? with
  | some (some (.lst _)) => R.toS (mi e) fun k e1 => (match k, e1[i]? with
    | .int k, some (some (.lst ds)) => (match atI ds k with
      | some x => if 0 ≤ k then R.toS (mv e1) fun y e2 => (match f x y, e2[i]? with
        | some z, some (some (.lst ds2)) => (match ixN ds2.length k with
          | some j => .nx (e2.set i (some (.lst (ds2.set j z))))
          | none => .bad)
        | _, _ => .bad) else .bad
      | none => .bad)
    | _, _ => .bad)
  | _ => .bad
section
variable {X : Cx} {G : Gs} {a b : Expr} {m mi mv : M} {x : Str} {p apos pos tpos : Pos} {rel : Rel D V}
theorem own_at {i : Nat} {F : Fm} {B H : Hp} {σ : L2.St} {e : Env} {ds : List D} (rep : Rep G F B σ H e) (ho : G.O i = true) (he : e[i]? = some (some (.lst ds))) : ∃ b xs, σ[i]? = some (some (.ref b)) ∧ H b = some (.lst xs) ∧ RpL G.T B ds xs := by
  obtain ⟨b', o, h1, _, _, h4, h5⟩ := rep.ow i _ ho he
  simp only [At] at h5
  obtain ⟨xs, rfl, h6⟩ := h5
  exact ⟨b', xs, h1, h4, h6⟩
theorem own_at' {i : Nat} {F : Fm} {B H : Hp} {σ : L2.St} {e : Env} {b : Addr} {ds : List D} (rep : Rep G F B σ H e) (ho : G.O i = true) (hs : σ[i]? = some (some (.ref b))) (he : e[i]? = some (some (.lst ds))) : ∃ xs, H b = some (.lst xs) ∧ RpL G.T B ds xs := by
  obtain ⟨b', xs, h1, h2, h3⟩ := own_at rep ho he
  rw [hs] at h1
  cases h1
  exact ⟨xs, h2, h3⟩
theorem le_append {i : Nat} (hv : PE X (.Name x p) (tVar i)) (ho : G.O i = true) (ha : PE X a (tE G m))
    (hbase : attributeBase (.Name x p) "append" X.env (eval (.Name x p) X.env) = eval (.Name x p) X.env := by rfl)
    (hfew : ((backTo pos (starEach (a :: []) X.env)).all (fun x => !x.1) && (backToKw pos (keywordEach [] X.env)).all (fun x => x.1.isSome)
      && decide ((a :: []).length + ([] : List Keyword).length + (if ([] : List Keyword).isEmpty then 0 else 1) < 30)) = true := by rfl)
    (hline : (apos.endLine == pos.line) = true := by rfl) (hs : starEach (a :: []) X.env = (false, eval a X.env) :: starEach [] X.env := by rfl) (hplain : (backTo pos (starEach [] X.env)).any (·.1) = false := by rfl) :
    PE X (.Call (.Attribute (.Name x p) "append" apos) [a] [] pos) (tE G (vAppend i m)) :=
  pe_imp (pe_bm PySem.F.plainAttrs_list PySem.F.slot_list_append PySem.F.type_list_append mt_append hv (pa_cons ha pa_nil hs) hbase hfew hline hs hplain) fun σ H Q h => by
    obtain ⟨F, B, e, rep, post⟩ := h
    unfold vAppend at post
    split at post
    · rename_i d0 he
      obtain ⟨b, xs0, h1, h2, _⟩ := own_at rep ho he
      refine ⟨.ref b, h1, .inl ⟨rfl, xs0, .of h2⟩, F, B, e, rep, Post.weak (Post.bind post) ?_⟩
      rintro y H1 ⟨B1, e1, d, ex1, rep1, rl, post1⟩
      split at post1
      · rename_i ds he1
        split at post1
        · rename_i hle
          obtain ⟨xs, g1, g2⟩ := own_at' rep1 ho h1 he1
          refine ⟨b, xs, y, rfl, rfl, g1, ?_, ?_⟩
          · rw [g2.length, sizeLine_eq]; omega
          · exact post1 .non B1 _ .rfl (rep1.put ho h1 he1 (by simp only [At]; exact ⟨_, rfl, g2.append (.one rl)⟩)) (by simp only [relE, Rp])
        · exact post1.elim
      · exact post1.elim
    · exact post.elim
theorem le_popAt {i : Nat} (hv : PE X (.Name x p) (tVar i)) (ho : G.O i = true) (ha : PE X a (tE G m))
    (hbase : attributeBase (.Name x p) "pop" X.env (eval (.Name x p) X.env) = eval (.Name x p) X.env := by rfl)
    (hfew : ((backTo pos (starEach (a :: []) X.env)).all (fun x => !x.1) && (backToKw pos (keywordEach [] X.env)).all (fun x => x.1.isSome)
      && decide ((a :: []).length + ([] : List Keyword).length + (if ([] : List Keyword).isEmpty then 0 else 1) < 30)) = true := by rfl)
    (hline : (apos.endLine == pos.line) = true := by rfl) (hs : starEach (a :: []) X.env = (false, eval a X.env) :: starEach [] X.env := by rfl) (hplain : (backTo pos (starEach [] X.env)).any (·.1) = false := by rfl) :
    PE X (.Call (.Attribute (.Name x p) "pop" apos) [a] [] pos) (tE G (vPopAt i m)) :=
  pe_imp (pe_bm PySem.F.plainAttrs_list PySem.F.slot_list_pop PySem.F.type_list_pop mt_popAt hv (pa_cons ha pa_nil hs) hbase hfew hline hs hplain) fun σ H Q h => by
    obtain ⟨F, B, e, rep, post⟩ := h
    unfold vPopAt at post
    split at post
    · rename_i d0 he
      obtain ⟨b, xs0, h1, h2, _⟩ := own_at rep ho he
      refine ⟨.ref b, h1, .inl ⟨rfl, xs0, .of h2⟩, F, B, e, rep, Post.weak (Post.bind post) ?_⟩
      rintro y H1 ⟨B1, e1, d, ex1, rep1, rl, post1⟩
      split at post1
      · rename_i k ds he1
        split at post1
        · rename_i hk
          split at post1
          · rename_i j hj
            split at post1
            · rename_i v hv'
              obtain ⟨xs, g1, g2⟩ := own_at' rep1 ho h1 he1
              obtain ⟨u, q1, q2⟩ := g2.get hv'
              have rl : y = .int k := by simpa only [relE, Rp] using rl
              obtain ⟨s1, s2, s3, s4⟩ := ixN_seq hj
              refine ⟨b, xs, k, j, u, rfl, by rw [rl], g1, by omega, by omega, by rw [g2.length]; exact s1, q1, ?_⟩
              exact post1 u B1 _ .rfl (rep1.put ho h1 he1 (by simp only [At]; exact ⟨_, rfl, g2.eraseIdx j⟩)) q2
            · exact post1.elim
          · exact post1.elim
        · exact post1.elim
      · exact post1.elim
    · exact post.elim
theorem ls_setIx {i : Nat} (hv : PE X (.Name x p) (tVar i)) (ho : G.O i = true) (hi : PE X b (tE G mi)) (he : PE X a (tE G mv))
    (hp : ∀ v, assign (.Subscript (.Name x p) b tpos) X.env v = (do
      let ov ← holding [v] (eval (.Name x p) X.env)
      let iv ← holding [v, ov] (eval b X.env)
      standAt tpos
      holding [v, ov, iv] (setItem ov iv v)
      release [v, ov, iv] []) := by intro _; rfl)
    (hs : swapsWithSole [.Subscript (.Name x p) b tpos] a pos.line X.env = pure false := by rfl) (hw : swappedStores [.Subscript (.Name x p) b tpos] a X.env = pure none := by rfl)
    (h1 : (assignEach [.Subscript (.Name x p) b tpos] X.env).map (·.2) = [assign (.Subscript (.Name x p) b tpos) X.env] := by rfl) :
    PS X (.Assign [.Subscript (.Name x p) b tpos] a pos) (tS G rel (sSetIx i mi mv)) := ps_imp (ps_asg he (pg_sub hv hi set_list hp) hs hw h1) fun D σ H h => by
  obtain ⟨F, B, e, rep, post⟩ := h
  refine ⟨F, B, e, rep, Post.weak (PostS.bind post) ?_⟩
  rintro x H1 ⟨B1, e1, d, ex1, rep1, rl, post1⟩
  split at post1
  · rename_i d0 he1
    obtain ⟨b, xs0, g1, g2, _⟩ := own_at rep1 ho he1
    refine ⟨.ref b, g1, F, B1, e1, rep1, Post.weak (PostS.bind post1) ?_⟩
    rintro y H2 ⟨B2, e2, k, ex2, rep2, rl2, post2⟩
    split at post2
    · rename_i k' ds he2
      split at post2
      · rename_i j hj
        obtain ⟨xs, q1, q2⟩ := own_at' rep2 ho g1 he2
        have rl2 : y = .int k' := by simpa only [relE, Rp] using rl2
        refine ⟨b, xs, k', j, rfl, rl2, q1, by rw [q2.length]; exact hj, ?_⟩
        exact post2 B2 σ _ .rfl (rep2.put ho g1 he2 (by simp only [At]; exact ⟨_, rfl, q2.set j (Rp.mono ex2 _ _ rl)⟩))
      · exact post2.elim
    · exact post2.elim
  · exact post1.elim
def rIxL0 (K : PySem.W.Frag) : R2 := fun x y H Q => ∃ p xs i v, x = .ref p ∧ y = .int i ∧ 0 ≤ i ∧ SqL K H p xs ∧ atI xs i = some v ∧ Q v H
theorem pget_list : PGet X (rIxL0 X.K) := by
  intro pins s σ H o i ov iv Q I r1 r2 h
  obtain ⟨q, xs, k, v, rfl, rfl, h0, hS, hat, hQ⟩ := h
  cases r1
  obtain ⟨t, rfl⟩ := r2
  obtain ⟨its, rv, pl, hz⟩ := I.list hS
  obtain ⟨j, hj, hv, hjl, hlo, hhi⟩ := atI_get hat
  obtain ⟨u, hu, ru⟩ := rv.get hv
  have hsl : sizeLine = 16777216 := sizeLine_eq
  have hjk : k.toNat = j := by
    unfold atI ixN at hat
    rw [if_pos h0, if_pos hhi] at hat
    have e1 : seqIndex? k xs.length = some k.toNat := PySem.StrLaws.seqIndex_nonneg h0 hhi
    rw [e1] at hj
    exact Option.some.inj hj
  exact wpAny_getItem_list pl.isList h0 (by omega) (by rw [hjk]; simpa using hu) ⟨v, H, I, ru, hQ⟩
theorem ls_augIx {i : Nat} {op : Operator} {r : R2} {f : D → D → Option D} (hK : G.T.K = X.K) (hv : PE X (.Name x p) (tVar i)) (ho : G.O i = true) (hi : PE X b (tE G mi)) (he : PE X a (tE G mv)) (hop : OpR X (inplaceOp op) r) (hd : OpD G.T r f)
    (ha : ∀ ov iv new, augStore b ov iv new = (do holding [new, ov, iv] (setItem ov iv new); release [new, ov, iv] []; pure .next) := by intros; rfl) :
    PS X (.AugAssign (.Subscript (.Name x p) b tpos) op a pos) (tS G rel (sAugIx i f mi mv)) := ps_imp (ps_augS hv hi pget_list he (fun pins s σ H x y v u Q => hop pins s σ H x y v u Q) set_list ha) fun D σ H h => by
  obtain ⟨F, B, e, rep, post⟩ := h
  unfold sAugIx at post
  split at post
  · rename_i d0 he0
    obtain ⟨b, xs0, g1, g2, _⟩ := own_at rep ho he0
    refine ⟨.ref b, g1, F, B, e, rep, Post.weak (PostS.bind post) ?_⟩
    rintro y H1 ⟨B1, e1, k, ex1, rep1, rl1, post1⟩
    split at post1
    · rename_i k' ds he1
      split at post1
      · rename_i dx hdx
        split at post1
        · rename_i hk0
          obtain ⟨xs, q1, q2⟩ := own_at' rep1 ho g1 he1
          have rl1 : y = .int k' := by simpa only [relE, Rp] using rl1
          obtain ⟨vx, hvx, rvx⟩ := atI_rp q2 hdx
          refine ⟨b, xs, k', vx, rfl, rl1, hk0, .of q1, hvx, F, B1, e1, rep1, Post.weak (PostS.bind post1) ?_⟩
          rintro z H2 ⟨B2, e2, dy, ex2, rep2, rl2, post2⟩
          cases hf : f dx dy with
          | none => rw [hf] at post2; exact post2.elim
          | some dz =>
            rw [hf] at post2
            split at post2
            · rename_i ds2 hz' he2
              cases hz'
              split at post2
              · rename_i j hj
                refine hd B2 H2 vx z dx dy dz _ rep2.ex (.inl (Rp.mono ex2 _ _ rvx)) (.inl rl2) hf fun v B3 H3 g3 rp3 => ?_
                have rep3 := rep2.grow g3
                obtain ⟨xs3, w1, w2⟩ := own_at' rep3 ho g1 he2
                exact ⟨b, xs3, k', j, rfl, rl1, w1, by rw [w2.length]; exact hj, post2 B3 σ _ g3.ex (rep3.put ho g1 he2 (by simp only [At]; exact ⟨_, rfl, w2.set j rp3⟩))⟩
              · exact post2.elim
            · exact post2.elim
        · exact post1.elim
      · exact post1.elim
    · exact post1.elim
  · exact post.elim
end
end Fl

namespace Fl
open PySem PySem.Spec PyProof.Rows L2

/-! ## zip of a list and a str -/
section
variable {P : Program} {w : World} {A : Around} {E : Value → Shared → Prop} {s : Shared}
def SIt (h : Heap) (it : Addr) (x : Str) (t : Tok) (k : Nat) : Prop := ∃ T, (T = "str_ascii_iterator" ∨ T = "str_iterator") ∧ h.IsStrIter it T x t k
theorem SIt.keeps {h h' : Heap} {it : Addr} {x : Str} {t : Tok} {k : Nat} (r : SIt h it x t k) (q : ∀ o, h.get? it = some o → h'.get? it = some o) : SIt h' it x t k := by
  obtain ⟨T, hT, o, ho, rr⟩ := r
  exact ⟨T, hT, o, q o ho, rr⟩
theorem SIt.ext {h h' : Heap} {a it : Addr} {x : Str} {t : Tok} {k : Nat} (r : SIt h it x t k) (q : Heap.ExtBut a h h') (n : it ≠ a) : SIt h' it x t k := r.keeps fun o e => q _ _ n e
theorem str_step {it : Addr} {x : Str} {t : Tok} {k c : Nat} {Q : Value → Shared → Prop} (r : SIt s.heap it x t k) (hc : x.cps[k]? = some c)
    (q : ∀ h', SIt h' it x t (k + 1) → Heap.SameBut it s.heap h' → Q (.str ⟨#[c]⟩ s.toks) { s with heap := h', toks := s.toks + 1 }) :
    wpAny (model P w) A (Builtin.SmallTypes.nextOf (.ref it)) Q E s := by
  obtain ⟨T, hT, ri⟩ := r
  obtain ⟨o, ho, ty, dt⟩ := id ri
  have fin : ∀ h', h' = s.heap.update it (Obj.mapFields (·.setIfInBounds 1 (rawInt (k + 1)))) → SIt h' it x t (k + 1) := fun h' e => by
    subst e
    refine ⟨T, hT, _, Heap.get?_update_self _ ho (Obj.isFreed_of_fields (Obj.data_mapFields dt _)), (Obj.cls_mapFields ..).trans ty, ?_⟩
    rw [Obj.data_mapFields dt]
    simp [rawInt]
  unfold Builtin.SmallTypes.nextOf
  rcases hT with rfl | rfl
  · refine wpAny_bind (wpAny_callSpecial?_slot (name := Str.ofString "__next__") ri.typeIs F.slot_str_ascii_iterator_next (wpAny_call_entry F.slot_str_ascii_iterator_next ri.typeIs F.entry_str_ascii_iterator_next ?_ (F.args_str_ascii_iterator_next_1 _)))
    show wpAny _ _ (field (Value.ref it) 0 >>= _) _ _ _
    refine wpAny_bind (wpAny_field ho dt (x := Value.str x t) rfl ?_)
    show wpAny _ _ (field (Value.ref it) 1 >>= _) _ _ _
    refine wpAny_bind (wpAny_field ho dt (x := Value.int k 0) rfl ?_)
    simp only [Int.toNat_natCast, hc]
    exact wpAny_bind (wpAny_setField ho dt (by simp) (wpAny_bind (wpAny_mkStr (wpAny_pure ⟨_, rfl, wpAny_pure (q _ (fin _ rfl) (Heap.SameBut.update ..))⟩) (by show 1 ≤ sizeLine; decide))))
  · refine wpAny_bind (wpAny_callSpecial?_slot (name := Str.ofString "__next__") ri.typeIs F.slot_str_iterator_next (wpAny_call_entry F.slot_str_iterator_next ri.typeIs F.entry_str_iterator_next ?_ (F.args_str_iterator_next_1 _)))
    show wpAny _ _ (field (Value.ref it) 0 >>= _) _ _ _
    refine wpAny_bind (wpAny_field ho dt (x := Value.str x t) rfl ?_)
    show wpAny _ _ (field (Value.ref it) 1 >>= _) _ _ _
    refine wpAny_bind (wpAny_field ho dt (x := Value.int k 0) rfl ?_)
    simp only [Int.toNat_natCast, hc]
    exact wpAny_bind (wpAny_setField ho dt (by simp) (wpAny_bind (wpAny_mkStr (wpAny_pure ⟨_, rfl, wpAny_pure (q _ (fin _ rfl) (Heap.SameBut.update ..))⟩) (by show 1 ≤ sizeLine; decide))))
theorem str_stop {it : Addr} {x : Str} {t : Tok} {k : Nat} {Q : Value → Shared → Prop} (hh : A.handled = none) (r : SIt s.heap it x t k) (hc : x.cps[k]? = none)
    (q : ∀ h' e, Heap.ExtBut it s.heap h' → (∃ o, h'.get? e = some o ∧ o.cls = .type "StopIteration") → E (.ref e) { s with heap := h' }) :
    wpAny (model P w) A (Builtin.SmallTypes.nextOf (.ref it)) Q E s := by
  obtain ⟨T, hT, ri⟩ := r
  obtain ⟨o, ho, ty, dt⟩ := id ri
  unfold Builtin.SmallTypes.nextOf
  rcases hT with rfl | rfl
  · refine wpAny_bind (wpAny_callSpecial?_slot (name := Str.ofString "__next__") ri.typeIs F.slot_str_ascii_iterator_next (wpAny_call_entry F.slot_str_ascii_iterator_next ri.typeIs F.entry_str_ascii_iterator_next ?_ (F.args_str_ascii_iterator_next_1 _)))
    show wpAny _ _ (field (Value.ref it) 0 >>= _) _ _ _
    refine wpAny_bind (wpAny_field ho dt (x := Value.str x t) rfl ?_)
    show wpAny _ _ (field (Value.ref it) 1 >>= _) _ _ _
    refine wpAny_bind (wpAny_field ho dt (x := Value.int k 0) rfl ?_)
    simp only [Int.toNat_natCast, hc]
    refine wpAny_bind (wpAny_rule (wpAny_bind (wpAny_setField ho dt (by simp) (wpAny_bind (wpAny_letGo ?_)))))
    show wpAny _ _ (newExc (Value.type "StopIteration") [] >>= _) _ _ _
    refine wpAny_bind ?_
    simp only [newExc, newTuple]
    refine wpAny_bind (wpAny_newObj_type ?_ (by size_fits))
    refine wpAny_bind (m := firstArgMember _ _) (wpAny_of_eq (a := Value.none) (by first | rfl | (simp only [firstArgMember] ; rfl)) ?_)
    refine wpAny_newObj_type ?_ (by size_fits)
    simp only [raiseNew]
    refine wpAny_bind (wpAny_handled ?_)
    rw [show A.in1.handled = Option.none from hh]
    refine wpAny_bind (wpAny_pure (wpAny_throw ?_))
    exact q _ _ (((Heap.SameBut.update ..).extBut.push _).push _) ⟨_, Heap.get?_push_size _ rfl, rfl⟩
  · refine wpAny_bind (wpAny_callSpecial?_slot (name := Str.ofString "__next__") ri.typeIs F.slot_str_iterator_next (wpAny_call_entry F.slot_str_iterator_next ri.typeIs F.entry_str_iterator_next ?_ (F.args_str_iterator_next_1 _)))
    show wpAny _ _ (field (Value.ref it) 0 >>= _) _ _ _
    refine wpAny_bind (wpAny_field ho dt (x := Value.str x t) rfl ?_)
    show wpAny _ _ (field (Value.ref it) 1 >>= _) _ _ _
    refine wpAny_bind (wpAny_field ho dt (x := Value.int k 0) rfl ?_)
    simp only [Int.toNat_natCast, hc]
    refine wpAny_bind (wpAny_rule (wpAny_bind (wpAny_setField ho dt (by simp) (wpAny_bind (wpAny_letGo ?_)))))
    show wpAny _ _ (newExc (Value.type "StopIteration") [] >>= _) _ _ _
    refine wpAny_bind ?_
    simp only [newExc, newTuple]
    refine wpAny_bind (wpAny_newObj_type ?_ (by size_fits))
    refine wpAny_bind (m := firstArgMember _ _) (wpAny_of_eq (a := Value.none) (by first | rfl | (simp only [firstArgMember] ; rfl)) ?_)
    refine wpAny_newObj_type ?_ (by size_fits)
    simp only [raiseNew]
    refine wpAny_bind (wpAny_handled ?_)
    rw [show A.in1.handled = Option.none from hh]
    refine wpAny_bind (wpAny_pure (wpAny_throw ?_))
    exact q _ _ (((Heap.SameBut.update ..).extBut.push _).push _) ⟨_, Heap.get?_push_size _ rfl, rfl⟩
/-- the five objects of a zip, and the list, are apart -/
structure Apt (z a b i j l : Addr) : Prop where
  az : a ≠ z
  bz : b ≠ z
  iz : i ≠ z
  jz : j ≠ z
  ab : a ≠ b
  ai : a ≠ i
  aj : a ≠ j
  bi : b ≠ i
  bj : b ≠ j
  ij : i ≠ j
  lz : l ≠ z
  lb : l ≠ b
  li : l ≠ i
  lj : l ≠ j
theorem zs_item {z a b i j l : Addr} {k m : Nat} {xs : Array Value} {y : Str} {t : Tok} {u p q : Value} {c : Nat} {Q : Value → Shared → Prop} (D : Apt z a b i j l)
    (hz : IsZip s.heap z a b .none) (ha : IsPair s.heap a (.ref i) (.ref j)) (hb : IsPair s.heap b p q) (r1 : s.heap.IsListIter i l k) (r2 : SIt s.heap j y t m) (hl : s.heap.IsList l xs) (hx : xs[k]? = some u) (hy : y.cps[m]? = some c)
    (fin : ∀ h', IsZip h' z a b (rawInt s.heap.objs.size) → (∃ p q, IsPair h' b p q) → h'.IsListIter i l (k + 1) → SIt h' j y t (m + 1) → IsPair h' s.heap.objs.size u (.str ⟨#[c]⟩ s.toks) →
      (∀ d o, d ≠ z → d ≠ b → d ≠ i → d ≠ j → s.heap.get? d = some o → h'.get? d = some o) → Q (.ref s.heap.objs.size) { s with heap := h', toks := s.toks + 1 }) :
    wpAny (model P w) A (Builtin.«zip.__next__» ⟨[.ref z], []⟩) (fun f s' => ∃ v, f = .done (.ret v) ∧ Q v s') E s := by
  show wpAny _ _ (field (Value.ref z) 2 >>= _) _ _ _
  refine wpAny_bind (wpAny_field hz rfl (x := Value.bool false) rfl ?_)
  show wpAny _ _ (field (Value.ref z) 3 >>= _) _ _ _
  refine wpAny_bind (wpAny_field hz rfl (x := Value.ref a) rfl ?_)
  refine wpAny_bind (wpAny_seqItems ha rfl ?_)
  show wpAny _ _ (Builtin.SmallTypes.ownedTupleIsFree (Value.ref z) >>= _) _ _ _
  refine wpAny_bind ?_
  unfold Builtin.SmallTypes.ownedTupleIsFree
  refine wpAny_bind (wpAny_field hz rfl (x := Value.none) rfl (wpAny_pure ?_))
  simp only [if_true]
  refine wpAny_bind (wpAny_rule ?_)
  refine wpAny_bind (wpAny_field hz rfl (x := Value.ref b) rfl ?_)
  refine wpAny_bind (wpAny_setField_rec hz (by simp) fun g1 z1 d1 => ?_)
  replace z1 : IsZip g1 z a b Value.ellipsis := z1
  refine wpAny_bind ?_
  simp only [List.zipIdx_cons, List.zipIdx_nil, List.forIn_cons, List.forIn_nil]
  refine wpAny_bind (wpAny_bind (wpAny_onRaise ?_))
  show wpAny _ _ (Builtin.SmallTypes.nextOf (Value.ref i) >>= _) _ _ _
  refine wpAny_bind (wpAny_nextOf_list_item (r1.extBut d1.extBut D.iz) (hl.extBut d1.extBut D.lz) hx fun g2 i2 d2 => wpAny_pure ?_)
  have b2 : IsPair g2 b p q := d2.extBut _ _ D.bi (d1.extBut _ _ D.bz hb)
  refine wpAny_bind (wpAny_seqItems b2 rfl ?_)
  refine wpAny_bind (wpAny_updateSeq_pair b2 fun g3 b3 d3 => ?_)
  replace b3 : IsPair g3 b u q := b3
  refine wpAny_bind (wpAny_letGo (wpAny_pure ?_))
  refine wpAny_bind (wpAny_bind (wpAny_onRaise ?_))
  show wpAny _ _ (Builtin.SmallTypes.nextOf (Value.ref j) >>= _) _ _ _
  refine wpAny_bind (str_step (((r2.ext d1.extBut D.jz).ext d2.extBut D.ij.symm).ext d3.extBut D.bj.symm) hy fun g4 j4 d4 => wpAny_pure ?_)
  have b4 : IsPair g4 b u q := d4.extBut _ _ D.bj b3
  refine wpAny_bind (wpAny_seqItems b4 rfl ?_)
  refine wpAny_bind (wpAny_updateSeq_pair b4 fun g5 b5 d5 => ?_)
  replace b5 : IsPair g5 b u (Value.str ⟨#[c]⟩ s.toks) := b5
  refine wpAny_bind (wpAny_letGo (wpAny_pure (wpAny_pure ?_)))
  refine wpAny_bind (wpAny_seqItems b5 rfl ?_)
  refine wpAny_bind (wpAny_newTuple ?_)
  have sz : g5.objs.size = s.heap.objs.size := by rw [d5.1, d4.1, d3.1, d2.1, d1.1]
  have z5 : IsZip g5 z a b Value.ellipsis := d5.extBut _ _ D.bz.symm (d4.extBut _ _ D.jz.symm (d3.extBut _ _ D.bz.symm (d2.extBut _ _ D.iz.symm z1)))
  have k5 : ∀ d o, d ≠ z → d ≠ b → d ≠ i → d ≠ j → s.heap.get? d = some o → g5.get? d = some o := fun d o c1 c2 c3 c4 e => d5.extBut _ _ c2 (d4.extBut _ _ c4 (d3.extBut _ _ c2 (d2.extBut _ _ c3 (d1.extBut _ _ c1 e))))
  have i5 : g5.IsListIter i l (k + 1) := ((i2.extBut d3.extBut D.bi.symm).extBut d4.extBut D.ij).extBut d5.extBut D.bi.symm
  have j5 : SIt g5 j y t (m + 1) := j4.ext d5.extBut D.bj.symm
  have zl : z < g5.objs.size := Heap.lt_size z5
  show wpAny _ _ (Builtin.SmallTypes.ownedTupleHandOut (Value.ref z) (Value.ref g5.objs.size) >>= _) _ _ _
  refine wpAny_bind ?_
  unfold Builtin.SmallTypes.ownedTupleHandOut
  have z6 : IsZip (g5.push { cls := .type "tuple", data := .seq #[u, Value.str ⟨#[c]⟩ s.toks] }) z a b Value.ellipsis := Heap.get?_push_of_some _ z5
  refine wpAny_bind (wpAny_setField_rec z6 (by simp) fun g7 z7 d7 => ?_)
  replace z7 : IsZip g7 z a b (rawInt g5.objs.size) := z7
  refine wpAny_setField_rec z7 (by simp) fun g8 z8 d8 => ?_
  replace z8 : IsZip g8 z a b (rawInt g5.objs.size) := z8
  have up : ∀ d o, d ≠ z → g5.get? d = some o → g8.get? d = some o := fun d o n e => d8.extBut _ _ n (d7.extBut _ _ n (Heap.get?_push_of_some _ e))
  have t8 : IsPair g8 g5.objs.size u (Value.str ⟨#[c]⟩ s.toks) := d8.extBut _ _ (Nat.ne_of_gt zl) (d7.extBut _ _ (Nat.ne_of_gt zl) (Heap.get?_push_size _ rfl))
  rw [sz] at z8 t8
  refine wpAny_pure ⟨_, rfl, ?_⟩
  show Q (Value.ref g5.objs.size) _
  rw [sz]
  exact fin g8 z8 ⟨_, _, up _ _ D.bz b5⟩ (i5.at fun o e => up _ o D.iz e) (j5.keeps fun o e => up _ o D.jz e) t8 fun d o c1 c2 c3 c4 e => up d o c1 (k5 d o c1 c2 c3 c4 e)
theorem zs_end {z a b i j l : Addr} {k m : Nat} {xs : Array Value} {y : Str} {t : Tok} {p q : Value} {Q : Fin → Shared → Prop} (hh : A.handled = none) (D : Apt z a b i j l)
    (hz : IsZip s.heap z a b .none) (ha : IsPair s.heap a (.ref i) (.ref j)) (hb : IsPair s.heap b p q) (r1 : s.heap.IsListIter i l k) (r2 : SIt s.heap j y t m) (hl : s.heap.IsList l xs) (hd : xs[k]? = none ∨ y.cps[m]? = none)
    (fin : ∀ h' e, (∀ d o, d ≠ z → d ≠ b → d ≠ i → d ≠ j → s.heap.get? d = some o → h'.get? d = some o) → (∃ o, h'.get? e = some o ∧ o.cls = .type "StopIteration") → E (.ref e) { s with heap := h' }) :
    wpAny (model P w) A (Builtin.«zip.__next__» ⟨[.ref z], []⟩) Q E s := by
  show wpAny _ _ (field (Value.ref z) 2 >>= _) _ _ _
  refine wpAny_bind (wpAny_field hz rfl (x := Value.bool false) rfl ?_)
  show wpAny _ _ (field (Value.ref z) 3 >>= _) _ _ _
  refine wpAny_bind (wpAny_field hz rfl (x := Value.ref a) rfl ?_)
  refine wpAny_bind (wpAny_seqItems ha rfl ?_)
  show wpAny _ _ (Builtin.SmallTypes.ownedTupleIsFree (Value.ref z) >>= _) _ _ _
  refine wpAny_bind ?_
  unfold Builtin.SmallTypes.ownedTupleIsFree
  refine wpAny_bind (wpAny_field hz rfl (x := Value.none) rfl (wpAny_pure ?_))
  simp only [if_true]
  refine wpAny_bind (wpAny_rule ?_)
  refine wpAny_bind (wpAny_field hz rfl (x := Value.ref b) rfl ?_)
  refine wpAny_bind (wpAny_setField_rec hz (by simp) fun g1 z1 d1 => ?_)
  replace z1 : IsZip g1 z a b Value.ellipsis := z1
  refine wpAny_bind ?_
  simp only [List.zipIdx_cons, List.zipIdx_nil, List.forIn_cons, List.forIn_nil]
  refine wpAny_bind (wpAny_bind (wpAny_onRaise ?_))
  show wpAny _ _ (Builtin.SmallTypes.nextOf (Value.ref i) >>= _) _ _ _
  cases hx : xs[k]? with
  | none =>
    refine wpAny_bind (wpAny_nextOf_list_end hh (r1.extBut d1.extBut D.iz) (hl.extBut d1.extBut D.lz) hx fun g2 e d2 he => ?_)
    obtain ⟨oe, h1, h2⟩ := he
    have z2 : IsZip g2 z a b Value.ellipsis := d2 _ _ D.iz.symm z1
    have ne : e ≠ z := fun x => by subst x; rw [z2] at h1; cases h1; simp at h2
    exact wpAny_setField_rec z2 (by simp) fun g3 _ d3 => fin g3 e (fun d o c1 _ c3 _ x => d3.extBut _ _ c1 (d2 _ _ c3 (d1.extBut _ _ c1 x))) ⟨oe, d3.extBut _ _ ne h1, h2⟩
  | some u =>
    have hy : y.cps[m]? = none := by rcases hd with h | h; rw [hx] at h; cases h; exact h
    refine wpAny_bind (wpAny_nextOf_list_item (r1.extBut d1.extBut D.iz) (hl.extBut d1.extBut D.lz) hx fun g2 i2 d2 => wpAny_pure ?_)
    have b2 : IsPair g2 b p q := d2.extBut _ _ D.bi (d1.extBut _ _ D.bz hb)
    refine wpAny_bind (wpAny_seqItems b2 rfl ?_)
    refine wpAny_bind (wpAny_updateSeq_pair b2 fun g3 b3 d3 => ?_)
    refine wpAny_bind (wpAny_letGo (wpAny_pure ?_))
    refine wpAny_bind (wpAny_bind (wpAny_onRaise ?_))
    show wpAny _ _ (Builtin.SmallTypes.nextOf (Value.ref j) >>= _) _ _ _
    refine wpAny_bind (str_stop hh (((r2.ext d1.extBut D.jz).ext d2.extBut D.ij.symm).ext d3.extBut D.bj.symm) hy fun g4 e d4 he => ?_)
    obtain ⟨oe, h1, h2⟩ := he
    have z4 : IsZip g4 z a b Value.ellipsis := d4 _ _ D.jz.symm (d3.extBut _ _ D.bz.symm (d2.extBut _ _ D.iz.symm z1))
    have ne : e ≠ z := fun x => by subst x; rw [z4] at h1; cases h1; simp at h2
    exact wpAny_setField_rec z4 (by simp) fun g5 _ d5 => fin g5 e (fun d o c1 c2 c3 c4 x => d5.extBut _ _ c1 (d4 _ _ c4 (d3.extBut _ _ c2 (d2.extBut _ _ c3 (d1.extBut _ _ c1 x))))) ⟨oe, d5.extBut _ _ ne h1, h2⟩
end
end Fl

namespace Fl
open PySem PySem.Spec PyProof.Rows L2

section
variable {P : Program} {w : World} {A : Around} {E : Value → Shared → Prop} {s : Shared}
theorem zs_next {z a b i j l : Addr} {k m : Nat} {xs : Array Value} {y : Str} {t : Tok} {u p q : Value} {c : Nat} {Q : Option Value → Shared → Prop} (D : Apt z a b i j l)
    (hz : IsZip s.heap z a b .none) (ha : IsPair s.heap a (.ref i) (.ref j)) (hb : IsPair s.heap b p q) (r1 : s.heap.IsListIter i l k) (r2 : SIt s.heap j y t m) (hl : s.heap.IsList l xs) (hx : xs[k]? = some u) (hy : y.cps[m]? = some c)
    (fin : ∀ h', IsZip h' z a b (rawInt s.heap.objs.size) → (∃ p q, IsPair h' b p q) → h'.IsListIter i l (k + 1) → SIt h' j y t (m + 1) → IsPair h' s.heap.objs.size u (.str ⟨#[c]⟩ s.toks) →
      (∀ d o, d ≠ z → d ≠ b → d ≠ i → d ≠ j → s.heap.get? d = some o → h'.get? d = some o) → Q (some (.ref s.heap.objs.size)) { s with heap := h', toks := s.toks + 1 }) :
    wpAny (model P w) A (pyNext (.ref z)) Q E s := by
  have ty : s.TypeIs (.ref z) "zip" := ⟨_, hz, rfl⟩
  unfold pyNext
  exact wpAny_bind (wpAny_attempt (wpAny_callSpecial?_slot (name := Str.ofString "__next__") ty F.slot_zip_next (wpAny_call_entry F.slot_zip_next ty F.entry_zip_next
    (zs_item D hz ha hb r1 r2 hl hx hy fun h' a1 a2 a3 a4 a5 a6 => wpAny_pure (fin h' a1 a2 a3 a4 a5 a6)) (F.args_zip_next_1 _))))
theorem zs_done {z a b i j l : Addr} {k m : Nat} {xs : Array Value} {y : Str} {t : Tok} {p q : Value} {Q : Option Value → Shared → Prop} (hh : A.handled = none) (D : Apt z a b i j l)
    (hz : IsZip s.heap z a b .none) (ha : IsPair s.heap a (.ref i) (.ref j)) (hb : IsPair s.heap b p q) (r1 : s.heap.IsListIter i l k) (r2 : SIt s.heap j y t m) (hl : s.heap.IsList l xs) (hd : xs[k]? = none ∨ y.cps[m]? = none)
    (fin : ∀ h', (∀ d o, d ≠ z → d ≠ b → d ≠ i → d ≠ j → s.heap.get? d = some o → h'.get? d = some o) → Q none { s with heap := h' }) :
    wpAny (model P w) A (pyNext (.ref z)) Q E s := by
  have ty : s.TypeIs (.ref z) "zip" := ⟨_, hz, rfl⟩
  unfold pyNext
  refine wpAny_bind (wpAny_attempt (wpAny_callSpecial?_slot (name := Str.ofString "__next__") ty F.slot_zip_next (wpAny_call_entry F.slot_zip_next ty F.entry_zip_next (zs_end hh D hz ha hb r1 r2 hl hd fun h' e q1 q2 => ?_) (F.args_zip_next_1 _))))
  obtain ⟨o, h1, h2⟩ := q2
  exact wpAny_bind (wpAny_isInstance (T := "StopIteration") (b := true) ⟨o, h1, h2⟩ isSubtype_stop (wpAny_pure (fin _ q1)))
end
abbrev zs1 (h : Heap) (l : Addr) : Heap := h.push { cls := .type "list_iterator", data := .fields #[.ref l, .int 0 0] }
abbrev zs2 (h : Heap) (l : Addr) (y : Str) (t : Tok) : Heap := (zs1 h l).push { cls := .type (strIterType y), data := .fields #[.str y t, .int 0 0] }
abbrev zs3 (h : Heap) (l : Addr) (y : Str) (t : Tok) : Heap := (zs2 h l y t).push { cls := .type "tuple", data := .seq #[.ref h.objs.size, .ref (zs1 h l).objs.size] }
abbrev zs4 (h : Heap) (l : Addr) (y : Str) (t : Tok) : Heap := (zs3 h l y t).push { cls := .type "tuple", data := .seq #[.none, .none] }
abbrev zs5 (h : Heap) (l : Addr) (y : Str) (t : Tok) : Heap := (zs4 h l y t).push { cls := .type "zip", data := .fields #[.none, .bool false, .bool false, .ref (zs2 h l y t).objs.size, .ref (zs3 h l y t).objs.size] }
theorem meets_zs (l : Addr) (xs : Array Value) (y : Str) (t : Tok) :
    Meets (Builtin.«zip.__new__» ⟨[.type "zip", .ref l, .str y t], []⟩) (fun _ R s => s.heap.IsList l xs ∧ R (.ok (.ret (.ref (zs4 s.heap l y t).objs.size))) { s with heap := zs5 s.heap l y t }) :=
  .of_wp fun prog w A R s h => by
    obtain ⟨hp, g, d, tk, os⟩ := s
    obtain ⟨hl, h⟩ := h
    have sb := sub_zip
    have h1 : Heap.IsList (Shared.heap ⟨hp, g, d, tk, os⟩) l xs := hl
    wp_walk using wpAny_pyIter_list h1, wpAny_pyIter_strU
    exact ⟨_, rfl, h⟩
theorem sit_type (y : Str) : strIterType y = "str_ascii_iterator" ∨ strIterType y = "str_iterator" := by
  unfold strIterType
  split
  · exact .inl rfl
  · exact .inr rfl
section
variable {prog : Program} {w : World} {A : Around} {E : Value → Shared → Prop} {s : Shared}
theorem call_zs {l : Addr} {xs : Array Value} {y : Str} {t : Tok} {Q : Value → Shared → Prop} (hl : s.heap.IsList l xs)
    (fin : ∀ h', IsZip h' (s.heap.objs.size + 4) (s.heap.objs.size + 2) (s.heap.objs.size + 3) .none → IsPair h' (s.heap.objs.size + 2) (.ref s.heap.objs.size) (.ref (s.heap.objs.size + 1)) →
      IsPair h' (s.heap.objs.size + 3) .none .none → h'.IsListIter s.heap.objs.size l 0 → SIt h' (s.heap.objs.size + 1) y t 0 → (∀ c o, s.heap.get? c = some o → h'.get? c = some o) → Q (.ref (s.heap.objs.size + 4)) { s with heap := h' }) :
    wpAny (model prog w) A (call (.type "zip") [.ref l, .str y t]) Q E s := by
  refine callType_new F.called_zip (by decide) (F.typeCall_zip_2 _ _) (F.newCall_zip_2 _ _) (fun o => F.args_object_init_3 o _ _) F.entry_zip_new (meets_zs l xs y t) ⟨hl, ?_⟩
  have e1 : (zs1 s.heap l).objs.size = s.heap.objs.size + 1 := Heap.size_push ..
  have e2 : (zs2 s.heap l y t).objs.size = s.heap.objs.size + 2 := by rw [Heap.size_push, e1]
  have e3 : (zs3 s.heap l y t).objs.size = s.heap.objs.size + 3 := by rw [Heap.size_push, e2]
  have e4 : (zs4 s.heap l y t).objs.size = s.heap.objs.size + 4 := by rw [Heap.size_push, e3]
  have g5 : (zs5 s.heap l y t).get? (zs4 s.heap l y t).objs.size = some _ := Heap.get?_push_size _ rfl
  have g4 : (zs5 s.heap l y t).get? (zs3 s.heap l y t).objs.size = some _ := Heap.get?_push_of_some _ (Heap.get?_push_size _ rfl)
  have g3 : (zs5 s.heap l y t).get? (zs2 s.heap l y t).objs.size = some _ := Heap.get?_push_of_some _ (Heap.get?_push_of_some _ (Heap.get?_push_size _ rfl))
  have g2 : (zs5 s.heap l y t).get? (zs1 s.heap l).objs.size = some _ := Heap.get?_push_of_some _ (Heap.get?_push_of_some _ (Heap.get?_push_of_some _ (Heap.get?_push_size _ rfl)))
  have g1 : (zs5 s.heap l y t).get? s.heap.objs.size = some _ := Heap.get?_push_of_some _ (Heap.get?_push_of_some _ (Heap.get?_push_of_some _ (Heap.get?_push_of_some _ (Heap.get?_push_size _ rfl))))
  show _ ∧ _
  rw [e2, e3, e4] at g5
  rw [e1, e2] at g3
  rw [e3] at g4
  rw [e1] at g2
  rw [e4]
  exact ⟨⟨_, g5, rfl⟩, fin _ g5 g3 g4 ⟨_, g1, rfl, rfl⟩ ⟨_, sit_type y, _, g2, rfl, rfl⟩ fun c o x => Heap.get?_push_of_some _ (Heap.get?_push_of_some _ (Heap.get?_push_of_some _ (Heap.get?_push_of_some _ (Heap.get?_push_of_some _ x))))⟩
end

/-- the list at a and the text y, the items in new pairs -/
def ItzS (K : PySem.W.Frag) (a : Addr) (y : Str) : It :=
  ⟨fun i H => ∃ (xs : List V) (x : V) (c : Nat), SqL K H a xs ∧ xs[i]? = some x ∧ y.cps[i]? = some c,
    fun i H v H' => ∃ T x c, v = .ref T ∧ H T = none ∧ H' = upd H T (.tup [x, .str ⟨#[c]⟩]) ∧ y.cps[i]? = some c ∧ ∀ xs, SqL K H a xs → xs[i]? = some x,
    fun i H => ∃ xs : List V, SqL K H a xs ∧ (xs.length ≤ i ∨ y.cps.size ≤ i)⟩
theorem turn_zs {P : Program} {w : World} {K : PySem.W.Frag} {elts : List Expr} {kk : Nat} {tp : Pos} {a z d e i j : Addr} {y : Str} {t : Tok} (D : Apt z d e i j a) :
    Turn P w K (.Tuple elts kk tp) (ItzS K a y) [z, d, e, i, j] z (fun k h => IsZip h z d e .none ∧ IsPair h d (.ref i) (.ref j) ∧ (∃ p q, IsPair h e p q) ∧ h.IsListIter i a k ∧ SIt h j y t k) where
  mem := by simp
  obj := fun k h st c hc => by
    obtain ⟨h1, h2, ⟨p, q, h3⟩, ⟨o1, e1, _, d1⟩, ⟨_, _, o2, e2, _, d2⟩⟩ := st
    have e' : c = z ∨ c = d ∨ c = e ∨ c = i ∨ c = j := by simpa using hc
    rcases e' with rfl | rfl | rfl | rfl | rfl
    · exact ⟨_, h1, fun v q => nomatch q⟩
    · exact ⟨_, h2, fun v q => nomatch q⟩
    · exact ⟨_, h3, fun v q => nomatch q⟩
    · exact ⟨o1, e1, fun v q => by rw [d1] at q; cases q⟩
    · exact ⟨o2, e2, fun v q => by rw [d2] at q; cases q⟩
  keep := fun k h h' st kp => by
    obtain ⟨h1, h2, ⟨p, q, h3⟩, r1, r2⟩ := st
    exact ⟨kp z (by simp) _ h1, kp d (by simp) _ h2, ⟨p, q, kp e (by simp) _ h3⟩, r1.at fun o q => kp i (by simp) o q, r2.keeps fun o q => kp j (by simp) o q⟩
  item := by
    intro X hP hw hK hc k pins s σ H E I hf st hg
    subst hP hw hK
    obtain ⟨h1, h2, ⟨p, q, h3⟩, r1, r2⟩ := st
    obtain ⟨xs, x, c, hqx, hx, hy⟩ := hg
    obtain ⟨its, rv, pl, _⟩ := I.list hqx
    obtain ⟨u, hu, ru⟩ := rv.get hx
    have zl : z < s.heap.objs.size := Heap.lt_size h1
    refine zs_next D h1 h2 h3 r1 r2 pl.isList (u := u) (by simpa using hu) hy fun h' z' b' i' j' tt kp => ?_
    refine ⟨_, rfl, wpAny_letOwnedTupleGo_zip (s := { s with heap := h', toks := s.toks + 1 }) z' fun h'' z'' sb => ?_⟩
    have t2 : h''.get? s.heap.objs.size = some { cls := .type "tuple", data := .seq #[u, Value.str ⟨#[c]⟩ s.toks] } := (sb.2 _ (Nat.ne_of_gt zl)).trans tt
    have new : ObjOk X.prog X.w (upd H s.heap.objs.size (.tup [x, .str ⟨#[c]⟩])) h'' s.heap.objs.size (.tup [x, .str ⟨#[c]⟩]) :=
      ⟨by show 2 ≤ sizeLine; decide, [u, Value.str ⟨#[c]⟩ s.toks], .cons ru (.cons ⟨_, rfl⟩ .nil), ⟨_, t2, rfl, _, rfl⟩⟩
    have I1 : Inv X pins σ (upd H s.heap.objs.size (.tup [x, .str ⟨#[c]⟩])) { s with heap := h'', toks := s.toks + 1 } :=
      I.turnedNew (t' := s.toks + 1) (ch := [z, d, e, i, j]) (fun c o hb q => (sb.2 c (fun q' => hb (by simp [q']))).trans (kp c o (fun q' => hb (by simp [q'])) (fun q' => hb (by simp [q'])) (fun q' => hb (by simp [q'])) (fun q' => hb (by simp [q'])) q)) hf (Nat.le_refl _) new
    obtain ⟨p', q', b'⟩ := b'
    refine ⟨.ref s.heap.objs.size, _, I1, rfl, ⟨_, x, c, rfl, I.hok.fresh (Nat.le_refl _), rfl, hy, fun l hl => by rw [I.list_inj hl hqx]; exact hx⟩, ⟨z'', ?_, ⟨p', q', ?_⟩, ?_, ?_⟩, fun c hcm => ?_⟩
    · exact (sb.2 _ D.az).trans (kp _ _ D.az D.ab D.ai D.aj h2)
    · exact (sb.2 _ D.bz).trans b'
    · exact i'.at fun o q => (sb.2 _ D.iz).trans q
    · exact j'.keeps fun o q => (sb.2 _ D.jz).trans q
    · have lt : c < s.heap.objs.size := by
        have e' : c = z ∨ c = d ∨ c = e ∨ c = i ∨ c = j := by simpa using hcm
        rcases e' with rfl | rfl | rfl | rfl | rfl
        · exact zl
        · exact Heap.lt_size h2
        · exact Heap.lt_size h3
        · obtain ⟨_, e1, _⟩ := r1; exact Heap.lt_size e1
        · obtain ⟨_, _, _, e2, _⟩ := r2; exact Heap.lt_size e2
      rw [upd_ne (Nat.ne_of_lt lt)]
      exact (hf c hcm).1
  done := by
    intro X hP hw hK hc k pins s σ H E I hf st hg
    subst hP hw hK
    obtain ⟨h1, h2, ⟨p, q, h3⟩, r1, r2⟩ := st
    obtain ⟨xs, hqx, hend⟩ := hg
    obtain ⟨its, rv, pl, _⟩ := I.list hqx
    have l1 := rv.length
    have he : its.toArray[k]? = none ∨ y.cps[k]? = none := by
      rcases hend with q | q
      · exact .inl (by simp; omega)
      · exact .inr (by simp; omega)
    exact zs_done (I.ok.hd hc) D h1 h2 h3 r1 r2 pl.isList he fun h' kp => ⟨rfl, I.turnedL (t' := s.toks) (ch := [z, d, e, i, j]) (fun c o hb q =>
      kp c o (fun q' => hb (by simp [q'])) (fun q' => hb (by simp [q'])) (fun q' => hb (by simp [q'])) (fun q' => hb (by simp [q'])) q) hf⟩
  self := fun A k s Q E st h => wpAny_pyIter_zip st.1 h
theorem vals_zs {a : Addr} {y : Str} {us : List Value} (r : Vals [V.ref a, V.str y] us) : ∃ t, us = [.ref a, .str y t] := by
  cases r with
  | cons r rr =>
    cases rr with
    | cons r' rr =>
      cases rr
      cases r
      obtain ⟨t, rfl⟩ := r'
      exact ⟨t, rfl⟩
theorem apt_new {n a : Nat} (h : a < n) : Apt (n + 4) (n + 2) (n + 3) n (n + 1) a :=
  ⟨Nat.ne_of_lt (by omega), Nat.ne_of_lt (by omega), Nat.ne_of_lt (by omega), Nat.ne_of_lt (by omega), Nat.ne_of_lt (by omega), Nat.ne_of_gt (by omega), Nat.ne_of_gt (by omega), Nat.ne_of_gt (by omega), Nat.ne_of_gt (by omega), Nat.ne_of_lt (by omega), Nat.ne_of_lt (by omega), Nat.ne_of_lt (by omega), Nat.ne_of_lt (by omega), Nat.ne_of_lt (by omega)⟩
def iZs (K : PySem.W.Frag) (ta : TA) : TI := fun σ H R => ta σ H fun vs H1 => ∃ a y xs, vs = [.ref a, .str y] ∧ SqL K H1 a xs ∧ R (ItzS K a y) H1
theorem pi_zs {X : Cx} {e e2 : Expr} {ta : TA} {p pos tpos : Pos} {elts : List Expr} {kk : Nat} (hg : Gl X "zip") (hm : X.mg "zip" = none) (ha : PA X [e, e2] ta)
    (hs : starEach [e, e2] X.env = (false, eval e X.env) :: starEach [e2] X.env := by rfl) (hpl : (backTo pos (starEach [e2] X.env)).any (·.1) = false := by rfl) :
    PI X (.Tuple elts kk tpos) (.Call (.Name "zip" p) [e, e2] [] pos) (iZs X.K ta) := by
  refine ⟨fun pins s σ H R I h => ?_⟩
  refine Call_ (ld_blt I hg hm PyProof.Rows.boot_zip (PyProof.Rows.callWith_type1 (thn (ha.run pos pins s σ H _ I h) fun us s1 ⟨vs, H1, I1, r1, q1⟩ => ?_) hs hpl))
  obtain ⟨a, y, xs, rfl, hqx, q⟩ := q1
  obtain ⟨t, rfl⟩ := vals_zs r1
  obtain ⟨its, rv, p1, _⟩ := I1.list hqx
  have la : a < s1.heap.objs.size := p1.lt
  refine call_zs p1.isList fun h' hz ha hb r1 r2 kp => wpAny_pyIter_zip hz ?_
  have I2 : Inv X pins σ H1 { s1 with heap := h' } := I1.kept (t' := s1.toks) kp
  have D : Apt (s1.heap.objs.size + 4) (s1.heap.objs.size + 2) (s1.heap.objs.size + 3) s1.heap.objs.size (s1.heap.objs.size + 1) a := apt_new la
  refine ⟨s1.heap.objs.size + 4, [s1.heap.objs.size + 4, s1.heap.objs.size + 2, s1.heap.objs.size + 3, s1.heap.objs.size, s1.heap.objs.size + 1], _, _, H1, rfl, I2, turn_zs D, ⟨hz, ha, ⟨_, _, hb⟩, r1, r2⟩, fun c hcm => ?_, q⟩
  have hle : s1.heap.objs.size ≤ c := by
    have e' : c = s1.heap.objs.size + 4 ∨ c = s1.heap.objs.size + 2 ∨ c = s1.heap.objs.size + 3 ∨ c = s1.heap.objs.size ∨ c = s1.heap.objs.size + 1 := by simpa using hcm
    rcases e' with z | z | z | z | z
    · rw [z]; exact Nat.le_add_right _ _
    · rw [z]; exact Nat.le_add_right _ _
    · rw [z]; exact Nat.le_add_right _ _
    · rw [z]; exact Nat.le_refl _
    · rw [z]; exact Nat.le_add_right _ _
  exact I1.fpOk hle (I1.hok.fresh hle)

def zsD (xs : List D) (y : Str) : List D := (xs.zip (y.cps.toList.map fun c => D.str ⟨#[c]⟩)).map pairD
def vZs (m m2 : M) : Env → R (List D) := fun e => R.bind (m e) fun d e1 => R.bind (m2 e1) fun d2 e2 => match d, d2 with
  | .lst xs, .str y => .ok (zsD xs y) e2
  | _, _ => .bad
section
variable {X : Cx} {G : Gs} {a b : Expr} {m m2 : M} {p pos : Pos}
theorem li_zs {elts : List Expr} {kk : Nat} {tpos : Pos} (hm : X.mg "zip" = none) (h : PE X a (tE G m)) (h2 : PE X b (tE G m2)) (hg : Gl X "zip") (hs : starEach [a, b] X.env = (false, eval a X.env) :: starEach [b] X.env := by rfl)
    (hs2 : starEach [b] X.env = (false, eval b X.env) :: starEach [] X.env := by rfl) (hpl : (backTo pos (starEach [b] X.env)).any (·.1) = false := by rfl) :
    PI X (.Tuple elts kk tpos) (.Call (.Name "zip" p) [a, b] [] pos) (tI G (vZs m m2)) :=
  pi_imp (pi_zs hg hm (pa_cons h (pa_cons h2 pa_nil hs2) hs) hs hpl) fun σ H R' hq => by
    obtain ⟨F, B, e, rep, post⟩ := hq
    refine ⟨F, B, e, rep, Post.weak (Post.bind post) ?_⟩
    rintro x H1 ⟨B1, e1, d, ex1, rep1, rl, post1⟩
    refine ⟨F, B1, e1, rep1, Post.weak (Post.bind post1) ?_⟩
    rintro y H2 ⟨B2, e2, d2, ex2, rep2, rl2, post2⟩
    cases d with
    | lst ds =>
      cases d2 with
      | str y =>
        simp only [relE, Rp] at rl rl2
        obtain ⟨ca, xs, rfl, a1, a2⟩ := rl
        subst rl2
        have a1 := ex2 _ _ a1
        have a2 := RpL.mono ex2 _ _ a2
        refine ⟨ca, y, xs, rfl, .of (rep2.ex _ _ a1), post2 (ItzS X.K ca y) B2 H2 .rfl rep2 ⟨fun B => B ca = some (.lst xs) ∧ RpL G.T B ds xs, ⟨a1, a2⟩, ?_⟩⟩
        have len : (zsD ds y).length = min ds.length y.cps.size := by simp [zsD]
        refine ⟨fun B B' ex ⟨p1, p2⟩ => ⟨ex _ _ p1, RpL.mono ex _ _ p2⟩, fun i B H ⟨p1, p2⟩ ex _ hi => ?_, fun i B H x H' d ⟨p1, p2⟩ ex _ hd hy => ?_, fun i B H ⟨p1, p2⟩ ex _ hi => ?_⟩
        · rw [len] at hi
          have i1 : i < xs.length := by rw [p2.length]; omega
          have i2 : i < y.cps.size := by omega
          exact ⟨xs, xs[i], y.cps[i], .of (ex _ _ p1), List.getElem?_eq_getElem i1, Array.getElem?_eq_getElem i2⟩
        · obtain ⟨T', u, c, rfl, hT, rfl, g1, g2⟩ := hy
          obtain ⟨dx, dy, h1, h2, rfl⟩ := zip_get hd
          obtain ⟨u', q1, q2⟩ := p2.get h1
          have e1 := g2 xs (.of (ex _ _ p1))
          rw [q1] at e1; cases e1
          have h3 : y.cps.toList[i]? = some c := by simpa using g1
          rw [List.getElem?_map, h3] at h2
          cases h2
          have z := pair_new (T := G.T) (d2 := .str ⟨#[c]⟩) (y := .str ⟨#[c]⟩) ex hT q2 (by simp only [Rp])
          exact ⟨_, z.1, z.2⟩
        · rw [len] at hi
          refine ⟨xs, .of (ex _ _ p1), ?_⟩
          rw [p2.length]
          omega
      | _ => exact post2.elim
    | _ => exact post2.elim
end
end Fl

namespace Fl
open PySem PySem.Spec PyProof.Rows L2
open PySem.W (EachIs copyHeap copyHeap_at)

/-! ## sorted of ints, in a list or a tuple -/
def isIns (n : Int) : List Int → List Int
  | [] => [n]
  | m :: ms => if n ≤ m then n :: m :: ms else m :: isIns n ms
def isort : List Int → List Int
  | [] => []
  | n :: ns => isIns n (isort ns)
theorem isIns_perm (n : Int) : ∀ ms : List Int, (isIns n ms).Perm (n :: ms)
  | [] => .refl _
  | m :: ms => by
    unfold isIns
    split
    · exact .refl _
    · exact ((isIns_perm n ms).cons m).trans (.swap n m ms)
theorem isort_perm : ∀ ns : List Int, (isort ns).Perm ns
  | [] => .refl _
  | n :: ns => (isIns_perm n _).trans ((isort_perm ns).cons n)
theorem isIns_sorted {n : Int} : ∀ {ms : List Int}, ms.Pairwise (· ≤ ·) → (isIns n ms).Pairwise (· ≤ ·)
  | [], _ => by simp [isIns]
  | m :: ms, h => by
    obtain ⟨h1, h2⟩ := List.pairwise_cons.mp h
    unfold isIns
    split
    · rename_i q
      refine List.pairwise_cons.mpr ⟨fun x hx => ?_, h⟩
      rcases List.mem_cons.mp hx with rfl | hx
      · exact q
      · exact Int.le_trans q (h1 x hx)
    · rename_i q
      refine List.pairwise_cons.mpr ⟨fun x hx => ?_, isIns_sorted h2⟩
      rcases List.mem_cons.mp ((isIns_perm n ms).mem_iff.mp hx) with rfl | hx
      · omega
      · exact h1 x hx
theorem isort_sorted : ∀ ns : List Int, (isort ns).Pairwise (· ≤ ·)
  | [] => .nil
  | n :: ns => isIns_sorted (isort_sorted ns)
theorem sorted_one : ∀ {xs ys : List Int}, xs.Perm ys → xs.Pairwise (· ≤ ·) → ys.Pairwise (· ≤ ·) → xs = ys
  | [], ys, p, _, _ => (List.nil_perm.mp p).symm
  | x :: xs, [], p, _, _ => by have := p.length_eq; simp at this
  | x :: xs, y :: ys, p, h1, h2 => by
    obtain ⟨a1, a2⟩ := List.pairwise_cons.mp h1
    obtain ⟨b1, b2⟩ := List.pairwise_cons.mp h2
    have e : x = y := by
      have m1 : x ∈ y :: ys := p.mem_iff.mp (.head _)
      have m2 : y ∈ x :: xs := p.mem_iff.mpr (.head _)
      rcases List.mem_cons.mp m1 with q | q
      · exact q
      · rcases List.mem_cons.mp m2 with q2 | q2
        · exact q2.symm
        · have := a1 y q2; have := b1 x q; omega
    subst e
    rw [sorted_one ((List.perm_cons x).mp p) a2 b2]
theorem msort_isort (ns : List Int) : ns.mergeSort (fun a b => decide (a ≤ b)) = isort ns := by
  refine sorted_one ((List.mergeSort_perm _ _).trans (isort_perm ns).symm) ?_ (isort_sorted ns)
  have := List.pairwise_mergeSort (le := fun a b : Int => decide (a ≤ b)) (fun a b c h1 h2 => by simp only [decide_eq_true_eq] at *; omega) (fun a b => by simp only [Bool.or_eq_true, decide_eq_true_eq]; omega) ns
  exact this.imp fun h => by simpa using h
section
variable {prog : Program} {w : World} {A : Around} {E : Value → Shared → Prop} {s : Shared}
def EI : Value → Int → Prop := fun v n => ∃ t, v = .int n t
theorem ei_of : ∀ {vs : List Value} {ns : List Int}, Vals (ns.map V.int) vs → EachIs EI vs ns
  | [], [], _ => .nil
  | v :: vs, [], h => by cases h
  | [], n :: ns, h => by cases h
  | v :: vs, n :: ns, h => by
    rw [List.map_cons] at h
    cases h with
    | cons h1 h2 => exact .cons h1 (ei_of h2)
theorem of_ei : ∀ {vs : List Value} {ns : List Int}, EachIs EI vs ns → Vals (ns.map V.int) vs
  | _, _, .nil => by rw [List.map_nil]; exact .nil
  | _, _, .cons h1 h2 => by rw [List.map_cons]; exact .cons h1 (of_ei h2)
theorem sort_at {a : Addr} {n : Nat} {vs : List Value} {ns : List Int} {Q : Value → Shared → Prop} (ho : s.heap.get? a = some (seqObj "list" vs.toArray n)) (e : EachIs EI vs ns) (hL : ns.length ≤ sizeLine) (hu : A.units + 1 < cLine)
    (h : ∀ out, EachIs EI out (isort ns) → Q .none { s with heap := sortedHeap s.heap a vs (List.toArray out) }) : wpAny (model prog w) A (call (.builtin "list.sort") [.ref a]) Q E s := by
  refine PySem.W.list_sort_data (enc := PyData.int) ho e (e.mono fun v n ⟨t, q⟩ => ⟨[], by subst q; exact .int n t, by simp⟩) (.of fun _ _ => by simp [PySem.W.alike]) (.others fun b => ⟨by simp, by simp⟩) hL (fun b _ => by simpa [PyData.depth] using hu) fun out _ eo => h out ?_
  rw [PySem.W.dataLe_int fun b => b, msort_isort] at eo
  exact eo
theorem collect_sq {l : Addr} {T : String} {o : Obj} {k : Nat} {vs : List Value} {Q : List Value → Shared → Prop} (hT : T = "list" ∨ T = "tuple") (ho : s.heap.get? l = some o) (hc : o.cls = .type T) (hd : o.data = .seq vs.toArray k)
    (h : Q vs { s with heap := (s.heap.push (seqObj "list" #[] 0)).update s.heap.objs.size (Obj.mapSeq (· ++ vs.toArray)) }) (hz : vs.length ≤ sizeLine) : wpAny (model prog w) A (collect (.ref l)) Q E s := by
  unfold collect
  refine wpAny_bind (wpAny_runValue (codeAny_builtin entry_proto_collect' ?_))
  show wpAny _ _ (do again (.builtin "list.__iadd__" ⟨[← newList [], .ref l], []⟩)) _ _ _
  refine wpAny_bind (wpAny_newList (wpAny_pure ⟨Code.quiet_builtin _ (by decide +kernel), codeAny_builtin entry_list_iadd' ?_⟩))
  show wpAny _ _ (Builtin.List.listExtendWith (.ref s.heap.objs.size) (.ref l) (.ref s.heap.objs.size)) _ _ { s with heap := s.heap.push (seqObj "list" #[] 0) }
  unfold Builtin.List.listExtendWith
  have o2 : (s.heap.push (seqObj "list" #[] 0)).get? l = some o := Heap.get?_push_of_some _ ho
  refine wpAny_bind (wpAny_typeOf (T := T) ⟨o, o2, hc⟩ ?_)
  have tt : (Value.type T == Value.type "list" || Value.type T == Value.type "tuple") = true := by rcases hT with rfl | rfl <;> rfl
  have tt2 : ∀ b : Bool, (b || Value.type T == Value.type "list" || Value.type T == Value.type "tuple") = true := by rcases hT with rfl | rfl <;> intro b <;> cases b <;> rfl
  rw [if_pos (by first | exact tt | exact tt2 _)]
  refine wpAny_bind (listItems_at o2 hd ?_)
  refine wpAny_bind (listItems_at (xs := #[]) (n := 0) (Heap.get?_push_size _ rfl) rfl ?_)
  rw [if_neg (by simp)]
  refine wpAny_bind (listUpdate_at (xs := #[]) (n := 0) (Heap.get?_push_size _ rfl) rfl ?_ (Nat.zero_le _) (by show (#[] ++ vs.toArray).size ≤ sizeLine + 1; simp only [Array.size_append, List.size_toArray, List.length_nil] ; omega))
  refine wpAny_pure ?_
  show wpAny (model prog w) A (do
      let u ← load s.heap.objs.size
      match u.data with
      | .seq xs _ => pure xs.toList
      | _ => unsupported "internal:collect") Q E { s with heap := (s.heap.push (seqObj "list" #[] 0)).update s.heap.objs.size (Obj.mapSeq (· ++ vs.toArray)) }
  refine wpAny_bind (wpAny_load (get?_update_seq (Heap.get?_push_size _ rfl) _) ?_)
  show wpAny _ _ (pure ((#[] : Array Value) ++ vs.toArray).toList) _ _ _
  rw [show ((#[] : Array Value) ++ vs.toArray).toList = vs by simp]
  exact wpAny_pure h
theorem sorted_seq {a : Addr} {o : Obj} {T : String} {k : Nat} {vs : List Value} {ns : List Int} {Q : Value → Shared → Prop} (hT : T = "list" ∨ T = "tuple") (ho : s.heap.get? a = some o) (hc : o.cls = .type T) (hd : o.data = .seq vs.toArray k) (e : EachIs EI vs ns) (hL : ns.length ≤ sizeLine) (hu : A.units + 3 < cLine)
    (h : ∀ out, EachIs EI out (isort ns) → Q (.ref (s.heap.objs.size + 1)) { s with heap := sortedAll s.heap vs out.toArray }) :
    wpAny (model prog w) A (call (.builtin "sorted") [.ref a]) Q E s := by
  have hl : vs.length ≤ sizeLine := by rw [e.length]; exact hL
  refine Calls.call_function_entry kind_sorted plain_sorted entry_sorted (args_sorted1 _) ?_
  unfold Builtin.«sorted»
  refine wpAny_bind (m := checkCount "sorted" 1 1 _) (wpAny_pure ?_)
  refine wpAny_bind (collect_sq hT ho hc hd ?_ hl)
  refine wpAny_bind (wpAny_newList ?_ hl)
  have sz : ((s.heap.push (seqObj "list" #[] 0)).update s.heap.objs.size (Obj.mapSeq (· ++ vs.toArray))).objs.size = s.heap.objs.size + 1 := by rw [Heap.size_update, size_push']
  show wpAny _ _ _ _ _ { s with heap := copyHeap s.heap vs }
  rw [sz]
  refine wpAny_bind (wpAny_holding (sort_at (s := { s with heap := copyHeap s.heap vs }) (copyHeap_at s.heap vs) e hL ?_ fun out eo => ?_))
  · show A.units + 1 + 1 < cLine
    omega
  · exact wpAny_pure ⟨_, rfl, h out eo⟩
end
def rSortI (K : PySem.W.Frag) : List V → Hp → VK → Prop := fun vs H Q => ∃ (a : Addr) (ns : List Int), vs = [V.ref a] ∧ (SqL K H a (ns.map V.int) ∨ SqT K H a (ns.map V.int)) ∧ ∀ p, H p = none → Q (.ref p) (upd H p (.lst ((isort ns).map V.int)))
theorem isort_length (ns : List Int) : (isort ns).length = ns.length := (isort_perm ns).length_eq
theorem cr_sortI {X : Cx} (hu : X.A.units + 64 < cLine) : CallR X (.builtin "sorted") (rSortI X.K) := by
  intro pins s σ H vs us Q I r h
  obtain ⟨a, ns, rfl, hs, q⟩ := h
  rw [Vals.ref1 r]
  have fin : ∀ its : List Value, its.length ≤ sizeLine → Vals (ns.map V.int) its → ∀ out, EachIs EI out (isort ns) → EP X pins σ Q (.ref (s.heap.objs.size + 1)) { s with heap := sortedAll s.heap its out.toArray } := fun its hz rv out eo => by
    obtain ⟨ep, he⟩ := PyProof.Rows.sortedAll_at s.heap its out.toArray
    have hlen : ((isort ns).map V.int).length ≤ sizeLine := by
      rw [List.length_map, isort_length, ← List.length_map (f := V.int), rv.length]; exact hz
    exact ⟨.ref _, upd H (s.heap.objs.size + 1) (.lst ((isort ns).map V.int)), I.laid (t' := s.toks) (fun _ _ => PyProof.Rows.sortedAll_old) (Nat.le_succ _) ⟨hlen, out, ep, of_ei eo, he⟩, rfl, q _ (I.hok.fresh (Nat.le_succ _))⟩
  rcases hs with hs | hs
  · obtain ⟨its, rv, hl, hz⟩ := I.list hs
    obtain ⟨o, ho, hc, k, hd⟩ := hl.isList
    have hz : its.length ≤ sizeLine := by rw [← rv.length]; exact hz
    exact sorted_seq (.inl rfl) ho hc hd (ei_of rv) (by rw [← List.length_map (f := V.int), rv.length]; exact hz) (by omega) (fin its hz rv)
  · obtain ⟨its, rv, hl, hz⟩ := I.tuple hs
    obtain ⟨o, ho, hc, k, hd⟩ := id hl
    have hz : its.length ≤ sizeLine := by rw [← rv.length]; exact hz
    exact sorted_seq (.inr rfl) ho hc hd (ei_of rv) (by rw [← List.length_map (f := V.int), rv.length]; exact hz) (by omega) (fin its hz rv)
section
variable {T : Tb}
def fSorted : List D → Option D
  | [.lst ds] => (ds.mapM intOf).map fun ns => .lst ((isort ns).map D.int)
  | [.tup ds] => (ds.mapM intOf).map fun ns => .lst ((isort ns).map D.int)
  | _ => none
theorem rpl_ints {B : Hp} : ∀ ns : List Int, RpL T B (ns.map D.int) (ns.map V.int)
  | [] => by simp [RpL]
  | n :: ns => by
    simp only [List.map_cons, RpL]
    exact ⟨_, _, rfl, by simp only [Rp], rpl_ints ns⟩
theorem cf_sorted : CallDF T (rSortI T.K) fSorted := by
  intro B H vs ds d Q ex h hf q
  unfold fSorted at hf
  split at hf
  · obtain ⟨v, rfl, hv⟩ := hl1 h
    obtain ⟨ns, hb, rfl⟩ := Option.map_eq_some_iff.mp hf
    obtain ⟨a, xs, rfl, e1, r1⟩ := rh_lst ex hv
    have := ints_of r1 hb
    subst this
    exact ⟨a, ns, rfl, .inl (.of e1), fun p hp => q p _ hp (by simp only [At]; exact ⟨_, rfl, rpl_ints _⟩)⟩
  · obtain ⟨v, rfl, hv⟩ := hl1 h
    obtain ⟨ns, hb, rfl⟩ := Option.map_eq_some_iff.mp hf
    obtain ⟨a, xs, rfl, e1, r1⟩ := rh_tup hv
    have := ints_of r1 hb
    subst this
    exact ⟨a, ns, rfl, .inr (sqt_of ex e1), fun p hp => q p _ hp (by simp only [At]; exact ⟨_, rfl, rpl_ints _⟩)⟩
  · cases hf
end
end Fl

namespace Fl
open PySem PySem.Spec PyProof.Rows L2

/-! ## a pair of a new thing and a value -/
/-- two new objects at p and q -/
theorem two_new {T : Tb} {B H : Hp} {p q : Addr} {o : HO} {w : V} {d1 d2 : D} (ex : Ex B H) (hB : B p = none) (hBq : B q = none) (hpq : p ≠ q) (hp : H p = some o) (hq : H q = some (.tup [.ref p, w])) (hat : At T B o d1) (hw : Rp T B d2 w) :
    Ex B (upd (upd B p o) q (.tup [.ref p, w])) ∧ Ex (upd (upd B p o) q (.tup [.ref p, w])) H ∧ Rp T (upd (upd B p o) q (.tup [.ref p, w])) (.tup [d1, d2]) (.ref q) := by
  have q1 : upd B p o q = none := by rw [upd_ne (Ne.symm hpq)]; exact hBq
  have x1 : Ex B (upd B p o) := .new hB
  have x2 : Ex (upd B p o) (upd (upd B p o) q (.tup [.ref p, w])) := .new q1
  refine ⟨x1.trans x2, fun a u e => ?_, ?_⟩
  · by_cases h : a = q
    · subst h; rw [upd_same] at e; rw [hq]; exact e
    · rw [upd_ne h] at e
      by_cases h2 : a = p
      · subst h2; rw [upd_same] at e; rw [hp]; exact e
      · rw [upd_ne h2] at e; exact ex _ _ e
  · simp only [Rp]
    exact ⟨q, _, rfl, upd_same, .cons (Rp.mono x2 _ _ (Rp.of_at upd_same (hat.mono x1))) (.cons (Rp.mono (x1.trans x2) _ _ hw) .nil)⟩
def relQ (G : Gs) : Rel D V := fun F σ B H e d v => ∃ q p o d1 d2 w, d = .tup [d1, d2] ∧ v = .ref q ∧ p ≠ q ∧ B q = none ∧ F.H0 q = none ∧ H q = some (.tup [.ref p, w]) ∧ B p = none ∧ F.H0 p = none ∧ H p = some o ∧ At G.T B o d1 ∧ Rp G.T B d2 w
def vPair (m1 m2 : M) : M := fun e => R.bind (m1 e) fun d1 e1 => R.bind (m2 e1) fun d2 e2 => .ok (.tup [d1, d2]) e2
section
variable {X : Cx} {G : Gs} {a b : Expr} {m1 m2 : M} {pos p2 : Pos}
theorem ls_retT {kk : Nat} (ha : PE X a (tF G m1)) (hb : PE X b (tE G m2)) (hs : starEach [a, b] X.env = (false, eval a X.env) :: starEach [b] X.env := by rfl) (hs2 : starEach [b] X.env = (false, eval b X.env) :: starEach [] X.env := by rfl) :
    PS X (.Return (some (.Tuple [a, b] kk p2)) pos) (tS G (relQ G) (sRet (vPair m1 m2))) := ps_imp (ps_ret (pe_tup (lx_new ha (lx_val hb lx_nil hs2) hs))) fun D σ H h => by
  obtain ⟨F, B, e, rep, post⟩ := h
  have post : PostS G F (relQ G) B (R.toS (R.bind (m1 e) fun d1 e1 => R.bind (m2 e1) fun d2 e2 => .ok (.tup [d1, d2]) e2) fun d e1 => .rt d e1) D := post
  refine ⟨F, B, e, rep, ?_⟩
  show PostX G F B σ [(true, m1), (false, m2)] (R.bind (m1 e) fun d e1 => R.bind (evX [(false, m2)] e1) fun ds e2 => .ok (d :: ds) e2) _
  cases h1 : m1 e with
  | bad => rw [h1] at post; exact post.elim
  | err c e1 => rw [h1] at post; exact fun B' H' x r => post B' σ H' x r
  | ok d1 e1 =>
    rw [h1] at post
    show PostX G F B σ [(true, m1), (false, m2)] (R.bind (R.bind (m2 e1) fun d e1 => R.bind (evX [] e1) fun ds e2 => .ok (d :: ds) e2) fun ds e2 => .ok (d1 :: ds) e2) _
    have post : PostS G F (relQ G) B (R.toS (R.bind (m2 e1) fun d2 e2 => .ok (.tup [d1, d2]) e2) fun d e1 => .rt d e1) D := post
    cases h2 : m2 e1 with
    | bad => rw [h2] at post; exact post.elim
    | err c e2 => rw [h2] at post; exact fun B' H' x r => post B' σ H' x r
    | ok d2 e2 =>
      rw [h2] at post
      rintro vs B' H' F' x ⟨_, _, p, o, _, z1, rfl, g1, g2, g3, _, _, w, _, z2, rfl, g4, z3, rfl, rfl⟩ rep'
      cases z1
      cases z2
      refine ⟨by show 2 ≤ sizeLine; decide, fun q hq => ?_⟩
      obtain ⟨r1, u1, u2, u3⟩ := Rep.unpin g3.nt g1 g2 rep'
      have hpq : p ≠ q := by rintro rfl; rw [hq] at u2; cases u2
      have nq : B' q = none := r1.ex.none hq
      refine post B' σ _ (.ref q) x (r1.other nq (r1.fr.none hq) ?_) ⟨q, p, o, d1, d2, w, rfl, rfl, hpq, nq, r1.fr.none hq, upd_same, u1, g1, by rw [upd_ne hpq]; exact u2, g3, g4⟩
      intro i d' hi he hs
      obtain ⟨p', o', a1, _, _, a4, _⟩ := r1.ow i d' hi he
      rw [hs] at a1
      cases a1
      rw [hq] at a4; cases a4
end
def spT (T : Tb) (xc : Nat → Value) (n : Nat) (F : List D → FR) : Sp := fun vs H Q E => ∃ B ds, Ex B H ∧ RpL T B ds vs ∧ ds.length = n ∧ match F ds with
  | .ok d _ => ∀ q p o d1 d2 w B' H', d = .tup [d1, d2] → Grow B H B' H' → p ≠ q → B' q = none → H q = none → H' q = some (.tup [.ref p, w]) → B' p = none → H p = none → H' p = some o → At T B' o d1 → Rp T B' d2 w → Q (.ref q) H'
  | .err c => ∀ B' H', Grow B H B' H' → E (xc c) none H'
  | .bad => False
theorem spT_F {T : Tb} {xc : Nat → Value} {n : Nat} {F : List D → FR} {vs : List V} {H : Hp} {Q : VK} {E : XK} (h : spF T xc n F vs H Q E) : spT T xc n F vs H Q E := by
  obtain ⟨B, ds, ex, rl, hl, h⟩ := h
  refine ⟨B, ds, ex, rl, hl, ?_⟩
  cases hF : F ds with
  | bad => rw [hF] at h; exact h
  | err c => rw [hF] at h; exact h
  | ok d b =>
    rw [hF] at h
    rintro q p o d1 d2 w B' H' rfl g hpq b1 b2 b3 b4 b5 b6 hat hw
    obtain ⟨x1, x2, x3⟩ := two_new g.sub b4 b1 hpq b6 b3 hat hw
    refine h _ _ _ ⟨g.ex.trans x1, g.exH, x2, fun a u e => ?_⟩ x3
    by_cases z : a = q
    · subst z; exact .inr (.inl b2)
    · rw [upd_ne z] at e
      by_cases z2 : a = p
      · subst z2; exact .inr (.inl b5)
      · rw [upd_ne z2] at e; exact g.nw a u e
theorem FnW.toF {P : Program} {w : World} {K : PySem.W.Frag} {mg : Str → Option Value} {base : Heap} {T : Tb} {xc : Nat → Value} {n k : Nat} {F : List D → FR} {x : Str} (W : FnW P w K mg base (spT T xc n F) x k) : FnW P w K mg base (spF T xc n F) x k := by
  obtain ⟨f, fd, ps, h1, h2⟩ := W.ex
  exact ⟨f, fd, ps, h1.imp fun _ _ _ _ => spT_F, h2⟩
theorem spN_F {T : Tb} {xc : Nat → Value} {n : Nat} {F : List D → FR} {vs : List V} {H : Hp} {Q : VK} {E : XK} (h : spF T xc n F vs H Q E) : spN T xc n F vs H Q E := by
  obtain ⟨B, ds, ex, rl, hl, h⟩ := h
  refine ⟨B, ds, ex, rl, hl, ?_⟩
  cases hF : F ds with
  | bad => rw [hF] at h; exact h
  | err c => rw [hF] at h; exact h
  | ok d b =>
    rw [hF] at h
    rintro p o B' H' g b1 b2 b3 hat
    refine h (.ref p) (upd B' p o) H' ⟨g.ex.trans (.new b1), g.exH, fun a u e => ?_, fun a u e => ?_⟩ (Rp.of_at upd_same (hat.mono (.new b1)))
    · by_cases z : a = p
      · subst z; rw [upd_same] at e; rw [b3]; exact e
      · rw [upd_ne z] at e; exact g.sub _ _ e
    · by_cases z : a = p
      · subst z; exact .inr (.inl b2)
      · rw [upd_ne z] at e; exact g.nw a u e
theorem FnW.newF {P : Program} {w : World} {K : PySem.W.Frag} {mg : Str → Option Value} {base : Heap} {T : Tb} {xc : Nat → Value} {n k : Nat} {F : List D → FR} {x : Str} (W : FnW P w K mg base (spN T xc n F) x k) : FnW P w K mg base (spF T xc n F) x k := by
  obtain ⟨f, fd, ps, h1, h2⟩ := W.ex
  exact ⟨f, fd, ps, h1.imp fun _ _ _ _ => spN_F, h2⟩
theorem FnW.mono {P : Program} {w : World} {K : PySem.W.Frag} {mg : Str → Option Value} {base : Heap} {sp : Sp} {j k : Nat} {x : Str} (W : FnW P w K mg base sp x j) (h : j ≤ k) : FnW P w K mg base sp x k := by
  obtain ⟨f, fd, ps, h1, h2⟩ := W.ex
  exact ⟨f, fd, ps, h1.mono h, h2⟩
section
variable {P : Program} {w : World} {K : PySem.W.Frag} {mg : Str → Option Value} {base : Heap} {T : Tb} {xc : Nat → Value}
theorem fn_liftT {x qual : Str} {st : Stmt} {f : Addr} {fd : FuncData} {N ps : List Str} {k n : Nat} {O : Nat → Bool} {m : S} (Fd : Fun K x qual st f fd) (Sc : FnScope N ps (defScope st)) (hn : ps.length = n) (hN : n ≤ N.length) (hO : ∀ i, i < n → O i = false)
    (body : ∀ (cdv : Value) (A : Around) (outer : List PySem.Env) (s : Shared) (H : Hp) (E : XK), Bd (cxOf (L2.CX P w) P w K mg base N qual (defScope st) f cdv A outer s H E) ⟨T, O, fun cls d _ H' => E cls d H', xc⟩ k →
      PSs (cxOf (L2.CX P w) P w K mg base N qual (defScope st) f cdv A outer s H E) (defBody st) (tS ⟨T, O, fun cls d _ H' => E cls d H', xc⟩ (relQ ⟨T, O, fun cls d _ H' => E cls d H', xc⟩) m)) :
    FnOk P w K mg base (L2.CX P w) (k + 1) f fd ps (spT T xc n (runFN m (N.length - n))) := by
  refine Fd.okX Sc (fun vs H Q E h => ?_) (fun cdv A outer s H vs Q E hr h => ?_)
  · obtain ⟨B, ds, _, rl, hl, _⟩ := h
    rw [rl.length, hl, hn]
  · obtain ⟨B, ds, ex, rl, hl, h⟩ := h
    refine ⟨_, body cdv A outer s H E ⟨hr, takes_of rfl rfl rfl rfl, passes_of rfl⟩, ?_⟩
    subst hl
    refine ⟨⟨H, B, fun _ => none⟩, B, _, rep_start ex rl hN hO, ?_⟩
    unfold runFN at h
    cases hm : m (ds.map some ++ List.replicate (N.length - ds.length) none) with
    | nx e => rw [hm] at h; exact h.elim
    | rt d e =>
      rw [hm] at h
      rintro B' σ' H' v x r ⟨q, p, o, d1, d2, u, rfl, rfl, h0, h1, h2, h3, h4, h5, h6, h7, h8⟩
      exact h q p o d1 d2 u B' H' rfl ⟨x, r.fr, r.ex, r.nwG⟩ h0 h1 h2 h3 h4 h5 h6 h7 h8
    | bk e => rw [hm] at h; exact h.elim
    | ct e => rw [hm] at h; exact h.elim
    | err c e =>
      rw [hm] at h
      exact fun B' σ' H' x r => h B' H' ⟨x, r.fr, r.ex, r.nwG⟩
    | bad => rw [hm] at h; exact h
end
def vFst (m : M) : M := fun e => R.bind (m e) fun d e1 => match d with
  | .tup (d1 :: _) => .ok d1 e1
  | _ => .bad
section
variable {X : Cx} {G : Gs} {a : Expr} {es : List Expr} {ms : Env → R (List D)} {n k j : Nat} {F : List D → FR} {x : Str} {p p3 pos pos2 : Pos}
theorem lf_fst (W : FnW X.prog X.w X.K X.mg X.base (spT G.T G.xc n F) x k) (hr : Room k X.A) (tk : Takes X G.W) (ha : PA X (a :: es) (tA G ms)) (hg : Gl X x) (hsl : PlainIx (.Constant (.int 0) j p3))
    (hdb : (x == ("__debug__" : Str)) = false := by decide) (he : starEach (a :: es) X.env = (false, eval a X.env) :: starEach es X.env := by rfl) (hpl : (backTo pos (starEach es X.env)).any (·.1) = false := by rfl) :
    PE X (.Subscript (.Call (.Name x p) (a :: es) [] pos) (.Constant (.int 0) j p3) pos2) (tF G (vFst (vCall n F ms))) := by
  obtain ⟨f, fd, ps, Fo, hm, hk, hb⟩ := W.ex
  refine pe_imp (pe_ix ix_seq (pe_callS (E := WE G.W) Fo hr hg hm hk hb (passAt tk) ha hdb he hpl) pe_int hsl) fun σ H Q h => ?_
  obtain ⟨Fr, B, e, rep, post⟩ := h
  have post : Post G Fr B σ (relF G) (R.bind (R.bind (ms e) fun ds e1 => if ds.length = n then (match F ds with | .ok d _ => .ok d e1 | .err c => .err c e1 | .bad => .bad) else .bad) fun d e1 => match d with | .tup (d1 :: _) => .ok d1 e1 | _ => .bad) Q := post
  have post : Post G Fr B σ (relF G) (R.bind (ms e) fun ds e1 => R.bind (if ds.length = n then (match F ds with | .ok d _ => .ok d e1 | .err c => .err c e1 | .bad => .bad) else .bad) fun d e1 => match d with | .tup (d1 :: _) => .ok d1 e1 | _ => .bad) Q := by
    cases hq : ms e with
    | ok ds e1 => rw [hq] at post; exact post
    | err c e1 => rw [hq] at post; exact post
    | bad => rw [hq] at post; exact post
  refine ⟨Fr, B, e, rep, Post.weak (Post.bind post) ?_⟩
  rintro vs H1 ⟨B1, e1, ds, ex1, rep1, rl, post1⟩
  by_cases hl : ds.length = n
  · rw [if_pos hl] at post1
    refine ⟨B1, ds, rep1.ex, rl, hl, ?_⟩
    cases hF : F ds with
    | ok d b =>
      rw [hF] at post1
      rintro q p o d1 d2 w B' H' rfl g hpq b1 b2 b3 b4 b5 b6 hat hw
      refine .inr (.inl ⟨q, [.ref p, w], 0, .ref p, rfl, rfl, sqt_of .rfl b3, rfl, ?_⟩)
      have post1 : Post G Fr B1 σ (relF G) (.ok d1 e1) Q := post1
      refine post1 (.ref p) B' H' g.ex (rep1.grow g) ⟨p, o, rfl, b4, rep1.fr.none b5, b6, hat, fun i d' hi he hs => ?_⟩
      obtain ⟨q', o', a1, a2, a3, a4, _⟩ := rep1.ow i d' hi he
      rw [hs] at a1
      cases a1
      rw [b5] at a4; cases a4
    | err c =>
      rw [hF] at post1
      exact fun B' H' g => post1 B' H' g.ex (rep1.grow g)
    | bad => rw [hF] at post1; exact post1.elim
  · rw [if_neg hl] at post1; exact post1.elim
end

/-! ## methods of lists and texts -/
def tyOf (t : String) : D → Bool
  | .str _ => t == "str"
  | .lst _ => t == "list"
  | _ => false
def vBm (t : String) (f : D → List D → Option D) (o : Opd) (os : List Opd) : M := fun e => R.bind (evO o e) fun r e1 => match rsO r e1 with
  | some d0 => if tyOf t d0 = true then R.bind (evOs os e1) fun rs e2 => R.ofO (do let d ← rsO r e2; let ds ← rsOs rs e2; f d ds) e2 else .bad
  | none => .bad
def MtD (T : Tb) (r : V → List V → Hp → VK → Prop) (f : D → List D → Option D) : Prop := ∀ (B H : Hp) (x : V) (vs : List V) (dx : D) (ds : List D) (d : D) (Q : VK), Ex B H → RpH T B H dx x → RpHL T B H ds vs → f dx ds = some d →
  (∀ v B' H', Grow B H B' H' → Rp T B' d v → Q v H') → r x vs H Q
theorem rsO_H {G : Gs} {F : Fm} {B H : Hp} {σ : L2.St} {e : Env} {r : Sum D Nat} {v : V} {d : D} (rep : Rep G F B σ H e) (h : relO G F σ B H e r v) (hd : rsO r e = some d) : RpH G.T B H d v := rsO_ok h .rfl rep hd
section
variable {X : Cx} {G : Gs} {a ob : Expr} {o : Opd} {os : List Opd} {es : List Expr} {f : D → List D → Option D} {r : V → List V → Hp → VK → Prop} {name : Str} {apos pos : Pos} {id t : String}
theorem le_bm (pa : PlainAttrs t) (slot : Slot t name id) (hty : typeOf (.builtin id) = pure (.type "method_descriptor")) (hm : MtR X id r) (hd : MtD G.T r f) (hK : G.T.K = X.K) (ho : PE X ob (tO G o)) (ha : PA X (a :: es) (tAO G os))
    (hbase : attributeBase ob name X.env (eval ob X.env) = eval ob X.env := by rfl)
    (hfew : ((backTo pos (starEach (a :: es) X.env)).all (fun x => !x.1) && (backToKw pos (keywordEach [] X.env)).all (fun x => x.1.isSome)
      && decide ((a :: es).length + ([] : List Keyword).length + (if ([] : List Keyword).isEmpty then 0 else 1) < 30)) = true := by rfl)
    (hline : (apos.endLine == pos.line) = true := by rfl) (hs : starEach (a :: es) X.env = (false, eval a X.env) :: starEach es X.env := by rfl) (hplain : (backTo pos (starEach es X.env)).any (·.1) = false := by rfl) :
    PE X (.Call (.Attribute ob name apos) (a :: es) [] pos) (tE G (vBm t f o os)) := pe_imp (pe_bm pa slot hty hm ho ha hbase hfew hline hs hplain) fun σ H Q h => by
  obtain ⟨F, B, e, rep, post⟩ := h
  refine ⟨F, B, e, rep, Post.weak (Post.bind post) ?_⟩
  rintro x H1 ⟨B1, e1, r1, ex1, rep1, rl1, post1⟩
  cases hr : rsO r1 e1 with
  | none => rw [hr] at post1; exact post1.elim
  | some d0 =>
    rw [hr] at post1
    by_cases ht : tyOf t d0 = true
    · have post1 : Post G F B1 σ (relE G) (if tyOf t d0 = true then R.bind (evOs os e1) fun rs e2 => R.ofO (do let d ← rsO r1 e2; let ds ← rsOs rs e2; f d ds) e2 else .bad) Q := post1
      rw [if_pos ht] at post1
      refine ⟨?_, F, B1, e1, rep1, Post.weak (Post.bind post1) ?_⟩
      · have z := rsO_H rep1 rl1 hr
        cases d0 with
        | str y =>
          rw [rh_str z]
          exact beq_iff_eq.mp ht
        | lst ds =>
          obtain ⟨p, xs, rfl, g1, g2⟩ := rh_lst rep1.ex z
          exact .inl ⟨beq_iff_eq.mp ht, xs, .of g1⟩
        | _ => cases ht
      · rintro vs H2 ⟨B2, e2, rs, ex2, rep2, rl2, post2⟩
        cases h1 : rsO r1 e2 with
        | none => rw [h1] at post2; exact post2.elim
        | some dx =>
          cases h2 : rsOs rs e2 with
          | none => rw [h1, h2] at post2; exact post2.elim
          | some ds =>
            rw [h1, h2] at post2
            have post2 : Post G F B2 σ (relE G) (R.ofO (f dx ds) e2) Q := post2
            cases hf : f dx ds with
            | none => rw [hf] at post2; exact post2.elim
            | some d =>
              rw [hf] at post2
              exact hd B2 H2 x vs dx ds d Q rep2.ex (rsO_ok rl1 ex2 rep2 h1) (rsOs_ok rep2 rl2 h2) hf fun v B' H' g rp => post2 v B' H' g.ex (rep2.grow g) rp
    · have post1 : Post G F B1 σ (relE G) (if tyOf t d0 = true then R.bind (evOs os e1) fun rs e2 => R.ofO (do let d ← rsO r1 e2; let ds ← rsOs rs e2; f d ds) e2 else .bad) Q := post1
      rw [if_neg ht] at post1; exact post1.elim
end
section
variable {T : Tb}
def strOf : D → Option Str
  | .str x => some x
  | _ => none
theorem strs_of {B : Hp} : ∀ {ds : List D} {xs : List V} {bs : List Str}, RpL T B ds xs → ds.mapM strOf = some bs → xs = bs.map V.str
  | [], xs, bs, h, e => by
    simp only [RpL] at h
    subst h
    cases e; rfl
  | d :: ds, xs, bs, h, e => by
    simp only [RpL] at h
    obtain ⟨x, r, rfl, h1, h2⟩ := h
    rw [List.mapM_cons] at e
    cases d with
    | str b =>
      cases q : ds.mapM strOf with
      | none => rw [q] at e; cases e
      | some cs =>
        rw [q] at e
        cases e
        have h1 : x = .str b := by simpa only [Rp] using h1
        rw [h1, strs_of h2 q]; rfl
    | _ => cases e
def fSCount : D → List D → Option D
  | .str a, [.str b] => some (.int (Txt.count a b))
  | _, _ => none
theorem md_scount : MtD T (fun x xs H Q => ∃ a b, x = .str a ∧ xs = [.str b] ∧ Q (.int (Txt.count a b)) H) fSCount := by
  intro B H x vs dx ds d Q ex h1 h2 hf q
  unfold fSCount at hf
  split at hf
  · obtain ⟨v, rfl, hv⟩ := hl1 h2
    cases hf
    exact ⟨_, _, rh_str h1, by rw [rh_str hv], fin_q ex q (by simp only [Rp])⟩
  · cases hf
def fJoin : D → List D → Option D
  | .str a, [.lst ds] => match ds.mapM strOf with
    | some ys => if (ys.map (·.length)).sum + ys.length * a.length ≤ 100000 then some (.str (Txt.join a ys)) else none
    | none => none
  | _, _ => none
theorem md_join : MtD T (fun x xs H Q => ∃ a p, ∃ ys : List Str, x = .str a ∧ xs = [.ref p] ∧ (SqL T.K H p (ys.map V.str) ∨ SqT T.K H p (ys.map V.str)) ∧
    (ys.map (·.length)).sum + ys.length * a.length ≤ 16777216 ∧ Q (.str (Txt.join a ys)) H) fJoin := by
  intro B H x vs dx ds d Q ex h1 h2 hf q
  unfold fJoin at hf
  split at hf
  · obtain ⟨v, rfl, hv⟩ := hl1 h2
    split at hf
    · rename_i ys hys
      split at hf
      · rename_i hz
        cases hf
        obtain ⟨p, xs, rfl, e1, r1⟩ := rh_lst ex hv
        have := strs_of r1 hys
        subst this
        exact ⟨_, p, ys, rh_str h1, rfl, .inl (.of e1), by omega, fin_q ex q (by simp only [Rp])⟩
      · cases hf
    · cases hf
  · cases hf
def fIndex : D → List D → Option D
  | .lst ds, [.int k] => match ds.mapM intOf with
    | some ns => if ns.contains k = true then some (.int (ns.idxOf k)) else none
    | none => none
  | _, _ => none
theorem md_index : MtD T (rIndex T.K) fIndex := by
  intro B H x vs dx ds d Q ex h1 h2 hf q
  unfold fIndex at hf
  split at hf
  · rename_i ds0 k
    obtain ⟨v, rfl, hv⟩ := hl1 h2
    split at hf
    · rename_i ns hns
      split at hf
      · rename_i hc
        cases hf
        obtain ⟨p, xs, rfl, e1, r1⟩ := rh_lst ex h1
        have := ints_of r1 hns
        subst this
        have mem : k ∈ ns := by simpa using hc
        have lt : ns.idxOf k < ns.length := List.idxOf_lt_length_iff.mpr mem
        refine ⟨p, ns.map V.int, .int k, ns.idxOf k, .int k, rfl, by rw [rh_int hv], .of e1, rfl, ?_, ?_, ?_, ?_, fin_q ex q (by simp only [Rp])⟩
        · rw [List.all_map]; exact List.all_eq_true.mpr fun _ _ => rfl
        · rw [List.getElem?_map, List.getElem?_eq_getElem lt, List.getElem_idxOf lt]; rfl
        · simp [eqV]
        · intro m z' hm hz
          rw [List.getElem?_map, List.getElem?_eq_getElem (Nat.lt_trans hm lt)] at hz
          cases hz
          have ne : ns[m]'(Nat.lt_trans hm lt) ≠ k := PySem.SeqAt.lt_idxOf_ne hm (Nat.lt_trans hm lt)
          show (ns[m]'(Nat.lt_trans hm lt) == k) = false
          exact beq_eq_false_iff_ne.mpr ne
      · cases hf
    · cases hf
  · cases hf
def fLCount : D → List D → Option D
  | .lst ds, [.int k] => (ds.mapM intOf).map fun ns => .int (ns.count k)
  | _, _ => none
theorem md_lcount : MtD T (L2.rCntI T.K) fLCount := by
  intro B H x vs dx ds d Q ex h1 h2 hf q
  unfold fLCount at hf
  split at hf
  · rename_i ds0 k
    obtain ⟨v, rfl, hv⟩ := hl1 h2
    obtain ⟨ns, hns, rfl⟩ := Option.map_eq_some_iff.mp hf
    obtain ⟨p, xs, rfl, e1, r1⟩ := rh_lst ex h1
    have := ints_of r1 hns
    subst this
    exact ⟨p, ns, k, rfl, by rw [rh_int hv], .of e1, fin_q ex q (by simp only [Rp])⟩
  · cases hf
end
end Fl

namespace Fl
open PySem PySem.Spec PyProof.Rows L2

/-! ## small things for the printed derivations -/
theorem hu64 {k : Nat} {A : Around} (r : Room k A) : A.units + 64 < cLine := by have := r.un; omega
theorem hu65 {k : Nat} {A : Around} (r : Room k A) : A.units + 65 < cLine := by have := r.un; omega
/-- a class over ValueError -/
structure Exc (K : PySem.W.Frag) (mg : Str → Option Value) (x : Str) (C : Addr) : Prop where
  g : mg x = some (.ref C)
  ex : PySem.W.excIn K C [.type "ValueError", .type "Exception", .type "BaseException", .type "object"] "ValueError.__new__" = true
  kp : PySem.W.keepIn K (.ref C) = true
  sb : PySem.W.subIn K (.ref C) (.type "BaseException") = some true
  ty : PySem.W.typeIn K (.ref C) = some (.type "type")
theorem takes_nox {X : Cx} (G : Gs) : Takes X G.nox.W := takes0
/-- which class a number tells -/
def xcOf (Cs : List Addr) : Nat → Value := fun i => match Cs[i]? with
  | some C => .ref C
  | none => .none
end Fl

namespace Fl
open PySem PySem.Spec PyProof.Rows L2

/-! ## a comprehension over a list of one's own -/
def vLcO (i : Nat) (f : D → Env → Option Env) (tt : Env → R Bool) (te : M) (vs : List Nat) : M := fun e => match e[i]? with
  | some (some (.lst ds)) => if ds.length ≤ 1000000 then (match lcL f tt te vs ds (wipeE (e.set i none) vs) with
    | .ok xs e2 => .ok (.lst xs) ((restE (e.set i none) e2 vs).set i (some (.lst ds)))
    | _ => .bad) else .bad
  | _ => .bad
section
variable {X : Cx} {G : Gs} {f : D → Env → Option Env} {tt : Env → R Bool} {te : M} {g : TG} {elt tg : Expr} {ifs : List Expr} {scope : Scope} {own : List (Str × Nat)} {x : Str} {p pos spos py : Pos} {rel : Rel D V}
theorem lf_lcO {i : Nat} (hv : PE X (.Name x p) (tVar i)) (ho : G.O i = true) (hio : i ≠ 0) (hK : G.T.K = X.K) (hc : X.calm = true) (hN : X.N.Nodup) (ok : BlkOk X.N X.env.scope scope own) (hO : ∀ v ∈ own.map (·.2), G.O v = false) (tgo : TgOk G.nox (own.map (·.2)) g f)
    (hg : ∀ (s : Shared) (H : Hp) (C : Addr) (cl : List (Str × Addr)) (fp : List Addr), PG (X.blk s H scope (compEnvC scope cl C X.env) fp) tg g) (ht : ∀ (s : Shared) (H : Hp) (C : Addr) (cl : List (Str × Addr)) (fp : List Addr), PTs (X.blk s H scope (compEnvC scope cl C X.env) fp) ifs (tT G.nox tt))
    (he : ∀ (s : Shared) (H : Hp) (C : Addr) (cl : List (Str × Addr)) (fp : List Addr), PE (X.blk s H scope (compEnvC scope cl C X.env) fp) elt (tE G.nox te)) (hs : ∀ x', foldedSetIterable (.Name x p) X.env x' = pure x' := by intro _; rfl) :
    PE X (.ListComp elt [⟨tg, .Name x p, ifs, 0⟩] scope pos) (tF G (vLcO i f tt te (own.map (·.2)))) := pe_imp (pe_lc hc hN (pi_list hv) ok hg ht he hs) fun σ H Q h => by
  obtain ⟨F, B, e, rep, post⟩ := h
  have post : Post G F B σ (relF G) (match e[i]? with
    | some (some (.lst ds)) => if ds.length ≤ 1000000 then (match lcL f tt te (own.map (·.2)) ds (wipeE (e.set i none) (own.map (·.2))) with
      | .ok xs e2 => .ok (.lst xs) ((restE (e.set i none) e2 (own.map (·.2))).set i (some (.lst ds)))
      | _ => .bad) else .bad
    | _ => .bad) Q := post
  split at post
  · rename_i ds hd
    obtain ⟨c, o, h1, h2, h3, h4, h5⟩ := rep.ow i _ ho hd
    have h5 : At G.T B o (.lst ds) := h5
    simp only [At] at h5
    obtain ⟨xs, rfl, h6⟩ := h5
    have fresh : ∀ j d', G.O j = true → (e.set i none)[j]? = some (some d') → σ[j]? ≠ some (some (.ref c)) := fun j d' hj he hs => by
      by_cases q : i = j
      · subst q
        by_cases l : i < e.length
        · rw [List.getElem?_set_self l] at he; cases he
        · rw [List.getElem?_eq_none (by simpa using l)] at he; cases he
      · rw [List.getElem?_set_ne q] at he
        exact rep.ne i j _ d' c ho hj q hd he h1 hs
    have repP := (rep.gone i).pin h2 h3 h4 fresh
    by_cases hl : ds.length ≤ 1000000
    · rw [if_pos hl] at post
      split at post
      · rename_i full eEnd hq
        refine ⟨.ref c, h1, c, rfl, ⟨xs, .of h4⟩, fun D hD => ?_⟩
        have wk : Wk G.T (upd F.H0 c (.lst xs)) (Itl X.K c) ds (fun B => RpL G.T B ds xs) := by
          have hc0 : ∀ H' : Hp, Ex (upd F.H0 c (.lst xs)) H' → H' c = some (.lst xs) := fun H' q => q c _ upd_same
          refine ⟨fun B B' ex p2 => RpL.mono ex _ _ p2, fun k B H p2 ex exH hk => ?_, fun k B H y H' d p2 ex exH hd hy => ?_, fun k B H p2 ex exH hk => ?_⟩
          · have hk' : k < xs.length := by rw [p2.length]; exact hk
            exact ⟨xs, xs[k], .of (hc0 _ exH), List.getElem?_eq_getElem hk'⟩
          · obtain ⟨rfl, hy⟩ := hy
            obtain ⟨z, g1, g2⟩ := p2.get hd
            have := hy xs (.of (hc0 _ exH))
            rw [g1] at this
            cases this
            exact ⟨B, .rfl ex, g2⟩
          · exact ⟨xs, .of (hc0 _ exH), by rw [p2.length]; exact hk⟩
        refine lc_core hO tgo repP h6 wk hl hq D hD ?_
        rintro v B' H' x' rep' ⟨p', o', rfl, k1, k2, k3, k4, k5⟩
        obtain ⟨u1, u2, u3, u4⟩ := Rep.unpin (by intro _ z; cases z) h3 (rep.b0.none h2) rep'
        have k2' : F.H0 p' = none := by
          have k2 : upd F.H0 c (.lst xs) p' = none := k2
          by_cases q : p' = c
          · subst q; rw [upd_same] at k2; cases k2
          · rw [upd_ne q] at k2; exact k2
        have npc : p' ≠ c := by
          rintro rfl
          have k2 : upd F.H0 p' (.lst xs) p' = none := k2
          rw [upd_same] at k2; cases k2
        have rt := u1.take (d := .lst ds) ho hio u2 h3 u3 (by simp only [At]; exact ⟨xs, rfl, RpL.mono x' _ _ h6⟩) u4
        have es : σ.set i (some (.ref c)) = σ := by
          refine List.ext_getElem? fun j => ?_
          by_cases q : i = j
          · subst q
            have l := (List.getElem?_eq_some_iff.mp h1).1
            rw [List.getElem?_set_self l, h1]
          · rw [List.getElem?_set_ne q]
        rw [es] at rt
        refine post (.ref p') B' H' x' rt ⟨p', o', rfl, k1, k2', k3, k4, fun j d' hj he hs => ?_⟩
        by_cases q : i = j
        · subst q
          rw [h1] at hs
          cases hs
          exact npc rfl
        · rw [List.getElem?_set_ne q] at he
          exact k5 j d' hj he hs
      · exact post.elim
    · rw [if_neg hl] at post; exact post.elim
  · exact post.elim
end

/-! ## targets that are places of lists of one's own -/
def putAt (i : Nat) (mi : M) (d : D) (e : Env) : Option Env := match e[i]? with
  | some (some (.lst _)) => (match mi e with
    | .ok (.int k) e1 => (match e1[i]? with
      | some (some (.lst ds)) => (ixN ds.length k).map fun j => e1.set i (some (.lst (ds.set j d)))
      | _ => none)
    | _ => none)
  | _ => none
def gSubs2 (i j : Nat) (mi mj : M) : D → Env → Option Env := fun d e => match d with
  | .tup [x, y] => (putAt i mi x e).bind fun e1 => putAt j mj y e1
  | _ => none
section
variable {X : Cx} {G : Gs} {a b : Expr} {mi mj : M} {p q t1 t2 pos : Pos}
theorem sub_t {i : Nat} {d : D} {v : V} {σ : L2.St} {H : Hp} {Q : L2.St → Hp → Prop} {F : Fm} {B : Hp} {e e' : Env} (ho : G.O i = true) (rep : Rep G F B σ H e) (rp : Rp G.T B d v) (hf : putAt i mi d e = some e')
    (k : ∀ B' H', Ex B B' → Rep G F B' σ H' e' → Q σ H') : gSub (tVar i) (tE G mi) rSetL v σ H Q := by
  unfold putAt at hf
  split at hf
  · rename_i d0 he
    obtain ⟨c, xs0, g1, g2, _⟩ := own_at rep ho he
    refine ⟨.ref c, g1, F, B, e, rep, ?_⟩
    split at hf
    · rename_i k' e1 hm
      rw [hm]
      rintro y B1 H1 ex1 rep1 rl
      have rl : y = .int k' := by simpa only [relE, Rp] using rl
      split at hf
      · rename_i ds he1
        obtain ⟨j, hj, rfl⟩ := Option.map_eq_some_iff.mp hf
        obtain ⟨xs, q1, q2⟩ := own_at' rep1 ho g1 he1
        refine ⟨c, xs, k', j, rfl, rl, q1, by rw [q2.length]; exact hj, ?_⟩
        exact k B1 _ ex1 (rep1.put ho g1 he1 (by simp only [At]; exact ⟨_, rfl, q2.set j (Rp.mono ex1 _ _ rp)⟩))
      · cases hf
    · cases hf
  · cases hf
theorem lg_subs2 {i j : Nat} {x y : Str} {kk : Nat} (hc : X.calm = true) (hv : PE X (.Name x p) (tVar i)) (hw : PE X (.Name y q) (tVar j)) (ho : G.O i = true) (ho2 : G.O j = true) (hi : PE X a (tE G mi)) (hj : PE X b (tE G mj))
    (hp : ∀ v, assign (.Subscript (.Name x p) a t1) X.env v = (do
      let oo ← holding [v] (eval (.Name x p) X.env)
      let ii ← holding [v, oo] (eval a X.env)
      standAt t1
      holding [v, oo, ii] (setItem oo ii v)
      release [v, oo, ii] []) := by intro _; rfl)
    (hp2 : ∀ v, assign (.Subscript (.Name y q) b t2) X.env v = (do
      let oo ← holding [v] (eval (.Name y q) X.env)
      let ii ← holding [v, oo] (eval b X.env)
      standAt t2
      holding [v, oo, ii] (setItem oo ii v)
      release [v, oo, ii] []) := by intro _; rfl)
    (hs : (assignEach [.Subscript (.Name x p) a t1, .Subscript (.Name y q) b t2] X.env).map (·.2) = assign (.Subscript (.Name x p) a t1) X.env :: (assignEach [.Subscript (.Name y q) b t2] X.env).map (·.2) := by rfl)
    (hs2 : (assignEach [.Subscript (.Name y q) b t2] X.env).map (·.2) = assign (.Subscript (.Name y q) b t2) X.env :: (assignEach [] X.env).map (·.2) := by rfl)
    (hn : (assignEach [.Subscript (.Name x p) a t1, .Subscript (.Name y q) b t2] X.env).length = 2 := by rfl) (hst : (assignEach [.Subscript (.Name x p) a t1, .Subscript (.Name y q) b t2] X.env).findIdx? (·.1) = none := by rfl) :
    PG X (.Tuple [.Subscript (.Name x p) a t1, .Subscript (.Name y q) b t2] kk pos) (tG G (gSubs2 i j mi mj)) :=
  pg_imp (pg_tup (n := 2) hc (pgs_cons (pg_sub hv hi set_list hp) (pgs_cons (pg_sub hw hj set_list hp2) pgs_nil hs2) hs) hn hst) fun v σ H Q h => by
    obtain ⟨F, B, e, d, rep, rp, e', he, k⟩ := h
    unfold gSubs2 at he
    split at he
    · rename_i d1 d2
      obtain ⟨e1, h1, h2⟩ := Option.bind_eq_some_iff.mp he
      simp only [Rp] at rp
      obtain ⟨c, xs, rfl, g1, g2⟩ := rp
      obtain ⟨u, w, rfl, r1, r2⟩ := rpl2 (by simpa only [RpL] using g2)
      refine ⟨c, _, rfl, sqt_of rep.ex g1, rfl, u, [w], rfl, sub_t ho rep r1 h1 fun B1 H1 x1 rep1 => ⟨w, [], rfl, sub_t ho2 rep1 (Rp.mono x1 _ _ r2) h2 fun B2 H2 x2 rep2 => ⟨rfl, k B2 _ H2 (x1.trans x2) rep2⟩⟩⟩
    · cases he
end
end Fl

namespace Fl
open PySem PySem.Spec PyProof.Rows L2

/-! ## tuples whose object is known: made by + and tuple(range(..)); index -/
def rCatP (K : PySem.W.Frag) : R2 := fun x y H Q => ∃ a b xs ys, x = .ref a ∧ y = .ref b ∧ SqT K H a xs ∧ SqT K H b ys ∧ xs ≠ [] ∧ ys ≠ [] ∧ xs.length + ys.length ≤ sizeLine ∧
  ∀ p o, H p = none → o.cls = .type "tuple" → o.dict = none → Q (.ref p) (upd H p (.frz o (.tup (xs ++ ys))))
theorem op_catP {X : Cx} : OpR X (binaryOp .Add) (rCatP X.K) := by
  intro pins s σ H x y v u Q I rx ry h
  obtain ⟨a, b, xs, ys, rfl, rfl, ha, hb, hx, hy, hz, q⟩ := h
  cases rx
  cases ry
  obtain ⟨its, r1, p1, _⟩ := I.tuple ha
  obtain ⟨its2, r2, p2, _⟩ := I.tuple hb
  refine HT.cat_tup p1 p2 (fun z => hx (r1.nil_iff.mp z)) (fun z => absurd (r2.nil_iff.mp z) hy) (fun z => ?_) (by rw [← r1.length, ← r2.length]; exact hz)
  refine ⟨.ref s.heap.objs.size, _, I.laid (t' := s.toks) (o := .frz { cls := .type "tuple", data := .seq (its ++ its2).toArray } (.tup (xs ++ ys))) (fun b ob q => Heap.get?_push_of_some _ q) (Nat.le_refl _) ?_, rfl, q _ _ (I.hok.fresh (Nat.le_refl _)) rfl rfl⟩
  refine ⟨?_, by rw [List.length_append]; exact hz, _, r1.append r2, ?_⟩
  · first | exact Heap.get?_push_size _ rfl | (simpa using Heap.get?_push_size _ rfl)
  · first | exact IsTup.new _ _ | (simpa using IsTup.new _ _)
def dAddP : D → D → Option D := fun a b => match tupL a, tupL b with
  | some xs, some ys => if xs ≠ [] ∧ ys ≠ [] ∧ xs.length + ys.length ≤ 1000000 then some (.ptp (xs ++ ys)) else none
  | _, _ => none
theorem od_addP {T : Tb} : OpD T (rCatP T.K) dAddP := by
  intro B H x y d1 d2 d Q ex h1 h2 hf q
  unfold dAddP at hf
  split at hf
  · rename_i xs ys e1 e2
    split at hf
    · rename_i hl
      cases hf
      obtain ⟨a, us, rfl, g1, r1⟩ := rh_tupL (K := T.K) ex h1 e1
      obtain ⟨b, ws, rfl, g2, r2⟩ := rh_tupL (K := T.K) ex h2 e2
      refine ⟨a, b, us, ws, rfl, rfl, g1, g2, ?_, ?_, ?_, fun p o hp hc hd => ?_⟩
      · rintro rfl; exact hl.1 (List.length_eq_zero_iff.mp (by rw [← r1.length]; rfl))
      · rintro rfl; exact hl.2.1 (List.length_eq_zero_iff.mp (by rw [← r2.length]; rfl))
      · rw [r1.length, r2.length]; exact million hl.2.2
      · refine q _ (upd B p (.frz o (.tup (us ++ ws)))) _ (.new ex hp) ?_
        simp only [Rp]
        exact ⟨p, _, o, rfl, upd_same, hc, hd, RpL.mono (.new (ex.none hp)) _ _ (r1.append r2)⟩
    · cases hf
  · cases hf
section
variable {X : Cx} {G : Gs} {a b e : Expr} {m m2 : M} {g : Env → R (Int × Int)} {p pos : Pos}
def tTupRgP (te : L2.St → Hp → (Int → Int → Hp → Prop) → Prop) : TE := fun σ H Q => te σ H fun a b H1 => RgOk a b ∧ ∀ q o, H1 q = none → o.cls = .type "tuple" → o.dict = none → Q (.ref q) (upd H1 q (.frz o (.tup (rgV a b))))
theorem pe_tupRgP {te : L2.St → Hp → (Int → Int → Hp → Prop) → Prop} (hc : X.calm = true) (hg : Gl X "tuple") (hm : X.mg "tuple" = none) (he : PRg X e te) (na : starEach [e] X.env = (false, eval e X.env) :: starEach [] X.env := by rfl) : PE X (.Call (.Name "tuple" p) [e] [] pos) (tTupRgP te) := by
  refine ⟨fun pins s σ H Q I h => ?_⟩
  refine Call_ (ld_blt I hg hm boot_tuple (PyProof.Rows.callWith_type1 (args_cons (thn (he pins s σ H _ I h) fun x s1 ⟨r, a, b, t, u, v, H1, ex, hr, I1, ok, q⟩ => args_nil ?_) na) na))
  subst ex
  obtain ⟨b1, b2, b3, b4, b5⟩ := ok
  refine call_tuple_range (n := (b - a).toNat) (I1.ok.hd hc) hr (small_one b1 b2 b3 b4) (rangeSize_nat a b) b5 fun h' tk acc hk hi => ?_
  have I2 : Inv X pins σ H1 { s1 with heap := h', toks := tk } := I1.kept hk
  refine ⟨.ref h'.objs.size, _, I2.laid (t' := tk) (o := .frz { cls := .type "tuple", data := .seq acc } (.tup (rgV a b))) (fun c o e => Heap.get?_push_of_some _ e) (Nat.le_refl _) ⟨Heap.get?_push_size _ rfl, ?_, acc.toList, vals_rg hi, ?_⟩, rfl, q _ _ (I2.hok.fresh (Nat.le_refl _)) rfl rfl⟩
  · rw [rgV_length, sizeLine_eq]; omega
  · rw [Array.toArray_toList]; exact IsTup.new _ _
def vTupRgP (g : Env → R (Int × Int)) : M := fun e => R.bind (g e) fun ab e1 => if rgOk ab.1 ab.2 = true then .ok (.ptp (rgD ab.1 ab.2)) e1 else .bad
theorem le_tupRgP (hm : X.mg "tuple" = none) (hc : X.calm = true) (he : PRg X e (tRg G g)) (hg : Gl X "tuple") (na : starEach [e] X.env = (false, eval e X.env) :: starEach [] X.env := by rfl) : PE X (.Call (.Name "tuple" p) [e] [] pos) (tE G (vTupRgP g)) :=
  pe_imp (pe_tupRgP hc hg hm he na) fun σ H Q h => by
    obtain ⟨F, B, e, rep, post⟩ := h
    refine ⟨F, B, e, rep, Post.weak (Post.bind post) ?_⟩
    rintro ⟨i, j⟩ H1 ⟨B1, e1, ⟨i', j'⟩, ex1, rep1, rl, post1⟩
    cases rl
    by_cases hk : rgOk i j = true
    · have post1 : Post G F B1 σ (relE G) (if rgOk i j = true then R.ok (.ptp (rgD i j)) e1 else .bad) Q := post1
      rw [if_pos hk] at post1
      refine ⟨rgOk_ok hk, fun q o hq hc hd => ?_⟩
      refine post1 (.ref q) (upd B1 q (.frz o (.tup (rgV i j)))) _ (.new (rep1.ex.none hq)) (rep1.grow (.new rep1.ex hq)) ?_
      simp only [relE, Rp]
      exact ⟨q, _, o, rfl, upd_same, hc, hd, rg_rp _ _⟩
    · have post1 : Post G F B1 σ (relE G) (if rgOk i j = true then R.ok (.ptp (rgD i j)) e1 else .bad) Q := post1
      rw [if_neg hk] at post1; exact post1.elim
end
/-! ### t.index(k) -/
def rTIx : V → List V → Hp → VK → Prop := fun x xs H Q => ∃ (p : Addr) (o : Obj) (ns : List Int) (k : Int), x = .ref p ∧ xs = [.int k] ∧ H p = some (.frz o (.tup (ns.map V.int))) ∧ k ∈ ns ∧ Q (.int (ns.idxOf k : Nat)) H
theorem mt_tix {X : Cx} : MtR X "tuple.index" rTIx := by
  intro pins s σ H x xs v us Q I rx rs h
  obtain ⟨p, o, ns, k, rfl, rfl, hq, hk, q⟩ := h
  cases rx
  obtain ⟨u, rfl, ru⟩ := rs.one
  obtain ⟨t, rfl⟩ := ru
  obtain ⟨ho0, _, its, r, ⟨⟨cls, dd, dt, sl⟩, ho, hc, n, hd⟩⟩ := (show ObjOk X.prog X.w H s.heap p (.frz o (.tup (ns.map V.int))) from I.hok p _ hq)
  simp only at hc hd
  subst hc
  subst hd
  have hi := ints_of_vals r
  have hl : its.length = ns.length := by rw [← r.length, List.length_map]
  have lt : ns.idxOf k < ns.length := List.idxOf_lt_length_iff.mpr hk
  have hj : ns.idxOf k < its.toArray.size := by rw [List.size_toArray, hl]; exact lt
  have at' : ∀ (m : Nat) (hm : m < its.toArray.size), ∃ t', its.toArray[m] = Value.int (ns[m]'(by rw [← hl]; simpa using hm)) t' := fun m hm => by
    have hm' : m < ns.length := by rw [← hl]; simpa using hm
    obtain ⟨w, hw, t', hw'⟩ := r.get (i := m) (x := .int ns[m]) (by simp [hm'])
    refine ⟨t', ?_⟩
    have e := (List.getElem?_eq_some_iff.mp hw).2
    rw [← hw', ← e]
    simp
  refine call_meets PySem.F.slot_tuple_index ⟨_, ho, rfl⟩ PySem.F.entry_tuple_index (PySem.F.args_tuple_index_2 _ _) (TI.tuple_indexAt p its.toArray n dd sl (.int k t) (L2.eqk k) (ns.idxOf k) hj ?_ ?_)
    ⟨ho, fun w hw => (L2.eqk_gives hi w (by simpa using hw)).at _ _, ⟨.int (ns.idxOf k : Nat), H, I.tok _, ⟨_, rfl⟩, q⟩⟩
  · obtain ⟨t', h2⟩ := at' _ hj
    rw [h2]
    show (ns[ns.idxOf k] == k) = true
    rw [List.getElem_idxOf lt]
    exact beq_self_eq_true k
  · intro m hm hmj
    obtain ⟨t', h2⟩ := at' m hm
    rw [h2]
    exact beq_eq_false_iff_ne.mpr (PySem.SeqAt.lt_idxOf_ne hmj (by rw [← hl]; simpa using hm))
def vTix (m m2 : M) : M := fun e => R.bind (m e) fun d e1 => match d with
  | .ptp ds => R.bind (m2 e1) fun k e2 => (match k with
    | .int k => (match ds.mapM intOf with
      | some ns => if ns.contains k = true then .ok (.int (ns.idxOf k)) e2 else .bad
      | none => .bad)
    | _ => .bad)
  | _ => .bad
section
variable {X : Cx} {G : Gs} {a ob : Expr} {m m2 : M} {apos pos : Pos}
theorem le_tix (ho : PE X ob (tE G m)) (ha : PE X a (tE G m2))
    (hbase : attributeBase ob "index" X.env (eval ob X.env) = eval ob X.env := by rfl)
    (hfew : ((backTo pos (starEach [a] X.env)).all (fun x => !x.1) && (backToKw pos (keywordEach [] X.env)).all (fun x => x.1.isSome)
      && decide ([a].length + ([] : List Keyword).length + (if ([] : List Keyword).isEmpty then 0 else 1) < 30)) = true := by rfl)
    (hline : (apos.endLine == pos.line) = true := by rfl) (hs : starEach [a] X.env = (false, eval a X.env) :: starEach [] X.env := by rfl) (hplain : (backTo pos (starEach [] X.env)).any (·.1) = false := by rfl) :
    PE X (.Call (.Attribute ob "index" apos) [a] [] pos) (tE G (vTix m m2)) := by
  have base : PE X (.Call (.Attribute ob "index" apos) [a] [] pos) (fun σ H Q => tE G m σ H fun x H1 => (∃ p o xs, x = .ref p ∧ H1 p = some (.frz o (.tup xs)) ∧ o.cls = .type "tuple" ∧ o.dict = none) ∧ tCons (tE G m2) tNil σ H1 fun xs H2 => rTIx x xs H2 Q) := by
    refine ⟨fun pins s σ H Q I h => ?_⟩
    refine wpAny_Call_method_late hbase hfew hline rfl (thn (ho.run pins s σ H _ I h) fun v s1 ⟨x, H1, I1, r1, ty, q1⟩ => ?_)
    obtain ⟨p, o, xs, rfl, hp, hc, hd⟩ := ty
    cases r1
    obtain ⟨ho0, _⟩ := (show ObjOk X.prog X.w H1 s1.heap p (.frz o (.tup xs)) from I1.hok p _ hp)
    refine ⟨"tuple", "tuple.index", PySem.F.plainAttrs_tuple, PySem.F.slot_tuple_index, PySem.F.type_tuple_index, ⟨o, ho0, hc⟩, fun a e => (by cases e; exact ⟨o, ho0, hd⟩), ?_⟩
    have hA := (pa_cons ha pa_nil hs).run pos pins s1 σ H1 _ I1 q1
    rw [hs] at hA ⊢
    refine Calls.callWith_builtin (by show (false || (backTo pos (starEach [] X.env)).any (·.1)) = false; rw [hplain] <;> rfl) (Calls.evalArgs_plain ?_)
    exact thn hA fun us s2 ⟨vs, H2, I2, r2, q2⟩ => mt_tix pins s2 σ H2 (.ref p) vs (.ref p) us Q I2 rfl r2 q2
  refine pe_imp base fun σ H Q h => ?_
  obtain ⟨F, B, e, rep, post⟩ := h
  refine ⟨F, B, e, rep, Post.weak (Post.bind post) ?_⟩
  rintro x H1 ⟨B1, e1, d, ex1, rep1, rl, post1⟩
  cases d with
  | ptp ds =>
    simp only [relE, Rp] at rl
    obtain ⟨p, xs, o, rfl, h1, h2, h3, h4⟩ := rl
    refine ⟨⟨p, o, xs, rfl, rep1.ex _ _ h1, h2, h3⟩, F, B1, e1, rep1, Post.weak (Post.bind post1) ?_⟩
    rintro y H2 ⟨B2, e2, dk, ex2, rep2, rl2, post2⟩
    cases dk with
    | int k =>
      have rl2 : y = .int k := by simpa only [relE, Rp] using rl2
      have post2 : Post G F B2 σ (relE G) (match ds.mapM intOf with
        | some ns => if ns.contains k = true then .ok (.int (ns.idxOf k)) e2 else .bad
        | none => .bad) Q := post2
      split at post2
      · rename_i ns hns
        split at post2
        · rename_i hk
          have := ints_of h4 hns
          subst this
          exact ⟨p, o, ns, k, rfl, by rw [rl2], rep2.ex _ _ (ex2 _ _ h1), by simpa using hk, post2 (.int (ns.idxOf k : Nat)) B2 H2 .rfl rep2 (by simp only [relE, Rp])⟩
        · exact post2.elim
      · exact post2.elim
    | _ => exact post2.elim
  | _ => exact post1.elim
end
end Fl

namespace Fl
open PySem PySem.Spec PyProof.Rows L2

/-! ## small rules, later ones -/
end Fl

namespace Fl
open PySem PySem.Spec PyProof.Rows L2

/-! ## dicts: what they hold -/
def dFind {κ : Type} [DecidableEq κ] (kf : D → Option κ) (k : D) : List D → List D → Option D
  | x :: xs, v :: vs => if kf x = kf k then some v else dFind kf k xs vs
  | _, _ => none
def dRepl {κ : Type} [DecidableEq κ] (kf : D → Option κ) (k v : D) : List D → List D → List D
  | x :: xs, u :: vs => (if kf x = kf k then v else u) :: dRepl kf k v xs vs
  | _, _ => []
/-- is the key there -/
def dHas {κ : Type} [DecidableEq κ] (kf : D → Option κ) (k : D) (ks : List D) : Bool := ks.any fun x => decide (kf x = kf k)
def dGot : D → D → Option (Option D)
  | .dct false ks vs, k => if (keyD k).isSome = true then some (dFind keyD k ks vs) else none
  | .dct true ks vs, k => if (keyT k).isSome = true then some (dFind keyT k ks vs) else none
  | _, _ => none
def dPut (d k v : D) : Option D := match d with
  | .dct false ks vs => if (keyD k).isSome = true ∧ ks.length < 1000000 then some (if dHas keyD k ks = true then .dct false ks (dRepl keyD k v ks vs) else .dct false (ks ++ [k]) (vs ++ [v])) else none
  | .dct true ks vs => if (keyT k).isSome = true ∧ ks.length < 1000000 then some (if dHas keyT k ks = true then .dct true ks (dRepl keyT k v ks vs) else .dct true (ks ++ [k]) (vs ++ [v])) else none
  | _ => none
section
variable {T : Tb} {B H : Hp} {κ : Type} [DecidableEq κ] {kf : D → Option κ} {k : D} {key : κ}
theorem find_rp (hk : kf k = some key) : ∀ {kvs : List (κ × V)} {ks vs : List D}, ks.map kf = kvs.map (fun p => some p.1) → RpL T B vs (kvs.map (·.2)) →
    (∃ d v, dFind kf k ks vs = some d ∧ valV kvs key = some v ∧ Rp T B d v) ∨ (dFind kf k ks vs = none ∧ valV kvs key = none)
  | [], ks, vs, h1, h2 => by
    have : ks = [] := by simpa using h1
    subst this
    exact .inr ⟨by cases vs <;> rfl, rfl⟩
  | p :: kvs, ks, vs, h1, h2 => by
    cases ks with
    | nil => simp at h1
    | cons x xs =>
      cases vs with
      | nil => simp [RpL] at h2
      | cons u us =>
        simp only [List.map_cons, List.cons.injEq] at h1
        simp only [List.map_cons, RpL] at h2
        obtain ⟨y, r, e, r1, r2⟩ := h2
        injection e with e1 e2
        subst e1 e2
        by_cases c : p.1 = key
        · refine .inl ⟨u, p.2, ?_, valV_pos c, r1⟩
          unfold dFind
          rw [if_pos (by rw [h1.1, hk, c])]
        · have n : ¬ kf x = kf k := fun z => c (by rw [h1.1, hk] at z; exact Option.some.inj z)
          rw [valV_neg c]
          unfold dFind
          rw [if_neg n]
          exact find_rp hk h1.2 r2
theorem has_rp (hk : kf k = some key) : ∀ {kvs : List (κ × V)} {ks : List D}, ks.map kf = kvs.map (fun p => some p.1) → dHas kf k ks = kvs.any fun kv => decide (kv.1 = key)
  | [], ks, h1 => by
    have : ks = [] := by simpa using h1
    subst this; rfl
  | p :: kvs, ks, h1 => by
    cases ks with
    | nil => simp at h1
    | cons x xs =>
      simp only [List.map_cons, List.cons.injEq] at h1
      have ih := has_rp hk h1.2
      unfold dHas at ih ⊢
      rw [List.any_cons, List.any_cons, ih, h1.1, hk]
      congr 1
      exact decide_eq_decide.mpr ⟨fun z => Option.some.inj z, fun z => by rw [z]⟩
theorem repl_rp {d : D} {v : V} (hk : kf k = some key) (rv : Rp T B d v) : ∀ {kvs : List (κ × V)} {ks vs : List D}, ks.map kf = kvs.map (fun p => some p.1) → RpL T B vs (kvs.map (·.2)) →
    ks.map kf = (kvs.map fun kv => if kv.1 = key then (kv.1, v) else kv).map (fun p => some p.1) ∧ RpL T B (dRepl kf k d ks vs) ((kvs.map fun kv => if kv.1 = key then (kv.1, v) else kv).map (·.2))
  | [], ks, vs, h1, h2 => by
    have : ks = [] := by simpa using h1
    subst this
    exact ⟨rfl, by cases vs <;> simp [dRepl, RpL]⟩
  | p :: kvs, ks, vs, h1, h2 => by
    cases ks with
    | nil => simp at h1
    | cons x xs =>
      cases vs with
      | nil => simp [RpL] at h2
      | cons u us =>
        simp only [List.map_cons, List.cons.injEq] at h1
        simp only [List.map_cons, RpL] at h2
        obtain ⟨y, r, e, r1, r2⟩ := h2
        injection e with e1 e2
        subst e1 e2
        obtain ⟨i1, i2⟩ := repl_rp hk rv h1.2 r2
        have c : kf x = kf k ↔ p.1 = key := ⟨fun z => by rw [h1.1, hk] at z; exact Option.some.inj z, fun z => by rw [h1.1, hk, z]⟩
        rw [List.map_cons, List.map_cons, List.map_cons, List.map_cons]
        unfold dRepl
        by_cases q : p.1 = key
        · rw [if_pos q, if_pos (c.mpr q)]
          refine ⟨?_, ?_⟩
          · rw [i1, h1.1]
          · simp only [RpL]; exact ⟨_, _, rfl, rv, i2⟩
        · rw [if_neg q, if_neg (fun z => q (c.mp z))]
          refine ⟨?_, ?_⟩
          · rw [i1, h1.1]
          · simp only [RpL]; exact ⟨_, _, rfl, r1, i2⟩
theorem put_rp {d : D} {v : V} (hk : kf k = some key) (rv : Rp T B d v) {kvs : List (κ × V)} {ks vs : List D} (h1 : ks.map kf = kvs.map (fun p => some p.1)) (h2 : RpL T B vs (kvs.map (·.2))) :
    (dHas kf k ks = true → ks.map kf = (putK kvs key v).map (fun p => some p.1) ∧ RpL T B (dRepl kf k d ks vs) ((putK kvs key v).map (·.2))) ∧
    (¬ dHas kf k ks = true → (ks ++ [k]).map kf = (putK kvs key v).map (fun p => some p.1) ∧ RpL T B (vs ++ [d]) ((putK kvs key v).map (·.2))) := by
  have e := has_rp hk h1
  unfold putK
  refine ⟨fun c => ?_, fun c => ?_⟩
  · rw [if_pos (by rw [← e]; exact c)]
    exact repl_rp hk rv h1 h2
  · rw [if_neg (by rw [← e]; exact c)]
    refine ⟨?_, ?_⟩
    · rw [List.map_append, List.map_append, h1, List.map_cons, List.map_cons, hk]; rfl
    · rw [List.map_append]
      exact h2.append (.one rv)
end
section
variable {T : Tb} {B H : Hp}
theorem keyD_rp {k : D} {key : Key} {v : V} (hk : keyD k = some key) (h : RpH T B H k v) : v = kV key := by
  cases k <;> simp only [keyD, reduceCtorEq, Option.some.injEq] at hk
  · subst hk; rw [rh_int h]; rfl
  · subst hk; rw [rh_str h]; rfl
theorem keys_rp : ∀ {ds : List D} {xs : List V} {key : List Key}, RpL T B ds xs → ds.mapM keyD = some key → xs = key.map kV
  | [], xs, key, h, e => by
    simp only [RpL] at h
    subst h
    simp at e
    subst e; rfl
  | d :: ds, xs, key, h, e => by
    simp only [RpL] at h
    obtain ⟨x, r, rfl, h1, h2⟩ := h
    cases q : keyD d with
    | none => simp [List.mapM_cons, q] at e
    | some k =>
      cases q2 : ds.mapM keyD with
      | none => simp [List.mapM_cons, q, q2] at e
      | some ks =>
        simp [List.mapM_cons, q, q2] at e
        subst e
        rw [List.map_cons, keyD_rp q (.inl h1 : RpH T B B d x), keys_rp h2 q2]
theorem keyT_rp {k : D} {key : List Key} {v : V} (ex : Ex B H) (hk : keyT k = some key) (h : RpH T B H k v) : ∃ b, v = .ref b ∧ B b = some (.tup (key.map kV)) := by
  cases k <;> simp only [keyT, reduceCtorEq] at hk
  obtain ⟨a, xs, rfl, h1, h2⟩ := rh_tup h
  rw [keys_rp h2 hk] at h1
  exact ⟨a, rfl, h1⟩
def GotR (T : Tb) (B : Hp) : Option D → Option V → Prop
  | some c, r => ∃ v, r = some v ∧ Rp T B c v
  | none, r => r = none
/-- what a dict's value holds at a key -/
theorem dget_of {d k : D} {x y : V} {o : Option D} (ex : Ex B H) (h1 : RpH T B H d x) (h2 : RpH T B H k y) (hf : dGot d k = some o) : ∃ a r, x = .ref a ∧ DGet H a y r ∧ GotR T B o r := by
  cases d <;> simp only [dGot, reduceCtorEq] at hf
  rename_i t ks vs
  obtain ⟨a, rfl, hd⟩ := rh_dct ex h1
  cases t with
  | false =>
    rcases hd with ⟨_, kvs, g1, g2, g3⟩ | ⟨z, _⟩
    · simp only [dGot] at hf
      split at hf
      · rename_i hs
        obtain ⟨key, hk⟩ := Option.isSome_iff_exists.mp hs
        refine ⟨a, valV kvs key, rfl, .inl ⟨kvs, key, g1, keyD_rp hk h2, rfl⟩, ?_⟩
        cases hf
        rcases find_rp hk g2 g3 with ⟨c, v, e1, e2, e3⟩ | ⟨e1, e2⟩
        · rw [e1]; exact ⟨v, e2, e3⟩
        · rw [e1]; exact e2
      · cases hf
    · cases z
  | true =>
    rcases hd with ⟨z, _⟩ | ⟨_, kvs, g1, g2, g3⟩
    · cases z
    · simp only [dGot] at hf
      split at hf
      · rename_i hs
        obtain ⟨key, hk⟩ := Option.isSome_iff_exists.mp hs
        obtain ⟨b, rfl, hb⟩ := keyT_rp ex hk h2
        refine ⟨a, valV kvs key, rfl, .inr ⟨kvs, key, b, g1, rfl, ex _ _ hb, rfl⟩, ?_⟩
        cases hf
        rcases find_rp hk g2 g3 with ⟨c, v, e1, e2, e3⟩ | ⟨e1, e2⟩
        · rw [e1]; exact ⟨v, e2, e3⟩
        · rw [e1]; exact e2
      · cases hf
end
/-! ### d[k], k in d -/
def dDg (d k : D) : Option D := (dGot d k).join
def rDGet : R2 := fun x y H Q => ∃ a v, x = .ref a ∧ DGet H a y (some v) ∧ Q v H
theorem od_dg {T : Tb} : OpD T rDGet dDg := by
  intro B H x y d1 d2 d Q ex h1 h2 hf q
  unfold dDg at hf
  cases hg : dGot d1 d2 with
  | none => rw [hg] at hf; cases hf
  | some o =>
    rw [hg] at hf
    have hf : o = some d := hf
    subst hf
    obtain ⟨a, r, rfl, g, v, rfl, rv⟩ := dget_of ex h1 h2 hg
    exact ⟨a, v, rfl, g, fin_q ex q rv⟩
def dIsIn (k d : D) : Option D := (dGot d k).map fun o => .bl o.isSome
def dIsNotIn (k d : D) : Option D := (dGot d k).map fun o => .bl (!o.isSome)
def rInDct : R2 := fun y x H Q => ∃ a o, x = .ref a ∧ DGet H a y o ∧ Q (.bl o.isSome) H
def rNotInDct : R2 := fun y x H Q => ∃ a o, x = .ref a ∧ DGet H a y o ∧ Q (.bl (!o.isSome)) H
theorem op_inDct {X : Cx} (hu : X.A.units + 1 < cLine) : OpR X (compareOp .In) rInDct := by
  intro pins s σ H y x v u Q I ry rx h
  obtain ⟨a, o, rfl, g, q⟩ := h
  cases rx
  exact d_in hu I g ry fun s' I' => ⟨.bl o.isSome, H, I', rfl, q⟩
theorem op_notInDct {X : Cx} (hu : X.A.units + 1 < cLine) : OpR X (compareOp .NotIn) rNotInDct := by
  intro pins s σ H y x v u Q I ry rx h
  obtain ⟨a, o, rfl, g, q⟩ := h
  cases rx
  exact d_notIn hu I g ry fun s' I' => ⟨.bl (!o.isSome), H, I', rfl, q⟩
theorem od_isIn {T : Tb} : OpD T rInDct dIsIn := by
  intro B H x y d1 d2 d Q ex h1 h2 hf q
  obtain ⟨o, hg, rfl⟩ := Option.map_eq_some_iff.mp hf
  obtain ⟨a, r, rfl, g, hr⟩ := dget_of ex h2 h1 hg
  refine ⟨a, r, rfl, g, ?_⟩
  have e : r.isSome = o.isSome := by
    cases o with
    | none => rw [show r = none from hr]; rfl
    | some c => obtain ⟨v, rfl, _⟩ := hr; rfl
  rw [e]
  exact fin_q ex q (by simp only [Rp])
theorem od_isNotIn {T : Tb} : OpD T rNotInDct dIsNotIn := by
  intro B H x y d1 d2 d Q ex h1 h2 hf q
  obtain ⟨o, hg, rfl⟩ := Option.map_eq_some_iff.mp hf
  obtain ⟨a, r, rfl, g, hr⟩ := dget_of ex h2 h1 hg
  refine ⟨a, r, rfl, g, ?_⟩
  have e : r.isSome = o.isSome := by
    cases o with
    | none => rw [show r = none from hr]; rfl
    | some c => obtain ⟨v, rfl, _⟩ := hr; rfl
  rw [e]
  exact fin_q ex q (by simp only [Rp])
theorem hu1 {k : Nat} {A : Around} (r : Room k A) : A.units + 1 < cLine := by have := r.un; omega
section
variable {X : Cx} {G : Gs} {a b c : Expr} {oa ob : Opd} {m mk mx : M} {pos apos p2 : Pos}
theorem le_dg (hu : X.A.units + 1 < cLine) (ha : PE X a (tO G oa)) (hb : PE X b (tO G ob)) (hs : NoSl b) : PE X (.Subscript a b pos) (tE G (vOp dDg oa ob)) :=
  pe_imp (pe_dget hu ha hb hs) fun σ H Q h => op_E (r := rDGet) od_dg h
/-! ### d.get(k), d.get(k, x) -/
def isDct : D → Bool
  | .dct _ _ _ => true
  | _ => false
theorem isD_of {T : Tb} {B H : Hp} {d : D} {x : V} (ex : Ex B H) (h : RpH T B H d x) (k : isDct d = true) : ∃ a, x = .ref a ∧ IsD H a := by
  cases d <;> simp only [isDct, Bool.false_eq_true] at k
  obtain ⟨a, rfl, hd⟩ := rh_dct ex h
  rcases hd with ⟨_, kvs, g1, _⟩ | ⟨_, kvs, g1, _⟩
  · exact ⟨a, rfl, .inl ⟨kvs, g1⟩⟩
  · exact ⟨a, rfl, .inr ⟨kvs, g1⟩⟩
def vGet1 (o : Opd) (mk : M) : M := fun e => R.bind (evO o e) fun r e1 => match rsO r e1 with
  | none => .bad
  | some d0 => if isDct d0 = true then R.bind (mk e1) fun k e2 => R.ofO (do let d ← rsO r e2; let g ← dGot d k; some (g.getD .non)) e2 else .bad
def vGet2 (o : Opd) (mk mx : M) : M := fun e => R.bind (evO o e) fun r e1 => match rsO r e1 with
  | none => .bad
  | some d0 => if isDct d0 = true then R.bind (mk e1) fun k e2 => R.bind (mx e2) fun x e3 => R.ofO (do let d ← rsO r e3; let g ← dGot d k; some (g.getD x)) e3 else .bad
theorem le_get1 (hu : X.A.units + 1 < cLine) (ho : PE X a (tO G oa)) (hk : PE X b (tE G mk)) (m : M1 X a "get" apos b pos) : PE X (.Call (.Attribute a "get" apos) [b] [] pos) (tE G (vGet1 oa mk)) :=
  pe_imp (pe_dget1 hu ho hk m) fun σ H Q h => by
    obtain ⟨F, B, e, rep, post⟩ := h
    refine ⟨F, B, e, rep, Post.weak (Post.bind post) ?_⟩
    rintro x H1 ⟨B1, e1, r, ex1, rep1, rl1, post1⟩
    cases h1 : rsO r e1 with
    | none => rw [h1] at post1; exact post1.elim
    | some d0 =>
      rw [h1] at post1
      by_cases hd : isDct d0 = true
      · have post1 : Post G F B1 σ (relE G) (if isDct d0 = true then _ else R.bad) Q := post1
        rw [if_pos hd] at post1
        obtain ⟨a0, ea, ha⟩ := isD_of rep1.ex (rsO_ok rl1 .rfl rep1 h1) hd
        refine ⟨a0, ea, ha, F, B1, e1, rep1, Post.weak (Post.bind post1) ?_⟩
        rintro y H2 ⟨B2, e2, k, ex2, rep2, rl2, post2⟩
        cases h2 : rsO r e2 with
        | none => rw [h2] at post2; exact post2.elim
        | some d =>
          rw [h2] at post2
          have post2 : Post G F B2 σ (relE G) (R.ofO (do let g ← dGot d k; some (g.getD .non)) e2) Q := post2
          cases h3 : dGot d k with
          | none => rw [h3] at post2; exact post2.elim
          | some g =>
            rw [h3] at post2
            have post2 : Post G F B2 σ (relE G) (.ok (g.getD .non) e2) Q := post2
            obtain ⟨a1, o, e1', gg, ho⟩ := dget_of rep2.ex (rsO_ok rl1 ex2 rep2 h2) (.inl rl2) h3
            rw [ea] at e1'
            cases e1'
            refine ⟨o, gg, post2 _ B2 H2 .rfl rep2 ?_⟩
            cases g with
            | none => rw [show o = none from ho]; simp [relE, Rp]
            | some c => obtain ⟨v, rfl, rv⟩ := ho; exact rv
      · have post1 : Post G F B1 σ (relE G) (if isDct d0 = true then _ else R.bad) Q := post1
        rw [if_neg hd] at post1; exact post1.elim
theorem le_get2 (hu : X.A.units + 1 < cLine) (ho : PE X a (tO G oa)) (hk : PE X b (tE G mk)) (hx : PE X c (tE G mx)) (m : M2 X a "get" apos b c pos) : PE X (.Call (.Attribute a "get" apos) [b, c] [] pos) (tE G (vGet2 oa mk mx)) :=
  pe_imp (pe_dget2 hu ho hk hx m) fun σ H Q h => by
    obtain ⟨F, B, e, rep, post⟩ := h
    refine ⟨F, B, e, rep, Post.weak (Post.bind post) ?_⟩
    rintro x H1 ⟨B1, e1, r, ex1, rep1, rl1, post1⟩
    cases h1 : rsO r e1 with
    | none => rw [h1] at post1; exact post1.elim
    | some d0 =>
      rw [h1] at post1
      by_cases hd : isDct d0 = true
      · have post1 : Post G F B1 σ (relE G) (if isDct d0 = true then _ else R.bad) Q := post1
        rw [if_pos hd] at post1
        obtain ⟨a0, ea, ha⟩ := isD_of rep1.ex (rsO_ok rl1 .rfl rep1 h1) hd
        refine ⟨a0, ea, ha, F, B1, e1, rep1, Post.weak (Post.bind post1) ?_⟩
        rintro y H2 ⟨B2, e2, k, ex2, rep2, rl2, post2⟩
        refine ⟨F, B2, e2, rep2, Post.weak (Post.bind post2) ?_⟩
        rintro z H3 ⟨B3, e3, xd, ex3, rep3, rl3, post3⟩
        cases h2 : rsO r e3 with
        | none => rw [h2] at post3; exact post3.elim
        | some d =>
          rw [h2] at post3
          have post3 : Post G F B3 σ (relE G) (R.ofO (do let g ← dGot d k; some (g.getD xd)) e3) Q := post3
          cases h3 : dGot d k with
          | none => rw [h3] at post3; exact post3.elim
          | some g =>
            rw [h3] at post3
            have post3 : Post G F B3 σ (relE G) (.ok (g.getD xd) e3) Q := post3
            obtain ⟨a1, o, e1', gg, ho⟩ := dget_of rep3.ex (rsO_ok rl1 (ex2.trans ex3) rep3 h2) (.inl (Rp.mono ex3 _ _ rl2)) h3
            rw [ea] at e1'
            cases e1'
            refine ⟨o, gg, post3 _ B3 H3 .rfl rep3 ?_⟩
            cases g with
            | none => rw [show o = none from ho]; exact rl3
            | some c => obtain ⟨v, rfl, rv⟩ := ho; exact rv
      · have post1 : Post G F B1 σ (relE G) (if isDct d0 = true then _ else R.bad) Q := post1
        rw [if_neg hd] at post1; exact post1.elim
/-! ### {} -/
theorem at_dnew {T : Tb} {B : Hp} (t : Bool) : At T B (if t then .dT [] else .dK []) (.dct t [] []) := by
  cases t
  · simp only [At]; exact .inl ⟨trivial, [], rfl, rfl, by simp [RpL]⟩
  · simp only [At]; exact .inr ⟨trivial, [], rfl, rfl, by simp [RpL]⟩
theorem lf_dnewK : PE X (.Dict [] [] pos) (tF G (vC (.dct false [] []))) := pe_imp pe_dnewK fun σ H Q h => by
  obtain ⟨F, B, e, rep, post⟩ := h
  intro p hp
  have z := new_F (o := .dK []) (d := .dct false [] []) rep hp (at_dnew false)
  exact post (.ref p) B _ .rfl z.1 z.2
theorem lf_dnewT : PE X (.Dict [] [] pos) (tF G (vC (.dct true [] []))) := pe_imp pe_dnewT fun σ H Q h => by
  obtain ⟨F, B, e, rep, post⟩ := h
  intro p hp
  have z := new_F (o := .dT []) (d := .dct true [] []) rep hp (at_dnew true)
  exact post (.ref p) B _ .rfl z.1 z.2
end
/-! ### d[k] = v -/
def sDPut (i : Nat) (mk mv : M) : S := fun e => R.toS (mv e) fun v e1 => match e1[i]? with
  | some (some _) => R.toS (mk e1) fun k e2 => (match e2[i]? with
    | some (some d) => (match dPut d k v with
      | some d' => .nx (e2.set i (some d'))
      | none => .bad)
    | _ => .bad)
  | _ => .bad
theorem at_put {T : Tb} {B H : Hp} {d k v d' : D} {o : HO} {p : Addr} {y u : V} (ex : Ex B H) (hat : At T B o d) (hp : H p = some o) (hk : Rp T B k y) (hv : Rp T B v u) (hf : dPut d k v = some d') :
    ∃ o', DPut H p y u (upd H p o') ∧ At T B o' d' := by
  cases d <;> simp only [dPut, reduceCtorEq] at hf
  rename_i t ks vs
  simp only [At] at hat
  cases t with
  | false =>
    rcases hat with ⟨_, kvs, rfl, g2, g3⟩ | ⟨z, _⟩
    · simp only [dPut] at hf
      split at hf
      · rename_i hs
        obtain ⟨key, hk'⟩ := Option.isSome_iff_exists.mp hs.1
        have hl : kvs.length = ks.length := by have := congrArg List.length g2; simpa using this.symm
        obtain ⟨a1, a2⟩ := put_rp hk' hv g2 g3
        refine ⟨.dK (putK kvs key u), .inl ⟨kvs, key, hp, keyD_rp hk' (.inl hk : RpH T B B k y), by have := million (show kvs.length ≤ 1000000 by omega); rw [sizeLine_eq] at *; omega, rfl⟩, ?_⟩
        cases hf
        by_cases c : dHas keyD k ks = true
        · rw [if_pos c]; simp only [At]; exact .inl ⟨trivial, _, rfl, a1 c⟩
        · rw [if_neg c]; simp only [At]; exact .inl ⟨trivial, _, rfl, a2 c⟩
      · cases hf
    · cases z
  | true =>
    rcases hat with ⟨z, _⟩ | ⟨_, kvs, rfl, g2, g3⟩
    · cases z
    · simp only [dPut] at hf
      split at hf
      · rename_i hs
        obtain ⟨key, hk'⟩ := Option.isSome_iff_exists.mp hs.1
        have hl : kvs.length = ks.length := by have := congrArg List.length g2; simpa using this.symm
        obtain ⟨a1, a2⟩ := put_rp hk' hv g2 g3
        obtain ⟨b, rfl, hb⟩ := keyT_rp ex hk' (.inl hk)
        refine ⟨.dT (putK kvs key u), .inr ⟨kvs, key, b, hp, rfl, ex _ _ hb, by rw [sizeLine_eq]; omega, rfl⟩, ?_⟩
        cases hf
        by_cases c : dHas keyT k ks = true
        · rw [if_pos c]; simp only [At]; exact .inr ⟨trivial, _, rfl, a1 c⟩
        · rw [if_neg c]; simp only [At]; exact .inr ⟨trivial, _, rfl, a2 c⟩
      · cases hf
section
variable {X : Cx} {G : Gs} {rel : Rel D V} {a b v : Expr} {mk mv : M} {pos pos' : Pos}
theorem ls_dput {i : Nat} (hu : X.A.units + 1 < cLine) (hv : PE X a (tVar i)) (ho : G.O i = true) (hb : PE X b (tE G mk)) (hx : PE X v (tE G mv)) (hs : swapsWith v (some (.Subscript a b pos')) pos.line X.env = pure false := by rfl) :
    PS X (.Assign [.Subscript a b pos'] v pos) (tS G rel (sDPut i mk mv)) := ps_imp (ps_dput hu hv hb hx hs) fun Dn σ H h => by
  obtain ⟨F, B, e, rep, post⟩ := h
  refine ⟨F, B, e, rep, Post.weak (PostS.bind post) ?_⟩
  rintro u H1 ⟨B1, e1, dv, ex1, rep1, rl1, post1⟩
  cases he1 : e1[i]? with
  | none => rw [he1] at post1; exact post1.elim
  | some od =>
    cases od with
    | none => rw [he1] at post1; exact post1.elim
    | some d0 =>
      rw [he1] at post1
      obtain ⟨p, o0, hp, _⟩ := rep1.ow i d0 ho he1
      refine ⟨.ref p, hp, F, B1, e1, rep1, Post.weak (PostS.bind post1) ?_⟩
      rintro y H2 ⟨B2, e2, k, ex2, rep2, rl2, post2⟩
      cases he2 : e2[i]? with
      | none => rw [he2] at post2; exact post2.elim
      | some od2 =>
        cases od2 with
        | none => rw [he2] at post2; exact post2.elim
        | some d =>
          rw [he2] at post2
          have post2 : PostS G F rel B2 (match dPut d k dv with | some d' => .nx (e2.set i (some d')) | none => .bad) Dn := post2
          cases hf : dPut d k dv with
          | none => rw [hf] at post2; exact post2.elim
          | some d' =>
            rw [hf] at post2
            obtain ⟨p2, o, hp2, g2, g3, g4, g5⟩ := rep2.ow i d ho he2
            rw [hp] at hp2
            cases hp2
            obtain ⟨o', q1, q2⟩ := at_put rep2.ex g5 g4 rl2 (Rp.mono ex2 _ _ rl1) hf
            exact ⟨p, _, rfl, q1, post2 B2 σ _ .rfl (rep2.put ho hp he2 q2)⟩
end
end Fl

namespace Fl
open PySem PySem.Spec PyProof.Rows L2
open PySem.W (EachIs copyHeap copyHeap_at)

/-! ## sorted(..) of tuples of ints, any length -/
def insG (n : List Int) : List (List Int) → List (List Int)
  | [] => [n]
  | m :: ms => if n ≤ m then n :: m :: ms else m :: insG n ms
def sortG : List (List Int) → List (List Int)
  | [] => []
  | n :: ns => insG n (sortG ns)
theorem insG_perm (n : List Int) : ∀ ms, (insG n ms).Perm (n :: ms)
  | [] => .refl _
  | m :: ms => by
    unfold insG
    split
    · exact .refl _
    · exact ((insG_perm n ms).cons m).trans (.swap n m ms)
theorem sortG_perm : ∀ ns, (sortG ns).Perm ns
  | [] => .refl _
  | n :: ns => (insG_perm n _).trans ((sortG_perm ns).cons n)
theorem insG_sorted {n : List Int} : ∀ {ms : List (List Int)}, ms.Pairwise (· ≤ ·) → (insG n ms).Pairwise (· ≤ ·)
  | [], _ => by simp [insG]
  | m :: ms, h => by
    obtain ⟨h1, h2⟩ := List.pairwise_cons.mp h
    unfold insG
    split
    · rename_i c
      exact List.pairwise_cons.mpr ⟨fun x hx => by
        rcases List.mem_cons.mp hx with rfl | hx
        · exact c
        · exact List.le_trans c (h1 x hx), h⟩
    · rename_i c
      have c' : m ≤ n := by
        rcases List.le_total n m with z | z
        · exact absurd z c
        · exact z
      exact List.pairwise_cons.mpr ⟨fun x hx => by
        rcases List.mem_cons.mp ((insG_perm n ms).mem_iff.mp hx) with rfl | hx
        · exact c'
        · exact h1 x hx, insG_sorted h2⟩
theorem sortG_sorted : ∀ ns, (sortG ns).Pairwise (· ≤ ·)
  | [] => .nil
  | _ :: ns => insG_sorted (sortG_sorted ns)
theorem sortedG_one : ∀ {xs ys : List (List Int)}, xs.Perm ys → xs.Pairwise (· ≤ ·) → ys.Pairwise (· ≤ ·) → xs = ys
  | [], ys, p, _, _ => (List.nil_perm.mp p).symm
  | x :: xs, [], p, _, _ => absurd p.length_eq (by simp)
  | x :: xs, y :: ys, p, a, b => by
    obtain ⟨a1, a2⟩ := List.pairwise_cons.mp a
    obtain ⟨b1, b2⟩ := List.pairwise_cons.mp b
    have e : x = y := by
      rcases List.mem_cons.mp (p.mem_iff.mp (.head xs)) with q | q
      · exact q
      · rcases List.mem_cons.mp (p.mem_iff.mpr (.head ys)) with q2 | q2
        · exact q2.symm
        · exact List.le_antisymm (a1 y q2) (b1 x q)
    subst e
    rw [sortedG_one ((List.perm_cons x).mp p) a2 b2]
theorem msortG (ns : List (List Int)) : ns.mergeSort (fun a b => decide (a ≤ b)) = sortG ns := by
  refine sortedG_one ((List.mergeSort_perm _ _).trans (sortG_perm ns).symm) ?_ (sortG_sorted ns)
  have := List.pairwise_mergeSort (le := fun a b : List Int => decide (a ≤ b)) (fun a b c h1 h2 => by
    simp only [decide_eq_true_eq] at *
    exact List.le_trans h1 h2) (fun a b => by
    simp only [Bool.or_eq_true, decide_eq_true_eq]
    exact List.le_total a b) ns
  exact this.imp fun h => by simpa using h
def encI (ns : List Int) : PyData := .tuple (ns.map .int)
theorem dataLe_tups : PySem.W.dataLe false encI = fun p q => decide (p ≤ q) := by
  funext p q
  show (!PySem.W.dataLt (.tuple (q.map .int)) (.tuple (p.map .int))) = _
  rw [PySem.W.dataLt_tuple]
  show (!PySem.W.rowLt (q.map .int) (p.map .int)) = _
  rw [PySem.W.dataLt_ints]
  by_cases h : q < p
  · have h' : ¬ p ≤ q := fun r => List.not_lt.mpr r h
    simp [h, h']
  · have h' : p ≤ q := List.not_lt.mp h
    simp [h, h']
section
variable {prog : Program} {w : World} {A : Around} {E : Value → Shared → Prop} {s : Shared} {R : Value → List Int → Prop}
theorem reads_ints {h : Heap} : ∀ {ns : List Int} {vs : List Value}, Vals (ns.map V.int) vs → ReadsAll h vs (ns.map PyData.int) []
  | [], vs, r => by
    rw [List.map_nil] at r
    cases r; exact .nil
  | n :: ns, vs, r => by
    rw [List.map_cons] at r
    cases r with
    | cons h1 h2 =>
      obtain ⟨t, rfl⟩ := h1
      exact .cons (as := []) (bs := []) (.int n t) (reads_ints h2)
/-- the object of a tuple of ints -/
def TupAt (h : Heap) (v : Value) (ns : List Int) : Prop := ∃ a its, v = .ref a ∧ Vals (ns.map V.int) its ∧ IsTup h a its.toArray
theorem TupAt.reads {h : Heap} {v : Value} {ns : List Int} (t : TupAt h v ns) : Reads h v (encI ns) [] := by
  obtain ⟨a, its, rfl, r, o, ho, hc, n, hd⟩ := t
  exact .tuple ho hc hd (by simpa using reads_ints r)
theorem TupAt.keep {h h' : Heap} {v : Value} {ns : List Int} (k : ∀ b o, h.get? b = some o → h'.get? b = some o) (t : TupAt h v ns) : TupAt h' v ns := by
  obtain ⟨a, its, rfl, r, o, ho, hc, n, hd⟩ := t
  exact ⟨a, its, rfl, r, o, k _ _ ho, hc, n, hd⟩
theorem sortT_at {a : Addr} {n : Nat} {vs : List Value} {nss : List (List Int)} {Q : Value → Shared → Prop} (ho : s.heap.get? a = some (seqObj "list" vs.toArray n)) (e : EachIs R vs nss) (er : EachIs (TupAt s.heap) vs nss) (h0 : ∀ ns ∈ nss, ns ≠ []) (hL : nss.length ≤ sizeLine) (hu : A.units + 2 < cLine)
    (h : ∀ out, EachIs R out (sortG nss) → Q .none { s with heap := sortedHeap s.heap a vs (List.toArray out) }) : wpAny (model prog w) A (call (.builtin "list.sort") [.ref a]) Q E s := by
  refine PySem.W.list_sort_data (enc := encI) ho e (er.mono fun v ns t => ⟨[], t.reads, by simp⟩) (.of fun b b' => by unfold encI; simp only [PySem.W.alike]; exact PySem.W.alike_ints _ _) (.inl fun d hd => ?_) hL (fun b _ => ?_) fun out _ eo => h out ?_
  · obtain ⟨ns, hn, rfl⟩ := List.mem_map.mp hd
    cases ns with
    | nil => exact absurd rfl (h0 _ hn)
    | cons x r => exact ⟨_, _, rfl⟩
  · have : (encI b).depth = 1 := by unfold encI; simp only [PyData.depth, PySem.W.depth_ints]
    rw [this]; omega
  · rw [dataLe_tups, msortG] at eo
    exact eo
theorem sortT_fin {vs : List Value} {nss : List (List Int)} {Q : Value → Shared → Prop} (e : EachIs R vs nss) (er : EachIs (TupAt s.heap) vs nss) (h0 : ∀ ns ∈ nss, ns ≠ []) (hL : nss.length ≤ sizeLine) (hu : A.units + 3 < cLine)
    (h : ∀ out, EachIs R out (sortG nss) → Q (.ref s.heap.objs.size) { s with heap := sortedHeap (s.heap.push (seqObj "list" vs.toArray 0)) s.heap.objs.size vs out.toArray }) :
    wpAny (model prog w) A.in1 (do let l ← newList vs; let _ ← holding [l] (call (.builtin "list.sort") [l]); ret l) (fun fin s' => ∃ r, fin = .done (.ret r) ∧ Q r s') E s := by
  have hl : vs.length ≤ sizeLine := by rw [e.length]; exact hL
  refine wpAny_bind (wpAny_newList ?_ hl)
  refine wpAny_bind (wpAny_holding (sortT_at (s := { s with heap := s.heap.push (seqObj "list" vs.toArray 0) }) (Heap.get?_push_size _ rfl) e (er.mono fun v ns t => t.keep fun b o q => Heap.get?_push_of_some _ q) h0 hL ?_ fun out eo => ?_))
  · show A.units + 1 + 2 < cLine
    omega
  · exact wpAny_pure ⟨_, rfl, h out eo⟩
end

def TR (Φ : V → List Int → Prop) : Value → List Int → Prop := fun v ns => ∃ x, RelV x v ∧ Φ x ns
theorem tr_of {Φ : V → List Int → Prop} : ∀ {xs : List V} {vs : List Value} {nss : List (List Int)}, Vals xs vs → Paired Φ xs nss → EachIs (TR Φ) vs nss
  | _, _, _, .nil, h => by cases h; exact .nil
  | _, _, _, .cons h1 h2, h => by
    cases h with
    | cons g1 g2 => exact .cons ⟨_, h1, g1⟩ (tr_of h2 g2)
theorem of_tr {Φ : V → List Int → Prop} : ∀ {vs : List Value} {nss : List (List Int)}, EachIs (TR Φ) vs nss → ∃ ys, Vals ys vs ∧ Paired Φ ys nss
  | _, _, .nil => ⟨[], .nil, .nil⟩
  | _, _, .cons ⟨x, h1, h2⟩ t => by
    obtain ⟨ys, g1, g2⟩ := of_tr t
    exact ⟨x :: ys, .cons h1 g1, .cons h2 g2⟩
theorem paired_len {α β : Type} {F : α → β → Prop} : ∀ {xs : List α} {ys : List β}, Paired F xs ys → xs.length = ys.length
  | _, _, .nil => rfl
  | _, _, .cons _ t => by rw [List.length_cons, List.length_cons, paired_len t]
theorem sortG_length (nss : List (List Int)) : (sortG nss).length = nss.length := (sortG_perm nss).length_eq
section
variable {X : Cx} {pins : List (Addr × Obj)} {σ : L2.St} {H : Hp} {s : Shared}
theorem tupAt_of (I : Inv X pins σ H s) {b : Addr} {ns : List Int} (h : SqT X.K H b (ns.map V.int)) : TupAt s.heap (.ref b) ns := by
  obtain ⟨its, r, p, _⟩ := I.tuple h
  exact ⟨b, its, rfl, r, p⟩
/-- the sort's end: a new list -/
theorem sort_end {Q : VK} {Φ : V → List Int → Prop} {vs : List Value} {xs : List V} {nss : List (List Int)} {h1 : Heap} {tk : Nat} (I1 : Inv X pins σ H { s with heap := h1, toks := tk }) (rv : Vals xs vs) (hp : Paired Φ xs nss) (hs : ∀ x ns, Φ x ns → ∃ b, x = .ref b ∧ SqT X.K H b (ns.map V.int))
    (h0 : ∀ ns ∈ nss, ns ≠ []) (hL : vs.length ≤ sizeLine) (hu : X.A.units + 3 < cLine) (q : ∀ p ys, H p = none → Paired Φ ys (sortG nss) → Q (.ref p) (upd H p (.lst ys))) :
    wpAny (model X.prog X.w) X.A.in1 (do let l ← newList vs; let _ ← holding [l] (call (.builtin "list.sort") [l]); ret l) (fun fin s' => ∃ r, fin = .done (.ret r) ∧ EP X pins σ Q r s') X.xe { s with heap := h1, toks := tk } := by
  have e := tr_of rv hp
  have er : EachIs (TupAt h1) vs nss := e.mono fun v ns ⟨x, rx, hx⟩ => by
    obtain ⟨b, rfl, hb⟩ := hs x ns hx
    cases rx
    exact tupAt_of I1 hb
  have hn : nss.length ≤ sizeLine := by rw [← e.length]; exact hL
  refine sortT_fin (s := { s with heap := h1, toks := tk }) e er h0 hn hu fun out eo => ?_
  obtain ⟨ys, ry, py⟩ := of_tr eo
  have hoL : (h1.push (seqObj "list" vs.toArray 0)).get? h1.objs.size = some (seqObj "list" vs.toArray 0) := Heap.get?_push_size _ rfl
  obtain ⟨e', he'⟩ := PyProof.Rows.sortedHeap_at (vs := vs) (out := out.toArray) hoL
  have hlen : ys.length ≤ sizeLine := by rw [paired_len py, sortG_length]; exact hn
  refine ⟨.ref h1.objs.size, upd H h1.objs.size (.lst ys), I1.laid (t' := tk) (fun b u e => ?_) (Nat.le_refl _) (show ObjOk X.prog X.w _ _ _ (.lst ys) from ⟨hlen, out, e', ry, he'⟩), rfl, q _ ys (I1.hok.fresh (Nat.le_refl _)) py⟩
  have hb : b < h1.objs.size := Heap.lt_size e
  rw [PyProof.Rows.sortedHeap_old (Nat.ne_of_lt hb) (by rw [size_push']; exact Nat.lt_succ_of_lt hb)]
  exact Heap.get?_push_of_some _ e
end
def rSortT (K : PySem.W.Frag) : List V → Hp → VK → Prop := fun vs H Q => ∃ (a : Addr) (xs : List V) (nss : List (List Int)) (Φ : V → List Int → Prop), vs = [V.ref a] ∧ SqL K H a xs ∧ Paired Φ xs nss ∧
  (∀ x ns, Φ x ns → ∃ b, x = .ref b ∧ SqT K H b (ns.map V.int)) ∧ (∀ ns ∈ nss, ns ≠ []) ∧ ∀ p ys, H p = none → Paired Φ ys (sortG nss) → Q (.ref p) (upd H p (.lst ys))
theorem cr_sortT2 {X : Cx} (hu : X.A.units + 64 < cLine) : CallR X (.builtin "sorted") (rSortT X.K) := by
  intro pins s σ H vs us Q I r h
  obtain ⟨a, xs, nss, Φ, rfl, hs, hp, ht, h0, q⟩ := h
  rw [Vals.ref1 r]
  obtain ⟨its, rv, hl, hz⟩ := I.list hs
  obtain ⟨o, ho, hc, k, hd⟩ := hl.isList
  have hz : its.length ≤ sizeLine := by rw [← rv.length]; exact hz
  refine Calls.call_function_entry PyProof.Rows.kind_sorted PyProof.Rows.plain_sorted PyProof.Rows.entry_sorted (PyProof.Rows.args_sorted1 _) ?_
  unfold Builtin.«sorted»
  refine wpAny_bind (m := checkCount "sorted" 1 1 _) (wpAny_pure ?_)
  refine wpAny_bind (collect_sq (.inl rfl) ho hc hd ?_ hz)
  refine sort_end (tk := s.toks) (I.kept (t' := s.toks) fun b u e => ?_) rv hp ht h0 hz (by omega) q
  have hb : b < s.heap.objs.size := Heap.lt_size e
  exact (Heap.get?_update_other _ _ (Nat.ne_of_gt hb)).trans (Heap.get?_push_of_some _ e)
/-- sorted(d), the keys tuples of ints -/
def rSortTD : List V → Hp → VK → Prop := fun vs H Q => ∃ (a : Addr) (kvs : List (List Key × V)) (nss : List (List Int)), vs = [V.ref a] ∧ Rd H a (.dT kvs) ∧ kvs.map (·.1) = nss.map (fun ns => ns.map Sum.inl) ∧ (∀ ns ∈ nss, ns ≠ []) ∧
  ∀ p ys, H p = none → Paired (fun x (ns : List Int) => ∃ b, x = .ref b ∧ H b = some (.tup (ns.map V.int))) ys (sortG nss) → Q (.ref p) (upd H p (.lst ys))
theorem keys_tups {H : Hp} : ∀ {kvs : List (List Key × V)} {ks : List (List Key × Addr × Value)} {nss : List (List Int)}, KT H kvs ks → kvs.map (·.1) = nss.map (fun ns => ns.map Sum.inl) →
    Paired (fun x (ns : List Int) => ∃ b, x = .ref b ∧ H b = some (.tup (ns.map V.int))) ((ks.map fun x => x.2.1).map V.ref) nss
  | _, _, nss, .nil, h => by
    have : nss = [] := by simpa using h.symm
    subst this; exact .nil
  | _, _, nss, .cons g t, h => by
    cases nss with
    | nil => simp at h
    | cons ns nss =>
      simp only [List.map_cons, List.cons.injEq] at h
      refine .cons ⟨_, rfl, ?_⟩ (keys_tups t h.2)
      have e := g.2.1
      rw [h.1, List.map_map] at e
      exact e
theorem cr_sortTD {X : Cx} (hu : X.A.units + 64 < cLine) (hc : X.calm = true) : CallR X (.builtin "sorted") rSortTD := by
  intro pins s σ H xs us Q I r h
  obtain ⟨d, kvs, nss, rfl, hd, hk, h0, q⟩ := h
  obtain ⟨u, rfl, rx⟩ := r.one
  cases rx
  obtain ⟨z, hs, ks, pr, o, es, ep, ho, hx, hdt, he, hn⟩ := (show ObjOk X.prog X.w H s.heap d (.dT kvs) from hd.ok I.hok)
  have l1 : es.size = ks.length := size_of_entries he
  have l2 : kvs.length = ks.length := Paired.length pr
  refine Calls.call_function_entry PyProof.Rows.kind_sorted PyProof.Rows.plain_sorted PyProof.Rows.entry_sorted (PyProof.Rows.args_sorted1 _) ?_
  unfold Builtin.«sorted»
  refine wpAny_bind (m := checkCount "sorted" 1 1 _) (wpAny_pure ?_)
  refine wpAny_bind (PySem.W.kdu_collect (A := X.A.in1) (kdl_raw hs hx hdt) (I.ok.hd hc) ho (by omega) fun h' tk acc' kp it => ?_)
  have ea : acc'.toList = ks.map fun x => Value.ref x.2.1 := by
    have hl : acc'.toList.length = ks.length := by rw [Array.length_toList, it.1]; exact l1
    apply List.ext_getElem?
    intro j
    rw [List.getElem?_map]
    cases hj : acc'.toList[j]? with
    | none =>
      have h1 := List.getElem?_eq_none_iff.mp hj
      rw [List.getElem?_eq_none (by omega)]
      all_goals rfl
    | some v =>
      obtain ⟨en, hen, hv⟩ := it.2 j v (by rw [← Array.getElem?_toList]; exact hj)
      have qe := entry_at he j
      rw [hen] at qe
      cases hb : ks[j]? with
      | none =>
        rw [hb] at qe
        exact nomatch (show some en = none from qe)
      | some b =>
        rw [hb] at qe
        have e2 : en = entryOfKey (tupleKind (mixKind X.prog X.w)) b := Option.some.inj qe
        rw [hv, e2]
        all_goals rfl
  have eb : acc'.toList = (ks.map fun x => x.2.1).map Value.ref := by rw [ea, List.map_map]; all_goals rfl
  have rv : Vals ((ks.map fun x => x.2.1).map V.ref) acc'.toList := by rw [eb]; exact vals_refs _
  have hz : acc'.toList.length ≤ sizeLine := by rw [eb, List.length_map, List.length_map]; omega
  exact sort_end (tk := tk) (I.kept (t' := tk) kp) rv (keys_tups pr hk) (fun x ns ⟨b, e1, e2⟩ => ⟨b, e1, .inl (.inl e2)⟩) h0 hz (by omega) q
/-! ### .. over data -/
def tupI : D → Option (List Int)
  | .tup ds => ds.mapM intOf
  | _ => none
def tupD (ns : List Int) : D := .tup (ns.map .int)
def okT (nss : List (List Int)) : Bool := nss.all fun ns => !ns.isEmpty
theorem okT_ok {nss : List (List Int)} (h : okT nss = true) : ∀ ns ∈ nss, ns ≠ [] := fun ns hn e => by
  have := List.all_eq_true.mp h ns hn
  subst e
  simp at this
def fSortT : List D → Option D
  | [.lst ds] => (ds.mapM tupI).bind fun nss => if okT nss = true then some (.lst ((sortG nss).map tupD)) else none
  | _ => none
def fSortTD : List D → Option D
  | [.dct true ks vs] => (ks.mapM tupI).bind fun nss => if okT nss = true then some (.lst ((sortG nss).map tupD)) else none
  | _ => none
section
variable {T : Tb} {B H : Hp}
theorem tups_rp : ∀ {ds : List D} {xs : List V} {nss : List (List Int)}, RpL T B ds xs → ds.mapM tupI = some nss → Paired (fun x (ns : List Int) => ∃ b, x = .ref b ∧ B b = some (.tup (ns.map V.int))) xs nss
  | [], xs, nss, h, e => by
    simp only [RpL] at h
    subst h
    simp at e
    subst e; exact .nil
  | d :: ds, xs, nss, h, e => by
    simp only [RpL] at h
    obtain ⟨x, r, rfl, h1, h2⟩ := h
    cases q : tupI d with
    | none => simp [List.mapM_cons, q] at e
    | some k =>
      cases q2 : ds.mapM tupI with
      | none => simp [List.mapM_cons, q, q2] at e
      | some ks =>
        simp [List.mapM_cons, q, q2] at e
        subst e
        refine .cons ?_ (tups_rp h2 q2)
        cases d <;> simp only [tupI, reduceCtorEq] at q
        obtain ⟨a, ys, rfl, g1, g2⟩ := rh_tup (.inl h1 : RpH T B B _ x)
        have := ints_of g2 q
        subst this
        exact ⟨a, rfl, g1⟩
theorem rp_tups : ∀ {xs : List V} {nss : List (List Int)}, Paired (fun x (ns : List Int) => ∃ b, x = .ref b ∧ B b = some (.tup (ns.map V.int))) xs nss → RpL T B (nss.map tupD) xs
  | _, _, .nil => by simp [RpL]
  | _, _, .cons ⟨b, e1, e2⟩ t => by
    rw [List.map_cons]
    exact .cons (by simp only [tupD, Rp]; exact ⟨b, _, e1, e2, rpl_ints _⟩) (rp_tups t)
theorem cf_sortT : CallDF T (rSortT T.K) fSortT := by
  intro B H vs ds d Q ex h hf q
  unfold fSortT at hf
  split at hf
  · rename_i ds
    obtain ⟨v, rfl, hv⟩ := hl1 h
    obtain ⟨nss, hb, hf⟩ := Option.bind_eq_some_iff.mp hf
    split at hf
    · rename_i hok
      cases hf
      obtain ⟨a, xs, rfl, e1, r1⟩ := rh_lst ex hv
      exact ⟨a, xs, nss, _, rfl, .of e1, tups_rp r1 hb, fun x ns ⟨b, z1, z2⟩ => ⟨b, z1, .inl (.inl (ex _ _ z2))⟩, okT_ok hok, fun p ys hp hy => q p _ hp (by simp only [At]; exact ⟨_, rfl, rp_tups hy⟩)⟩
    · cases hf
  · cases hf
end
end Fl

namespace Fl
open PySem PySem.Spec PyProof.Rows L2

/-! ## all tuples of the heap may be told -/
def tellT (B H : Hp) : Hp := fun q => match B q with
  | some o => some o
  | none => match H q with
    | some (.tup xs) => some (.tup xs)
    | _ => none
theorem tellT_ex (B H : Hp) : Ex B (tellT B H) := fun a o h => by unfold tellT; rw [h]
theorem tellT_tup {B H : Hp} {q : Addr} {xs : List V} (ex : Ex B H) (h : H q = some (.tup xs)) : tellT B H q = some (.tup xs) := by
  unfold tellT
  cases hq : B q with
  | none => rw [h]
  | some o => have := ex _ _ hq; rw [h] at this; exact this.symm
theorem tellT_cases {B H : Hp} {q : Addr} {o : HO} (h : tellT B H q = some o) : B q = some o ∨ ∃ xs, o = .tup xs ∧ H q = some o := by
  unfold tellT at h
  cases hq : B q with
  | some u => rw [hq] at h; exact .inl h
  | none =>
    rw [hq] at h
    cases hH : H q with
    | none => rw [hH] at h; cases h
    | some u =>
      rw [hH] at h
      cases u <;> first | cases h
      exact .inr ⟨_, rfl, rfl⟩
theorem tellT_grow {B H : Hp} (ex : Ex B H) : Grow B H (tellT B H) H := ⟨tellT_ex B H, .rfl, fun a o h => by
    rcases tellT_cases h with z | ⟨xs, _, z⟩
    · exact ex _ _ z
    · exact z, fun q o h => by
    rcases tellT_cases h with z | z
    · exact .inl z
    · exact .inr (.inr z)⟩

/-! ## sorted(d) -/
theorem keysD_tup {T : Tb} {B : Hp} : ∀ {ds : List D} {key : List Key}, ds.mapM keyD = some key → RpL T B ds (key.map kV)
  | [], key, e => by
    simp at e
    subst e
    simp [RpL]
  | d :: ds, key, e => by
    cases q : keyD d with
    | none => simp [List.mapM_cons, q] at e
    | some k =>
      cases q2 : ds.mapM keyD with
      | none => simp [List.mapM_cons, q, q2] at e
      | some ks =>
        simp [List.mapM_cons, q, q2] at e
        subst e
        rw [List.map_cons]
        refine .cons ?_ (keysD_tup q2)
        cases d <;> simp only [keyD, reduceCtorEq, Option.some.injEq] at q
        · subst q; simp [Rp, kV]
        · subst q; simp [Rp, kV]
theorem keys_inl : ∀ {ds : List D} {ns : List Int}, ds.mapM intOf = some ns → ds.mapM keyD = some (ns.map Sum.inl)
  | [], ns, e => by
    simp at e
    subst e; rfl
  | d :: ds, ns, e => by
    cases q : intOf d with
    | none => simp [List.mapM_cons, q] at e
    | some k =>
      cases q2 : ds.mapM intOf with
      | none => simp [List.mapM_cons, q, q2] at e
      | some ks =>
        simp [List.mapM_cons, q, q2] at e
        subst e
        cases d <;> simp only [intOf, reduceCtorEq, Option.some.injEq] at q
        subst q
        simp [List.mapM_cons, keyD, keys_inl q2]
theorem tups_keys : ∀ {ks : List D} {nss : List (List Int)} {kvs : List (List Key × V)}, ks.mapM tupI = some nss → ks.map keyT = kvs.map (fun p => some p.1) → kvs.map (·.1) = nss.map (fun ns => ns.map Sum.inl)
  | [], nss, kvs, e, h => by
    simp at e
    subst e
    have : kvs = [] := by simpa using h.symm
    subst this; rfl
  | d :: ds, nss, kvs, e, h => by
    cases kvs with
    | nil => simp at h
    | cons p kvs =>
      simp only [List.map_cons, List.cons.injEq] at h
      cases q : tupI d with
      | none => simp [List.mapM_cons, q] at e
      | some k =>
        cases q2 : ds.mapM tupI with
        | none => simp [List.mapM_cons, q, q2] at e
        | some ks =>
          simp [List.mapM_cons, q, q2] at e
          subst e
          rw [List.map_cons, List.map_cons, tups_keys q2 h.2]
          congr 1
          cases d <;> simp only [tupI, reduceCtorEq] at q
          have := h.1
          simp only [keyT, keys_inl q, Option.some.injEq] at this
          exact this.symm
section
variable {X : Cx} {G : Gs} {a : Expr} {o : Opd} {p pos : Pos}
theorem lf_sortD (hu : X.A.units + 64 < cLine) (hc : X.calm = true) (hm : X.mg "sorted" = none) (hv : bootBuiltins "sorted" = some (.builtin "sorted")) (ha : PA X [a] (tAO G [o])) (hg : Gl X "sorted") (hn : ("sorted" : Str) ≠ "__name__" := by decide) (hdb : (("sorted" : Str) == ("__debug__" : Str)) = false := by decide)
    (he : starEach [a] X.env = (false, eval a X.env) :: starEach [] X.env := by rfl) (hpl : (backTo pos (starEach [] X.env)).any (·.1) = false := by rfl) : PE X (.Call (.Name "sorted" p) [a] [] pos) (tF G (vB fSortTD [o])) :=
  pe_imp (pe_callB (cr_sortTD hu hc) hg hm hv ha hn hdb he hpl) fun σ H Q h => b_bind h fun F B H2 e2 vs ds d rep hv hf post => by
    unfold fSortTD at hf
    split at hf
    · rename_i ks us
      obtain ⟨v, rfl, hw⟩ := hl1 hv
      obtain ⟨nss, hb, hf⟩ := Option.bind_eq_some_iff.mp hf
      split at hf
      · rename_i hok
        cases hf
        obtain ⟨b, rfl, hd⟩ := rh_dct rep.ex hw
        rcases hd with ⟨z, _⟩ | ⟨_, kvs, g1, g2, g3⟩
        · cases z
        · refine ⟨b, kvs, nss, rfl, g1, tups_keys hb g2, okT_ok hok, fun q ys hq hy => ?_⟩
          have rep3 := rep.grow (tellT_grow rep.ex)
          have hy' : Paired (fun x (ns : List Int) => ∃ c, x = .ref c ∧ tellT B H2 c = some (.tup (ns.map V.int))) ys (sortG nss) := Paired.mapP hy fun x ns ⟨c, z1, z2⟩ => ⟨c, z1, tellT_tup rep.ex z2⟩
          have z := new_F (o := .lst ys) (d := .lst ((sortG nss).map tupD)) rep3 hq (by simp only [At]; exact ⟨_, rfl, rp_tups hy'⟩)
          exact post (.ref q) _ _ (tellT_ex B H2) z.1 z.2
      · cases hf
    · cases hf
end
/-! ## len(d) -/
def fLenD : List D → Option D
  | [.dct _ ks _] => some (.int (ks.length : Nat))
  | _ => none
def rLenD : List V → Hp → VK → Prop := fun xs H Q => ∃ (p : Addr), xs = [.ref p] ∧ ((∃ kvs, Rd H p (.dK kvs) ∧ Q (.int ((kvs.length : Nat) : Int)) H) ∨ ∃ kvs, Rd H p (.dT kvs) ∧ Q (.int ((kvs.length : Nat) : Int)) H)
theorem cr_lenD {X : Cx} : CallR X (.builtin "len") rLenD := by
  intro pins s σ H xs us Q I r h
  obtain ⟨p, rfl, h⟩ := h
  obtain ⟨u, rfl, rx⟩ := vals1 r
  obtain rfl : u = .ref p := rx
  rcases h with ⟨kvs, hp, q⟩ | ⟨kvs, hp, q⟩
  · exact d_len I hp fun t s' I' => ⟨.int ((kvs.length : Nat) : Int), H, I', ⟨_, rfl⟩, q⟩
  · obtain ⟨z, hd, ys, rel, dd⟩ := dt_rd I.hok hp
    have hl : kvs.length = ys.length := Paired.length rel
    refine call_len_dictH hd dd (by rw [← hl]; rw [sizeLine_eq] at z; omega) ?_
    rw [← hl]
    exact ⟨.int ((kvs.length : Nat) : Int), H, I.tok _, ⟨_, rfl⟩, q⟩
theorem cd_lenD {T : Tb} : CallD T rLenD fLenD := by
  intro B H vs ds d Q ex h hf q
  unfold fLenD at hf
  split at hf
  · rename_i t ks us
    cases hf
    obtain ⟨v, rfl, hv⟩ := hl1 h
    obtain ⟨b, rfl, hd⟩ := rh_dct ex hv
    refine ⟨b, rfl, ?_⟩
    rcases hd with ⟨_, kvs, g1, g2, g3⟩ | ⟨_, kvs, g1, g2, g3⟩
    · have e : kvs.length = ks.length := by have := congrArg List.length g2; simpa using this.symm
      exact .inl ⟨kvs, g1, by rw [e]; exact fin_q ex q (by simp only [Rp])⟩
    · have e : kvs.length = ks.length := by have := congrArg List.length g2; simpa using this.symm
      exact .inr ⟨kvs, g1, by rw [e]; exact fin_q ex q (by simp only [Rp])⟩
  · cases hf

/-! ## for k in d, d a thing of the def's own: locked while it is walked, then let go -/
def IsDO : HO → Prop
  | .dK _ => True
  | .dT _ => True
  | _ => False
section
variable {T : Tb} {B : Hp} {d : Addr} {od : Obj} {u : HO}
theorem rd_thaw {a : Addr} {x : HO} (hd : B d = some (.frz od u)) (h : Rd B a x) (nf : ∀ o' u', x ≠ .frz o' u') : Rd (upd B d u) a x := by
  by_cases q : a = d
  · subst q
    rcases h with h | ⟨o', h⟩
    · rw [hd] at h; cases h; exact absurd rfl (nf _ _)
    · rw [hd] at h; cases h; exact .inl upd_same
  · rcases h with h | ⟨o', h⟩
    · exact .inl (by rw [upd_ne q]; exact h)
    · exact .inr ⟨o', by rw [upd_ne q]; exact h⟩
theorem at_thaw {a : Addr} {x : HO} (hd : B d = some (.frz od u)) (h : B a = some x) (nf : x ≠ .frz od u) : upd B d u a = some x := by
  rw [upd_ne]
  · exact h
  · rintro rfl; rw [hd] at h; cases h; exact nf rfl
mutual
theorem Rp.thaw (hu : IsDO u) (hd : B d = some (.frz od u)) : ∀ (x : D) (v : V), Rp T B x v → Rp T (upd B d u) x v
  | .non, _, h => by simpa [Rp] using h
  | .bl _, _, h => by simpa [Rp] using h
  | .int _, _, h => by simpa [Rp] using h
  | .str _, _, h => by simpa [Rp] using h
  | .tup ds, v, h => by
    simp only [Rp] at h ⊢
    obtain ⟨a, xs, e1, e2, e3⟩ := h
    exact ⟨a, xs, e1, at_thaw hd e2 (by intro z; cases z), RpL.thaw hu hd ds xs e3⟩
  | .ptp ds, v, h => by
    simp only [Rp] at h ⊢
    obtain ⟨a, xs, o, e1, e2, e3, e4, e5⟩ := h
    exact ⟨a, xs, o, e1, at_thaw hd e2 (by intro z; cases z; exact hu), e3, e4, RpL.thaw hu hd ds xs e5⟩
  | .lst ds, v, h => by
    obtain ⟨a, xs, e1, e2, e3⟩ := (by simpa [Rp] using h : ∃ a xs, v = .ref a ∧ B a = some (.lst xs) ∧ RpL T B ds xs)
    simp only [Rp]
    exact ⟨a, xs, e1, at_thaw hd e2 (by intro z; cases z), RpL.thaw hu hd ds xs e3⟩
  | .scr ns, v, h => by
    simp only [Rp] at h ⊢
    obtain ⟨a, e1, e2⟩ := h
    refine ⟨a, e1, ?_⟩
    rcases e2 with e2 | e2
    · exact .inl (rd_thaw hd e2 (by intro _ _ z; cases z))
    · exact .inr e2
  | .dct t ks vs, v, h => by
    simp only [Rp] at h ⊢
    obtain ⟨a, e1, h⟩ := h
    refine ⟨a, e1, ?_⟩
    rcases h with ⟨t0, kvs, h1, h2, h3⟩ | ⟨t0, kvs, h1, h2, h3⟩
    · exact .inl ⟨t0, kvs, rd_thaw hd h1 (by intro _ _ z; cases z), h2, RpL.thaw hu hd vs _ h3⟩
    · exact .inr ⟨t0, kvs, rd_thaw hd h1 (by intro _ _ z; cases z), h2, RpL.thaw hu hd vs _ h3⟩
  | .fn _, _, h => by
    simp only [Rp] at h ⊢
    obtain ⟨a, c, e1, e2, e3⟩ := h
    exact ⟨a, c, e1, at_thaw hd e2 (by intro z; cases z), at_thaw hd e3 (by intro z; cases z)⟩
  | .exc _, _, h => by
    simp only [Rp] at h ⊢
    obtain ⟨a, e1, e2⟩ := h
    exact ⟨a, e1, at_thaw hd e2 (by intro z; cases z)⟩
  | .dcn ks vs, v, h => by
    simp only [Rp] at h ⊢
    obtain ⟨p, a, xs, us, e1, e2, e3, e4, e5, e6, e7, e8⟩ := h
    exact ⟨p, a, xs, us, e1, at_thaw hd e2 (by intro z; cases z), e3, e4, e5, RpL.thaw hu hd ks _ e6, RpL.thaw hu hd vs _ e7, e8⟩
  | .ins c fs, v, h => by
    simp only [Rp] at h ⊢
    obtain ⟨a, dx, nvs, e1, e2, e3, e4⟩ := h
    exact ⟨a, dx, nvs, e1, at_thaw hd e2 (by intro z; cases z), e3, RpL.thaw hu hd fs _ e4⟩
theorem RpL.thaw (hu : IsDO u) (hd : B d = some (.frz od u)) : ∀ (ds : List D) (xs : List V), RpL T B ds xs → RpL T (upd B d u) ds xs
  | [], _, h => by simpa [RpL] using h
  | x :: ds, xs, h => by
    simp only [RpL] at h ⊢
    obtain ⟨y, r, e1, e2, e3⟩ := h
    exact ⟨y, r, e1, Rp.thaw hu hd x y e2, RpL.thaw hu hd ds r e3⟩
end
theorem At.thaw (hu : IsDO u) (hd : B d = some (.frz od u)) {o : HO} {x : D} (h : At T B o x) : At T (upd B d u) o x := by
  cases x <;> simp only [At] at h ⊢ <;> try exact h
  · obtain ⟨xs, e1, e2⟩ := h
    exact ⟨xs, e1, RpL.thaw hu hd _ _ e2⟩
  · rcases h with ⟨t0, kvs, h1, h2, h3⟩ | ⟨t0, kvs, h1, h2, h3⟩
    · exact .inl ⟨t0, kvs, h1, h2, RpL.thaw hu hd _ _ h3⟩
    · exact .inr ⟨t0, kvs, h1, h2, RpL.thaw hu hd _ _ h3⟩
  · obtain ⟨dx, nvs, h1, h2, h3⟩ := h
    exact ⟨dx, nvs, h1, h2, RpL.thaw hu hd _ _ h3⟩
  · obtain ⟨a, xs, us, e1, e2, e3, e4, e5, e6, e7⟩ := h
    exact ⟨a, xs, us, e1, e2, e3, e4, RpL.thaw hu hd _ _ e5, RpL.thaw hu hd _ _ e6, e7⟩
end
/-- the slot i is read only, nothing is let out -/
abbrev Gs.lock (G : Gs) (i : Nat) : Gs := { G with O := fun j => if j = i then false else G.O j, W := fun _ _ _ _ => False }
section
variable {G : Gs} {F : Fm} {B H : Hp} {σ : L2.St} {e : Env} {i : Nat} {p : Addr} {u : HO} {od : Obj} {dd : D}
theorem lk_ne {j : Nat} (h : (G.lock i).O j = true) : j ≠ i ∧ G.O j = true := by
  by_cases q : j = i
  · have h : (if j = i then false else G.O j) = true := h
    rw [if_pos q] at h; cases h
  · have h : (if j = i then false else G.O j) = true := h
    rw [if_neg q] at h; exact ⟨q, h⟩
theorem lk_of {j : Nat} (h1 : j ≠ i) (h2 : G.O j = true) : (G.lock i).O j = true := by
  show (if j = i then false else G.O j) = true
  rw [if_neg h1]; exact h2
theorem Rep.lock (r : Rep G F B σ H e) (hi : i ≠ 0) (ho : G.O i = true) (he : e[i]? = some (some dd)) (hs : σ[i]? = some (some (.ref p))) (hB : B p = none) (h0 : F.H0 p = none) (hH : H p = some u) (rp : Rp G.T (upd B p (.frz od u)) dd (.ref p)) :
    Rep (G.lock i) F (upd B p (.frz od u)) σ (upd H p (.frz od u)) e where
  ex := fun a o h => by
    by_cases q : a = p
    · subst q; rw [upd_same] at h ⊢; exact h
    · rw [upd_ne q] at h ⊢; exact r.ex _ _ h
  fr := r.fr.upd h0
  b0 := r.b0.trans (.new hB)
  nw := fun q o h => by
    by_cases z : q = p
    · subst z; exact .inr (.inl h0)
    · rw [upd_ne z] at h; exact r.nw q o h
  sh := fun j d' hj hd => by
    by_cases q : j = i
    · subst q
      rw [he] at hd
      cases hd
      exact ⟨_, hs, rp⟩
    · have hj : (if j = i then false else G.O j) = false := hj
      rw [if_neg q] at hj
      obtain ⟨v, h1, h2⟩ := r.sh j d' hj hd
      exact ⟨v, h1, Rp.mono (.new hB) _ _ h2⟩
  ow := fun j d' hj hd => by
    obtain ⟨q, hj⟩ := lk_ne hj
    obtain ⟨p', o', a1, a2, a3, a4, a5⟩ := r.ow j d' hj hd
    have hp : p' ≠ p := by rintro rfl; exact r.ne i j dd d' p' ho hj (Ne.symm q) he hd hs a1
    exact ⟨p', o', a1, by rw [upd_ne hp]; exact a2, a3, by rw [upd_ne hp]; exact a4, a5.mono (.new hB)⟩
  ne := fun j k d1 d2 q hj hk hjk h1 h2 h3 => r.ne j k d1 d2 q (lk_ne hj).2 (lk_ne hk).2 hjk h1 h2 h3
  pt := fun j q hq => by
    obtain ⟨z1, z2, z3⟩ := r.pt j q hq
    exact ⟨z1, lk_of (by rw [z1]; exact Ne.symm hi) z2, z3⟩
  len := r.len
theorem Rep.unlock (r : Rep (G.lock i) F B σ H e) (hu : IsDO u) (h0 : F.H0 p = none) (hb : F.B0 p = none) (hB : B p = some (.frz od u)) : Rep G F (upd B p u) σ (upd H p u) (e.set i none) where
  ex := fun a o h => by
    by_cases q : a = p
    · subst q; rw [upd_same] at h ⊢; exact h
    · rw [upd_ne q] at h ⊢; exact r.ex _ _ h
  fr := r.fr.upd h0
  b0 := fun a o h => by rw [upd_ne (ne_of_none h hb)]; exact r.b0 a o h
  nw := fun q o h => by
    by_cases z : q = p
    · subst z; exact .inr (.inl h0)
    · rw [upd_ne z] at h; exact r.nw q o h
  sh := fun j d' hj hd => by
    have q : i ≠ j := by
      rintro rfl
      by_cases l : i < e.length
      · rw [List.getElem?_set_self l] at hd; cases hd
      · rw [List.getElem?_eq_none (by simpa using l)] at hd; cases hd
    rw [List.getElem?_set_ne q] at hd
    obtain ⟨v, h1, h2⟩ := r.sh j d' (by show (if j = i then false else G.O j) = false; rw [if_neg (Ne.symm q)]; exact hj) hd
    exact ⟨v, h1, Rp.thaw hu hB _ _ h2⟩
  ow := fun j d' hj hd => by
    have q : i ≠ j := by
      rintro rfl
      by_cases l : i < e.length
      · rw [List.getElem?_set_self l] at hd; cases hd
      · rw [List.getElem?_eq_none (by simpa using l)] at hd; cases hd
    rw [List.getElem?_set_ne q] at hd
    obtain ⟨p', o', a1, a2, a3, a4, a5⟩ := r.ow j d' (lk_of (Ne.symm q) hj) hd
    have hp : p' ≠ p := by rintro rfl; rw [hB] at a2; cases a2
    exact ⟨p', o', a1, by rw [upd_ne hp]; exact a2, a3, by rw [upd_ne hp]; exact a4, a5.thaw hu hB⟩
  ne := fun j k d1 d2 q hj hk hjk h1 h2 h3 => by
    have gone : ∀ {x : Nat} {dx : D}, (e.set i none)[x]? = some (some dx) → x ≠ i ∧ e[x]? = some (some dx) := fun {x dx} z => by
      have q : i ≠ x := by
        rintro rfl
        by_cases l : i < e.length
        · rw [List.getElem?_set_self l] at z; cases z
        · rw [List.getElem?_eq_none (by simpa using l)] at z; cases z
      rw [List.getElem?_set_ne q] at z
      exact ⟨Ne.symm q, z⟩
    obtain ⟨n1, g1⟩ := gone h1
    obtain ⟨n2, g2⟩ := gone h2
    exact r.ne j k d1 d2 q (lk_of n1 hj) (lk_of n2 hk) hjk g1 g2 h3
  pt := fun j q hq => by
    obtain ⟨z1, z2, z3⟩ := r.pt j q hq
    exact ⟨z1, (lk_ne z2).2, z3⟩
  len := by simpa using r.len
end
def sForD (i : Nat) (f : D → Env → Option Env) (s : S) : S := fun e => match e[i]? with
  | some (some (.dct _ ks _)) => (match forL f s ks e with
    | .nx e1 => .nx (e1.set i none)
    | _ => .bad)
  | _ => .bad
theorem wk_keysT {T : Tb} {H0 : Hp} {d : Addr} {od : Obj} {kvs : List (List Key × V)} {ks : List D} (hk : ks.map keyT = kvs.map (fun p => some p.1)) : Wk T H0 (Itkt d od kvs) ks (fun B => B d = some (.frz od (.dT kvs))) where
  up := fun B B' ex h => ex _ _ h
  go := fun i B H h ex _ hi => ⟨ex _ _ h, by have := congrArg List.length hk; simp at this; omega⟩
  st := fun i B H h ex _ hi => ⟨ex _ _ h, by have := congrArg List.length hk; simp at this; omega⟩
  yl := fun i B H x H' dd h ex _ hd hy => by
    obtain ⟨rfl, k, v, q, hkv, rfl, hq⟩ := hy
    refine ⟨tellT B H', tellT_grow ex, ?_⟩
    have e : (ks.map keyT)[i]? = (kvs.map (fun p => some p.1))[i]? := by rw [hk]
    rw [List.getElem?_map, List.getElem?_map, hd, hkv] at e
    have e : keyT dd = some k := by simpa using e
    cases dd <;> simp only [keyT, reduceCtorEq] at e
    simp only [Rp]
    exact ⟨q, _, rfl, tellT_tup ex hq, keysD_tup e⟩
theorem wk_keysK {T : Tb} {H0 : Hp} {d : Addr} {od : Obj} {kvs : List (Key × V)} {ks : List D} (hk : ks.map keyD = kvs.map (fun p => some p.1)) : Wk T H0 (Itk d od kvs) ks (fun B => B d = some (.frz od (.dK kvs))) where
  up := fun B B' ex h => ex _ _ h
  go := fun i B H h ex _ hi => ⟨ex _ _ h, by have := congrArg List.length hk; simp at this; omega⟩
  st := fun i B H h ex _ hi => ⟨ex _ _ h, by have := congrArg List.length hk; simp at this; omega⟩
  yl := fun i B H x H' dd h ex _ hd hy => by
    obtain ⟨rfl, k, v, hkv, rfl⟩ := hy
    refine ⟨B, .rfl ex, ?_⟩
    have e : (ks.map keyD)[i]? = (kvs.map (fun p => some p.1))[i]? := by rw [hk]
    rw [List.getElem?_map, List.getElem?_map, hd, hkv] at e
    have e : keyD dd = some k := by simpa using e
    cases dd <;> simp only [keyD, reduceCtorEq, Option.some.injEq] at e
    · subst e; simp [Rp, kV]
    · subst e; simp [Rp, kV]
section
variable {X : Cx} {G : Gs} {rel rel' : Rel D V} {iter tg : Expr} {body : List Stmt} {f : D → Env → Option Env} {s : S} {pos : Pos} {i : Nat}
/-- the loop, once it is known what is walked -/
theorem for_core {F : Fm} {D : Ends} {σ : L2.St} {H1 : Hp} {B1 : Hp} {e1 : Env} {ds : List Fl.D} {J : It} {P : Hp → Prop} (rep1 : Rep G F B1 σ H1 e1) (hP : P B1) (wk : Wk G.T F.H0 J ds P) (post1 : PostS G F rel B1 (forL f s ds e1) D) :
    ∃ W : Nat → Nat → L2.St → Hp → Prop, (∃ m, W 0 m σ H1) ∧ ∀ i m σ H, W i m σ H → (J.stop i H ∧ D.nx σ H) ∨ (J.go i H ∧ ∃ N : L2.St → Hp → Prop, (∀ σ' H', N σ' H' → ∃ m', m' < m ∧ W (i + 1) m' σ' H') ∧
      ∀ x H', J.yld i H x H' → tG G f x σ H' fun σ2 H2 => tS G rel s { D with nx := N, ct := N, bk := D.nx } σ2 H2) := by
  have h : tFor (fun σ H R => σ = σ ∧ R J H1) (tG G f) (tS G rel s) D σ H1 := by
    have := for_t (G := G) (rel := rel) (it := fun e => .ok ds e) (f := f) (s := s) (D := D) (σ := σ) (H := H1) ⟨F, B1, e1, rep1, post1⟩
    refine ⟨rfl, ?_⟩
    refine ⟨fun i m σ' H' => ∃ B' e', Ex B1 B' ∧ Rep G F B' σ' H' e' ∧ P B' ∧ i + m = ds.length ∧ PostS G F rel B' (forL f s (ds.drop i) e') D, ⟨ds.length, B1, e1, .rfl, rep1, hP, by omega, by simpa using post1⟩, ?_⟩
    rintro i m σ' H' ⟨B', e', ex', rep', hP', him, post'⟩
    by_cases hi : i < ds.length
    · refine .inr ⟨wk.go i B' H' hP' rep'.ex rep'.fr hi, fun σ2 H2 => ∃ B2 e2, Ex B1 B2 ∧ Rep G F B2 σ2 H2 e2 ∧ P B2 ∧ PostS G F rel B2 (forL f s (ds.drop (i + 1)) e2) D, fun σ2 H2 ⟨B2, e2, x2, r2, p2, q2⟩ => ⟨m - 1, by omega, B2, e2, x2, r2, p2, by omega, q2⟩, fun x H2 hy => ?_⟩
      have hd : ds[i]? = some ds[i] := List.getElem?_eq_getElem hi
      obtain ⟨B2, g, rx⟩ := wk.yl i B' H' x H2 ds[i] hP' rep'.ex rep'.fr hd hy
      have rep2 := rep'.grow g
      rw [List.drop_eq_getElem_cons hi] at post'
      have post' := PostS.mono g.ex post'
      have post' : PostS G F rel B2 (match f ds[i] e' with | some e1 => (match s e1 with | .nx e2 => forL f s (ds.drop (i + 1)) e2 | .ct e2 => forL f s (ds.drop (i + 1)) e2 | .bk e2 => .nx e2 | r => r) | none => .bad) D := post'
      cases hf : f ds[i] e' with
      | none => rw [hf] at post'; exact post'.elim
      | some e3 =>
        rw [hf] at post'
        refine ⟨F, B2, e', ds[i], rep2, rx, e3, hf, fun B4 σ4 H4 x4 r4 => ⟨F, B4, e3, r4, ?_⟩⟩
        have post' := PostS.mono x4 post'
        have x14 : Ex B1 B4 := (ex'.trans g.ex).trans x4
        have pB4 : P B4 := wk.up _ _ (g.ex.trans x4) hP'
        have post' : PostS G F rel B4 (match s e3 with | .nx e2 => forL f s (ds.drop (i + 1)) e2 | .ct e2 => forL f s (ds.drop (i + 1)) e2 | .bk e2 => .nx e2 | r => r) D := post'
        cases hs : s e3 with
        | nx e5 => rw [hs] at post'; exact fun B5 σ5 H5 x5 r5 => ⟨B5, e5, x14.trans x5, r5, wk.up _ _ x5 pB4, PostS.mono x5 post'⟩
        | ct e5 => rw [hs] at post'; exact fun B5 σ5 H5 x5 r5 => ⟨B5, e5, x14.trans x5, r5, wk.up _ _ x5 pB4, PostS.mono x5 post'⟩
        | bk e5 => rw [hs] at post'; exact post'
        | rt d e5 => rw [hs] at post'; exact post'
        | err c e5 => rw [hs] at post'; exact post'
        | bad => rw [hs] at post'; exact post'
    · refine .inl ⟨wk.st i B' H' hP' rep'.ex rep'.fr (by omega), ?_⟩
      have e0 : ds.drop i = [] := List.drop_eq_nil_of_le (by omega)
      rw [e0] at post'
      exact post' B' σ' H' .rfl rep'
  exact h.2
theorem ls_forD (po : PassesOwn (model X.prog X.w) X.A X.env X.xe) (hc : X.calm = true) (hv : PE X iter (tVar i)) (ho : G.O i = true) (hi0 : i ≠ 0) (hg : PG X tg (tG (G.lock i) f)) (hb : PSs X body (tS (G.lock i) rel' s)) (hs : ∀ x, foldedSetIterable iter X.env x = pure x := by intro _; rfl) :
    PS X (.For tg iter body [] pos) (tS G rel (sForD i f s)) := ps_imp (ps_lock (ps_for po hc (pi_keys hv) hg hb hs)) fun D σ H h => by
  obtain ⟨F, B, e, rep, post⟩ := h
  have post : PostS G F rel B (match e[i]? with | some (some (.dct _ ks _)) => (match forL f s ks e with | .nx e1 => .nx (e1.set i none) | _ => .bad) | _ => .bad) D := post
  cases he : e[i]? with
  | none => rw [he] at post; exact post.elim
  | some od0 =>
    cases od0 with
    | none => rw [he] at post; exact post.elim
    | some dd =>
      rw [he] at post
      cases dd with
      | dct t ks vs =>
        have post : PostS G F rel B (match forL f s ks e with | .nx e1 => .nx (e1.set i none) | _ => .bad) D := post
        obtain ⟨p, u, hs1, hB, h0, hH, hat⟩ := rep.ow i _ ho he
        have hb0 : F.B0 p = none := rep.b0.none hB
        simp only [At] at hat
        have key : ∀ (od : Obj) (J : It), IsDO u → Mut (some u) → Rp G.T (upd B p (.frz od u)) (.dct t ks vs) (.ref p) → Wk G.T F.H0 J ks (fun B => B p = some (.frz od u)) →
            ∃ W : Nat → Nat → L2.St → Hp → Prop, (∃ m, W 0 m σ (upd H p (.frz od u))) ∧ ∀ i' m σ H, W i' m σ H → (J.stop i' H ∧ (H p = some (.frz od u) ∧ D.nx σ (upd H p u))) ∨ (J.go i' H ∧ ∃ N : L2.St → Hp → Prop, (∀ σ' H', N σ' H' → ∃ m', m' < m ∧ W (i' + 1) m' σ' H') ∧
              ∀ x H', J.yld i' H x H' → tG (G.lock i) f x σ H' fun σ2 H2 => tS (G.lock i) rel' s ⟨N, fun v H' => H' p = some (.frz od u) ∧ D.rt v (upd H' p u), fun σ H => H p = some (.frz od u) ∧ D.nx σ (upd H p u), N⟩ σ2 H2) := fun od J hdo mu rp wk => by
          have rl := rep.lock (od := od) hi0 ho he hs1 hB h0 hH rp
          refine for_core (G := G.lock i) (rel := rel') (f := f) (s := s) (D := ⟨fun σ H => H p = some (.frz od u) ∧ D.nx σ (upd H p u), fun v H' => H' p = some (.frz od u) ∧ D.rt v (upd H' p u), fun σ H => H p = some (.frz od u) ∧ D.bk σ (upd H p u), fun σ H => H p = some (.frz od u) ∧ D.ct σ (upd H p u)⟩) rl upd_same wk ?_
          cases hfl : forL f s ks e with
          | nx e1 =>
            rw [hfl] at post
            intro B' σ' H' x r
            have hp : B' p = some (.frz od u) := x _ _ upd_same
            refine ⟨r.ex _ _ hp, post (upd B' p u) σ' (upd H' p u) (fun a o h => ?_) (r.unlock hdo h0 hb0 hp)⟩
            rw [upd_ne (ne_of_none h hB)]
            exact x _ _ (by rw [upd_ne (ne_of_none h hB)]; exact h)
          | ct e1 => rw [hfl] at post; exact post.elim
          | bk e1 => rw [hfl] at post; exact post.elim
          | rt d e1 => rw [hfl] at post; exact post.elim
          | err c e1 => rw [hfl] at post; exact post.elim
          | bad => rw [hfl] at post; exact post.elim
        rcases hat with ⟨t0, kvs, rfl, g2, g3⟩ | ⟨t0, kvs, rfl, g2, g3⟩
        · refine ⟨p, _, hH, trivial, fun od => ⟨.ref p, hs1, p, od, rfl, .inl ⟨kvs, upd_same, ?_⟩⟩⟩
          refine key od _ trivial trivial ?_ (wk_keysK g2)
          simp only [Rp]
          exact ⟨p, rfl, .inl ⟨t0, kvs, .inr ⟨od, upd_same⟩, g2, RpL.mono (.new hB) _ _ g3⟩⟩
        · refine ⟨p, _, hH, trivial, fun od => ⟨.ref p, hs1, p, od, rfl, .inr ⟨kvs, upd_same, ?_⟩⟩⟩
          refine key od _ trivial trivial ?_ (wk_keysT g2)
          simp only [Rp]
          exact ⟨p, rfl, .inr ⟨t0, kvs, .inr ⟨od, upd_same⟩, g2, RpL.mono (.new hB) _ _ g3⟩⟩
      | _ => exact post.elim
end
end Fl

namespace Fl
open PySem PySem.Spec PyProof.Rows L2

/-! ## -e -/
def vNeg (m : M) : M := fun e => R.bind (m e) fun d e1 => match d with
  | .int i => .ok (.int (-i)) e1
  | _ => .bad
section
variable {X : Cx} {G : Gs} {a : Expr} {m : M} {pos : Pos}
theorem le_neg (h : PE X a (tE G m)) : PE X (.UnaryOp .USub a pos) (tE G (vNeg m)) := pe_imp (pe_un un_neg h) fun σ H Q hq => by
  obtain ⟨F, B, e, rep, post⟩ := hq
  refine ⟨F, B, e, rep, Post.weak (Post.bind post) ?_⟩
  rintro x H1 ⟨B1, e1, d, ex1, rep1, rl, post1⟩
  cases d with
  | int i =>
    have rl : x = .int i := by simpa only [relE, Rp] using rl
    exact ⟨i, rl, post1 (.int (-i)) B1 H1 .rfl rep1 (by simp only [relE, Rp])⟩
  | _ => exact post1.elim
end

/-! ## sum(list), sum(tuple) -/
def rSum2 (K : PySem.W.Frag) : List V → Hp → VK → Prop := fun vs H Q => ∃ (a : Addr) (ns : List Int), vs = [V.ref a] ∧ (SqL K H a (ns.map V.int) ∨ SqT K H a (ns.map V.int)) ∧ Q (.int ns.sum) H
theorem cr_sum2 {X : Cx} (hc : X.calm = true) : CallR X (.builtin "sum") (rSum2 X.K) := by
  intro pins s σ H vs us Q I r h
  obtain ⟨a, ns, rfl, hs, q⟩ := h
  rcases hs with hs | hs
  · exact cr_sum hc pins s σ H _ us Q I r ⟨a, ns, rfl, hs, q⟩
  · obtain ⟨its, rv, hl, _⟩ := I.tuple hs
    rw [Vals.ref1 r]
    have hi : IntsAre its ns := rv.ints
    obtain ⟨xs, e⟩ := hi.allInts.items
    have hn : numsOf (intItems xs).toList = ns := by rw [← e]; exact hi.numsOf
    rw [nums_intItems] at hn
    have hl : s.heap.IsTuple a its.toArray := hl
    rw [e] at hl
    refine PySem.W.ktm_sumG (I.ok.hd hc) hl fun h' tk t' hk => ?_
    rw [preSum_eq, List.take_of_length_le (by simp), hn]
    exact ⟨.int ns.sum, H, I.kept hk, ⟨_, rfl⟩, q⟩
def fSum2 : List D → Option D
  | [.lst ds] => (ds.mapM intOf).map fun bs => .int bs.sum
  | [.tup ds] => (ds.mapM intOf).map fun bs => .int bs.sum
  | _ => none
theorem cd_sum2 {T : Tb} : CallD T (rSum2 T.K) fSum2 := by
  intro B H vs ds d Q ex h hf q
  unfold fSum2 at hf
  split at hf
  · obtain ⟨v, rfl, hv⟩ := hl1 h
    obtain ⟨bs, hb, rfl⟩ := Option.map_eq_some_iff.mp hf
    obtain ⟨a, xs, rfl, e1, r1⟩ := rh_lst ex hv
    have := ints_of r1 hb
    subst this
    exact ⟨a, bs, rfl, .inl (.of e1), fin_q ex q (by simp only [Rp])⟩
  · obtain ⟨v, rfl, hv⟩ := hl1 h
    obtain ⟨bs, hb, rfl⟩ := Option.map_eq_some_iff.mp hf
    obtain ⟨a, xs, rfl, e1, r1⟩ := rh_tup hv
    have := ints_of r1 hb
    subst this
    exact ⟨a, bs, rfl, .inr (sqt_of ex e1), fin_q ex q (by simp only [Rp])⟩
  · cases hf
end Fl

namespace Fl
open PySem PySem.Spec PyProof.Rows L2

/-! ## {k: v}, k a tuple -/
def tDispT1 (tk tv : TE) : TE := fun σ H Q => ∀ p, H p = none → tk σ (upd H p (.dT [])) fun x H1 => tv σ H1 fun y H2 => ∃ (b : Addr) (key : List Key), x = .ref b ∧ H2 b = some (.tup (key.map kV)) ∧ H2 p = some (.dT []) ∧ Q (.ref p) (upd H2 p (.dT [(key, y)]))
theorem pe_dispT1 {X : Cx} {pos : Pos} {k v : Expr} {tk tv : TE} (hu : X.A.units + 1 < cLine) (hk : PE X k tk) (hv : PE X v tv) : PE X (.Dict [some k] [v] pos) (tDispT1 tk tv) := by
  refine ⟨fun pins s σ H Q I q => ?_⟩
  have hn := I.hok.fresh (Nat.le_refl s.heap.objs.size)
  have I1 := I.laid (a := s.heap.objs.size) (o := .dT []) (h' := s.heap.push { cls := .type "dict", data := .dict #[] }) (t' := s.toks) (fun _ _ q => Heap.get?_push_of_some _ q) (Nat.le_refl _) (dt_empty s.heap I.big)
  rw [arm_eval_Dict, zip_pairTrees [some k] [v] X.env pos rfl rfl, dictDisplay_pairs (pairTrees [some k] [v] X.env pos) (by intro z; cases z) (by rw [pairTrees_length [some k] [v] X.env pos rfl rfl]; exact (by decide : 1 < 17))]
  refine wpAny_bind (wpAny_standAt (wpAny_bind (wpAny_subDictH (knd := tupleKind (mixKind X.prog X.w)) (show (tupleKind (mixKind X.prog X.w)).room X.A from by first | exact tupleKind_room_in1 hu | (show X.A.units + 1 < cLine; omega) | (unfold tupleKind; show _; omega)) (by show 1 ≤ 15; decide) ?_)))
  refine pairTrees_cons_walk (thn (hk.run pins _ σ _ _ I1 (q _ hn)) fun u s1 ⟨x, H1, I1, rx, q1⟩ => thn (hv.run pins s1 σ H1 _ I1 q1) fun w2 s2 ⟨y, H2, I2, ry, b, key, ex, hb, hp, q2⟩ => pairTrees_nil_walk ?_)
  subst ex
  obtain rfl : u = Value.ref b := rx
  obtain ⟨z, hd, xs, rel, dd⟩ := dt_of I2.hok hp
  cases rel
  refine ⟨[(key, b, w2)], ⟨rfl, rfl, key_of I2.hok hb, trivial⟩, dd, fun h' tk dd' hs => wpAny_pure ?_⟩
  have dd' : h'.DictOfH (tupleKind (mixKind X.prog X.w)) s.heap.objs.size [(key, b, w2)] := dd'
  obtain ⟨o, es, ep, hq, h2, h3, h4, _, h5⟩ := dd'
  refine ⟨.ref s.heap.objs.size, _, d_write (ob := .dT [(key, y)]) I2 (by rw [hp]; exact True.intro) hs ⟨o, hq⟩ ⟨by show 1 ≤ sizeLine; decide, hd, [(key, b, w2)], .cons ⟨rfl, ?_, ry⟩ .nil, o, es, ep, hq, h2, h3, h4, h5⟩, rfl, q2⟩
  rw [upd_ne (ne_of hb hp (fun z => nomatch z))]
  exact hb
def vDisp1 (mk mv : M) : M := fun e => R.bind (mk e) fun k e1 => R.bind (mv e1) fun v e2 => if (keyT k).isSome = true then .ok (.dct true [k] [v]) e2 else .bad
section
variable {X : Cx} {G : Gs} {a b : Expr} {mk mv : M} {pos : Pos}
theorem lf_disp1 (hu : X.A.units + 1 < cLine) (hk : PE X a (tE G mk)) (hv : PE X b (tE G mv)) : PE X (.Dict [some a] [b] pos) (tF G (vDisp1 mk mv)) := pe_imp (pe_dispT1 hu hk hv) fun σ H Q h => by
  obtain ⟨F, B, e, rep, post⟩ := h
  intro p hp
  have hB : B p = none := rep.ex.none hp
  have h0 : F.H0 p = none := rep.fr.none hp
  have hb0 : F.B0 p = none := rep.b0.none hB
  have nt : ∀ xs, (HO.dT []) ≠ .tup xs := fun xs z => nomatch z
  have rep0 := rep.grow (Grow.heap rep.ex (.new (o := .dT []) hp))
  have repP := rep0.pin (o := .dT []) hB h0 upd_same (fun i d' hi he hs => by
    obtain ⟨p', o', a1, a2, a3, a4, _⟩ := rep.ow i d' hi he
    rw [hs] at a1
    cases a1
    rw [hp] at a4; cases a4)
  have post : Post G F B σ (relF G) (R.bind (mk e) fun k e1 => R.bind (mv e1) fun v e2 => if (keyT k).isSome = true then .ok (.dct true [k] [v]) e2 else .bad) Q := post
  refine ⟨{ F with H0 := upd F.H0 p (.dT []) }, B, e, repP, ?_⟩
  cases hm : mk e with
  | bad => rw [hm] at post; exact post
  | err c e1 => rw [hm] at post; exact fun B' H' x r => post B' H' x (Rep.unpin nt h0 hb0 r).1
  | ok k e1 =>
    rw [hm] at post
    intro x B1 H1 ex1 rep1 rk
    have post : Post G F B σ (relF G) (R.bind (mv e1) fun v e2 => if (keyT k).isSome = true then .ok (.dct true [k] [v]) e2 else .bad) Q := post
    refine ⟨{ F with H0 := upd F.H0 p (.dT []) }, B1, e1, rep1, ?_⟩
    cases hm2 : mv e1 with
    | bad => rw [hm2] at post; exact post
    | err c e2 => rw [hm2] at post; exact fun B' H' x r => post B' H' (ex1.trans x) (Rep.unpin nt h0 hb0 r).1
    | ok v e2 =>
      rw [hm2] at post
      have post : Post G F B σ (relF G) (if (keyT k).isSome = true then .ok (.dct true [k] [v]) e2 else .bad) Q := post
      by_cases hs : (keyT k).isSome = true
      · rw [if_pos hs] at post
        obtain ⟨key, hk'⟩ := Option.isSome_iff_exists.mp hs
        intro y B2 H2 ex2 rep2 rv
        have rk2 : Rp G.T B2 k x := Rp.mono ex2 _ _ rk
        obtain ⟨c, rfl, hc⟩ := keyT_rp (H := H2) rep2.ex hk' (.inl rk2)
        obtain ⟨u1, u2, u3, u4⟩ := Rep.unpin nt h0 hb0 rep2
        refine ⟨c, key, rfl, rep2.ex _ _ hc, u3, post (.ref p) B2 _ (ex1.trans ex2) (u1.other u2 h0 u4) ⟨p, _, rfl, u2, h0, upd_same, ?_, u4⟩⟩
        simp only [At]
        exact .inr ⟨trivial, [(key, y)], rfl, by simp [hk'], .one rv⟩
      · rw [if_neg hs] at post; exact post.elim
end
/-! ## xs[::k], k a written positive number -/
def pickD {α : Type} (xs : List α) (k : Int) : List α := (sliceRange (sliceBounds none none (some k) xs.length).1 (sliceBounds none none (some k) xs.length).2.1 (sliceBounds none none (some k) xs.length).2.2).filterMap fun i => xs[i]?
theorem vals_pick {xs : List V} {us : List Value} (r : Vals xs us) : ∀ is : List Nat, Vals (is.filterMap fun i => xs[i]?) (is.filterMap fun i => us[i]?)
  | [] => .nil
  | i :: is => by
    rw [List.filterMap_cons, List.filterMap_cons]
    cases q : xs[i]? with
    | none => rw [Vals.none_of r q]; exact vals_pick r is
    | some x =>
      obtain ⟨u, hu, ru⟩ := r.get q
      rw [hu]
      exact .cons ru (vals_pick r is)
theorem rpl_pick {T : Tb} {B : Hp} {ds : List D} {xs : List V} (r : RpL T B ds xs) : ∀ is : List Nat, RpL T B (is.filterMap fun i => ds[i]?) (is.filterMap fun i => xs[i]?)
  | [] => by simp [RpL]
  | i :: is => by
    rw [List.filterMap_cons, List.filterMap_cons]
    cases q : ds[i]? with
    | none => rw [r.none_of q]; exact rpl_pick r is
    | some d =>
      obtain ⟨x, hx, rx⟩ := r.get q
      rw [hx]
      exact .cons rx (rpl_pick r is)
theorem pickD_len {α : Type} (xs : List α) (k : Int) (hk : 0 < k) : (pickD xs k).length ≤ xs.length := by
  unfold pickD
  refine Nat.le_trans (List.length_filterMap_le _ _) (sliceRange_length_le _ _ _ _ (fun _ => ?_) fun h => ?_)
  · unfold sliceBounds
    simp only [Option.getD_some, hk, if_true]
    first | (constructor <;> simp) | (simp [hk]) | (constructor <;> (try omega))
  · exfalso
    apply h
    show ((sliceBounds none none (some k) xs.length).2.2) > 0
    unfold sliceBounds
    simp [hk]
def tStpL (K : PySem.W.Frag) (k : Int) (te : TE) : TE := fun σ H Q => te σ H fun x H1 => ∃ a xs, x = .ref a ∧ SqL K H1 a xs ∧ ∀ p, H1 p = none → Q (.ref p) (upd H1 p (.lst (pickD xs k)))
theorem pe_stpL {X : Cx} {e : Expr} {te : TE} {k : Int} {kk : Nat} {p1 p3 pos : Pos} (hk : 0 < k) (he : PE X e te) : PE X (.Subscript e (.Slice none none (some (.Constant (.int k) kk p1)) p3) pos) (tStpL X.K k te) := by
  refine ⟨fun pins s σ H Q I h => ?_⟩
  refine Subscript_ (thn (he.run pins s σ H _ I h) fun v s1 ⟨x, H1, I1, r1, q1⟩ => ?_)
  obtain ⟨a, xs, ex, hx, q⟩ := q1
  subst ex
  cases r1
  have hst : PO X (some (.Constant (.int k) kk p1)) (tPart (tC (.int k))) := po_some pe_int
  refine wpAny_Slice (thn (po_none.run pins s1 σ H1 (fun o H2 => o = none ∧ H2 = H1) I1 ⟨rfl, rfl⟩) fun vl s2 ⟨l, H2, I2, pl, el, e2⟩ => ?_)
  subst el e2
  refine thn (po_none.run pins s2 σ H2 (fun o H3 => o = none ∧ H3 = H2) I2 ⟨rfl, rfl⟩) fun vu s3 ⟨u, H3, I3, pu, eu, e3⟩ => ?_
  subst eu e3
  refine thn (hst.run pins s3 σ H3 (fun o H4 => o = some k ∧ H4 = H3) I3 ⟨k, rfl, rfl, rfl⟩) fun vs s4 ⟨o, H4, I4, ps, eo, e4⟩ => ?_
  subst eo e4
  have I5 : Inv X pins σ H4 { s4 with heap := s4.heap.push { cls := .type "slice", data := .fields #[vl, vu, vs] } } := I4.kept (t' := s4.toks) fun b ob q => Heap.get?_push_of_some _ q
  obtain ⟨its, r, ht, hz⟩ := I5.list hx
  have hlen := r.length
  show wpAny (model X.prog X.w) X.A (subscriptTail e (.Slice none none (some (.Constant (.int k) kk p1)) p3) (.ref a) (.ref s4.heap.objs.size)) (EP X pins σ Q) X.xe { s4 with heap := s4.heap.push { cls := .type "slice", data := .fields #[vl, vu, vs] } }
  refine tail_any (ops := [.ref a, .ref s4.heap.objs.size]) ht.isList.typeIs (PySem.slot_list_getitem.lookup) ?_ (by with_unfolding_all rfl)
  refine wpAny_getItem_list_slice ht.isList (Heap.IsSliceOf.new _ vl vu vs) pl pu ps (by intro z; cases z; omega) ?_ (by rw [List.size_toArray]; omega)
  have ep : slicePick its.toArray none none (some k) = (pickD its k).toArray := by
    unfold slicePick pickD
    simp
  rw [ep]
  have rp : Vals (pickD xs k) (pickD its k) := by
    unfold pickD
    rw [hlen]
    exact vals_pick r _
  refine ⟨.ref _, _, I5.laid (t' := s4.toks) (o := .lst (pickD xs k)) (fun b ob q => Heap.get?_push_of_some _ q) (Nat.le_refl _) ?_, rfl, q _ (I5.hok.fresh (Nat.le_refl _))⟩
  exact ⟨Nat.le_trans (pickD_len xs k hk) hz, _, 0, rp, Heap.get?_push_size _ rfl⟩
def vStp (m : M) (k : Int) : M := fun e => R.bind (m e) fun d e1 => match d with
  | .lst ds => .ok (.lst (pickD ds k)) e1
  | _ => .bad
theorem lf_stp {X : Cx} {G : Gs} {a : Expr} {m : M} {k : Int} {kk : Nat} {p1 p3 pos : Pos} (hK : G.T.K = X.K) (hk : 0 < k) (h : PE X a (tE G m)) : PE X (.Subscript a (.Slice none none (some (.Constant (.int k) kk p1)) p3) pos) (tF G (vStp m k)) := pe_imp (pe_stpL hk h) fun σ H Q hq => by
  obtain ⟨F, B, e, rep, post⟩ := hq
  refine ⟨F, B, e, rep, Post.weak (Post.bind post) ?_⟩
  rintro x H1 ⟨B1, e1, d, ex1, rep1, rl, post1⟩
  cases d with
  | lst ds =>
    obtain ⟨b, xs, rfl, g1, r1⟩ := rh_lst rep1.ex (.inl rl)
    refine ⟨b, xs, rfl, .of g1, fun p hp => ?_⟩
    have z := new_F (o := .lst (pickD xs k)) (d := .lst (pickD ds k)) rep1 hp (by
      simp only [At]
      refine ⟨_, rfl, ?_⟩
      unfold pickD
      rw [r1.length]
      exact rpl_pick r1 _)
    exact post1 (.ref p) B1 _ .rfl z.1 z.2
  | _ => exact post1.elim
end Fl

namespace Fl
open PySem PySem.Spec PyProof.Rows L2
open PySem.W (EachIs)

/-! ## sorted(set(xs)) -/
section
variable {prog : Program} {w : World} {A : Around} {E : Value → Shared → Prop} {s : Shared}
def setO (w : World) : Obj := { cls := .type "set", dict := none, data := .set #[] 0 (.fresh 0 0 (!w.params.followText "set-order")) }
/-- how a set at S gets full: C i behind i items -/
structure Filling (prog : Program) (w : World) (S : Addr) (h0 : Heap) (items : List Value) (C : Nat → Heap → Prop) : Prop where
  zero : ∀ h, h.get? S = some (setO w) → (∀ b o, h0.get? b = some o → h.get? b = some o) → C 0 h
  keep : ∀ i h h', C i h → (∀ o, h.get? S = some o → h'.get? S = some o) → (∀ b o, h0.get? b = some o → h'.get? b = some o) → C i h'
  step : ∀ (A : Around) (E : Value → Shared → Prop) (i : Nat) (v : Value) (s : Shared) (Q : Bool → Shared → Prop), A.units + 8 < cLine → items[i]? = some v → C i s.heap → (∀ b o, h0.get? b = some o → s.heap.get? b = some o) →
    (∀ b h' tk, s.toks ≤ tk → Heap.SameBut S s.heap h' → C (i + 1) h' → Q b { s with heap := h', toks := tk }) → wpAny (model prog w) A (setAdd S v) Q E s
theorem fill_loop {I : Addr} {fp wr : List Addr} {G : Array GenState → Array GenState → Prop} {n : Nat} {Pv : Nat → Value → Prop} {St : Nat → Shared → Prop} {R : Result → Shared → Prop} {items : List Value} {C : Nat → Heap → Prop}
    (W : WalksS prog w A.in1 I fp wr G n Pv St) (S : Addr) (hSf : S ∉ fp) (hval : ∀ i v, Pv i v → items[i]? = some v) (h0 : Heap) (fi : Filling prog w S h0 items C) (hS0 : h0.get? S = none) (hw0 : ∀ b ∈ wr, h0.get? b = none) (hu : A.in1.units + 8 < cLine) :
    ∀ (k i : Nat) (s : Shared), n - i = k → i ≤ n → St i s → (∀ b o, h0.get? b = some o → s.heap.get? b = some o) → C i s.heap →
      (∀ s', Moved (S :: wr) G s s' → C n s'.heap → (∀ b o, h0.get? b = some o → s'.heap.get? b = some o) → R (.ok (.ret .none)) s') →
      codeAny (model prog w) A (.builtin "set.update.loop" ⟨[.ref S, .ref I], []⟩) R s := by
  have hSw : S ∉ wr := fun h => hSf (W.sub _ h)
  have hsub : ∀ b ∈ wr, b ∈ S :: wr := fun b hb => List.mem_cons_of_mem _ hb
  have moved : ∀ {s s' : Shared}, Moved wr G s s' → (∀ b o, h0.get? b = some o → s.heap.get? b = some o) → ∀ b o, h0.get? b = some o → s'.heap.get? b = some o := fun hm hk b o e =>
    hm.heap b o (fun hb => by rw [hw0 b hb] at e; cases e) (hk b o e)
  intro k
  induction k with
  | zero =>
    intro i s hk hi hst hkp hC hR
    have hin : i = n := by omega
    subst hin
    refine codeAny_builtin F.entry_set_update_loop ?_
    rw [Around.under_plainId F.plain_set_update_loop _]
    show wpAny _ A.in1 (pyNext (.ref I) >>= _) _ _ s
    refine wpAny_bind (W.done s _ _ hst fun s' hm => ?_)
    show wpAny _ A.in1 (ret Value.none) _ _ s'
    have kp := moved hm hkp
    exact wpAny_pure (hR s' (hm.mono hsub) (fi.keep _ _ _ hC (fun o e => hm.heap S o hSw e) kp) kp)
  | succ k ih =>
    intro i s hk hi hst hkp hC hR
    have hlt : i < n := by omega
    refine codeAny_builtin F.entry_set_update_loop ?_
    rw [Around.under_plainId F.plain_set_update_loop _]
    show wpAny _ A.in1 (pyNext (.ref I) >>= _) _ _ s
    refine wpAny_bind (W.item i s _ _ hlt hst fun v s' hP hst' hm => ?_)
    have kp := moved hm hkp
    show wpAny _ A.in1 (holding [v] (setAdd S v) >>= _) _ _ s'
    refine wpAny_bind (wpAny_holding (fi.step _ _ i v s' _ hu (hval i v hP) (fi.keep _ _ _ hC (fun o e => hm.heap S o hSw e) kp) kp fun b h' tk htk hsb hC' => ?_))
    have kp2 : ∀ b o, h0.get? b = some o → h'.get? b = some o := fun b o e => (hsb.2 b (fun z => by rw [z, hS0] at e; cases e)).trans (kp b o e)
    refine wpAny_pure ⟨plainId_quiet F.plain_set_update_loop _, ih (i + 1) _ (by omega) hlt (W.frame _ s' _ _ hst' htk fun b hb o e => ?_) kp2 hC' fun s'' hm'' hC'' kp'' => ?_⟩
    · rw [hsb.2 b (fun z : b = S => hSf (by rw [← z]; exact hb))]; exact e
    · refine hR s'' (Moved.trans W.gtrans ((hm.mono hsub).then_heap htk fun b o hb e => ?_) hm'') hC'' kp''
      rw [hsb.2 b (fun z : b = S => hb (by rw [z]; exact List.mem_cons_self))]; exact e
set_option maxHeartbeats 6400000 in
theorem set_of_list {l : Addr} {items : Array Value} {C : Nat → Heap → Prop} {Q : Value → Shared → Prop} (hh : A.handled = none) (hl : s.heap.IsList l items) (fi : Filling prog w s.heap.objs.size s.heap items.toList C) (hu : A.units + 20 < cLine)
    (h : ∀ h' tk, C items.size h' → (∀ b o, s.heap.get? b = some o → h'.get? b = some o) → Q (.ref s.heap.objs.size) { s with heap := h', toks := tk }) : wpAny (model prog w) A (call (.type "set") [.ref l]) Q E s := by
  obtain ⟨c, tl, hmro⟩ := F.called_set.mro
  have hmade := F.called_set.made
  have hsub := F.called_set.sub
  refine wpAny_call (codeAny_of_tree ?_)
  show wpAny _ _ (callAny (.type "set") _) _ _ _
  refine wpAny_pure ⟨Code.quiet_builtin _ (by decide +kernel), codeAny_builtin F.entry_type_call ?_⟩
  rw [Around.under_plain (weight_type_call_type "set" [.ref l] []) rfl]
  have h1 := F.called_set.notType
  have h2 := F.called_set.canCreate
  have hct := F.typeCall_set_1 (.ref l)
  repeat (any_goals (first | assumption | wp_step))
  refine codeAny_mono (code_set_led1 (.ref l) (E := E) (Q₁ := fun obj s₁ => obj = .ref s.heap.objs.size ∧ s₁ = { s with heap := s.heap.push (setO w) }) ⟨rfl, rfl⟩) fun r s₁ hr => ?_
  cases r with
  | error e => exact hr
  | ok fl =>
    cases fl with
    | ret obj =>
      obtain ⟨rfl, rfl⟩ := hr
      have hS : (s.heap.push (setO w)).get? s.heap.objs.size = some (setO w) := Heap.get?_push_size _ rfl
      have hT : Shared.TypeIs { s with heap := s.heap.push (setO w) } (.ref s.heap.objs.size) "set" := ⟨_, hS, rfl⟩
      have hli := F.called_set.init.lookup
      have hbi := F.called_set.init.bind (.ref s.heap.objs.size)
      repeat (any_goals (first | assumption | wp_step))
      refine codeAny_mono (codeAny_call_builtin (R := wants (fun r s₂ => r = .none ∧ ∃ h' tk, s₂ = { s with heap := h', toks := tk } ∧ C items.size h' ∧ (∀ b o, s.heap.get? b = some o → h'.get? b = some o)) E) F.called_set.init.plain F.entry_set_init (check_set_init_1 hT ?_)) fun r₂ s₂ hr₂ => ?_
      · obtain ⟨ol, hol, hcl, nl, hdl⟩ := hl
        obtain ⟨ocls, odict, odata, oslots⟩ := ol
        simp only at hcl hdl
        subst hcl; subst hdl
        have hol' : (s.heap.push (setO w)).get? l = some { cls := .type "list", dict := odict, data := .seq items nl, slots := oslots } := Heap.get?_push_of_some _ hol
        have hsls := F.sub_list_set
        have hslf := F.sub_list_frozenset
        have hne : (Value.type "list" == Value.type "dict") = false := by decide
        have hl1 : (s.heap.push (setO w)).IsList l items := ⟨_, hol', rfl, nl, rfl⟩
        unfold Builtin.«set.__init__» noKeywords Builtin.Frozenset.updateFrom
        generalize hPI : pyIter = PI
        wp_walk
        subst hPI
        refine wpAny_pyIter_list hl1 ?_
        refine wpAny_bind (wpAny_runValue ?_)
        have hlS : l < s.heap.objs.size := Heap.lt_size hol
        have hh3 : A.in1.in1.in1.handled = none := by simp [hh]
        have hneI : l ≠ (s.heap.push (setO w)).objs.size := by
          rw [Heap.size_push]; exact Nat.ne_of_lt (Nat.lt_succ_of_lt hlS)
        have hSf : s.heap.objs.size ∉ [(s.heap.push (setO w)).objs.size, l] := by
          rw [Heap.size_push]; simp only [List.mem_cons, List.mem_singleton, List.not_mem_nil, or_false, not_or]
          exact ⟨Nat.ne_of_lt (Nat.lt_succ_self _), Nat.ne_of_gt hlS⟩
        have none_of : ∀ b, s.heap.objs.size ≤ b → s.heap.get? b = none := fun b hb => by
          cases q : s.heap.get? b with
          | none => rfl
          | some o => exact absurd (Nat.lt_of_lt_of_le (Heap.lt_size q) hb) (Nat.lt_irrefl _)
        refine fill_loop (items := items.toList) (C := C) ((Walks.list hh3 _ l hneI items).toS) s.heap.objs.size hSf (fun i v hv => by rw [Array.getElem?_toList]; exact hv) s.heap fi (none_of _ (Nat.le_refl _)) (fun b hb => none_of b (by
            rw [List.mem_singleton.mp hb, Heap.size_push]
            exact Nat.le_succ _)) (by show A.units + 1 + 1 + 1 + 8 < cLine; omega) (items.size - 0) 0 _ (by omega) (Nat.zero_le _)
          ⟨⟨_, Heap.get?_push_size _ rfl, rfl, rfl⟩, (hl1.push _)⟩ (fun b o e => Heap.get?_push_of_some _ (Heap.get?_push_of_some _ e)) ?hS0 ?hR
        case hS0 => exact fi.zero _ (Heap.get?_push_of_some _ hS) fun b o e => Heap.get?_push_of_some _ (Heap.get?_push_of_some _ e)
        case hR =>
          intro s' hm hC hkp
          obtain ⟨h', g2, d', tk', os'⟩ := s'
          have eg : g2 = s.gens := hm.gens
          have ed : d' = s.drawn := hm.drawn
          have eo : os' = s.os := hm.os
          subst eg; subst ed; subst eo
          show wpAny _ _ _ _ _ _
          refine wpAny_pure ?_
          show wpAny _ _ (ret Value.none) _ _ _
          exact wpAny_pure ⟨rfl, h', tk', rfl, hC, hkp⟩
      · cases r₂ with
        | error e => exact hr₂
        | ok fl₂ =>
          cases fl₂ with
          | ret r =>
            obtain ⟨rfl, h', tk, rfl, hC, hk'⟩ := hr₂
            repeat (any_goals (first | assumption | wp_step))
            exact h _ _ hC hk'
          | _ => exact hr₂.elim
    | _ => exact hr.elim
end
end Fl

namespace Fl
open PySem PySem.Spec PyProof.Rows L2
open PySem.W (EachIs)

/-! ### plain: sorted, each once -/
section
variable {β : Type} [DecidableEq β] (le : β → β → Bool)
def insU (n : β) : List β → List β
  | [] => [n]
  | m :: ms => if n = m then m :: ms else if le n m = true then n :: m :: ms else m :: insU n ms
def uSort : List β → List β
  | [] => []
  | n :: ns => insU le n (uSort ns)
structure Ord : Prop where
  refl : ∀ a, le a a = true
  anti : ∀ a b, le a b = true → le b a = true → a = b
  trans : ∀ a b c, le a b = true → le b c = true → le a c = true
  total : ∀ a b, (le a b || le b a) = true
variable {le}
theorem insU_mem (n x : β) : ∀ ms, x ∈ insU le n ms ↔ x = n ∨ x ∈ ms
  | [] => by simp [insU]
  | m :: ms => by
    unfold insU
    split
    · rename_i e; subst e; simp
    · split
      · simp
      · rw [List.mem_cons, insU_mem n x ms, List.mem_cons]
        constructor
        · rintro (h | h | h)
          · exact .inr (.inl h)
          · exact .inl h
          · exact .inr (.inr h)
        · rintro (h | h | h)
          · exact .inr (.inl h)
          · exact .inl h
          · exact .inr (.inr h)
theorem uSort_mem (x : β) : ∀ ns, x ∈ uSort le ns ↔ x ∈ ns
  | [] => by simp [uSort]
  | n :: ns => by rw [uSort, insU_mem, uSort_mem x ns, List.mem_cons]
def Up (le : β → β → Bool) (l : List β) : Prop := l.Pairwise fun a b => le a b = true ∧ a ≠ b
theorem insU_up (O : Ord le) {n : β} : ∀ {ms : List β}, Up le ms → Up le (insU le n ms)
  | [], _ => List.pairwise_singleton _ _
  | m :: ms, h => by
    obtain ⟨h1, h2⟩ := List.pairwise_cons.mp h
    unfold insU
    split
    · exact h
    · rename_i ne
      split
      · rename_i c
        refine List.pairwise_cons.mpr ⟨fun x hx => ?_, h⟩
        rcases List.mem_cons.mp hx with rfl | hx
        · exact ⟨c, ne⟩
        · have := h1 x hx
          refine ⟨O.trans _ _ _ c this.1, fun e => ?_⟩
          subst e
          exact this.2 (O.anti _ _ this.1 c)
      · rename_i c
        have c' : le m n = true := by
          have := O.total n m
          cases q : le n m with
          | true => exact absurd q c
          | false => rw [q] at this; simpa using this
        refine List.pairwise_cons.mpr ⟨fun x hx => ?_, insU_up O h2⟩
        rcases (insU_mem n x ms).mp hx with rfl | hx
        · exact ⟨c', fun e => ne e.symm⟩
        · exact h1 x hx
theorem uSort_up (O : Ord le) : ∀ ns : List β, Up le (uSort le ns)
  | [] => .nil
  | _ :: ns => insU_up O (uSort_up O ns)
theorem up_one (O : Ord le) : ∀ {xs ys : List β}, Up le xs → Up le ys → (∀ z, z ∈ xs ↔ z ∈ ys) → xs = ys
  | [], [], _, _, _ => rfl
  | [], y :: ys, _, _, h => absurd ((h y).mpr (.head _)) (by simp)
  | x :: xs, [], _, _, h => absurd ((h x).mp (.head _)) (by simp)
  | x :: xs, y :: ys, a, b, h => by
    obtain ⟨a1, a2⟩ := List.pairwise_cons.mp a
    obtain ⟨b1, b2⟩ := List.pairwise_cons.mp b
    have e : x = y := by
      rcases List.mem_cons.mp ((h x).mp (.head _)) with q | q
      · exact q
      · rcases List.mem_cons.mp ((h y).mpr (.head _)) with q2 | q2
        · exact q2.symm
        · exact O.anti _ _ (a1 y q2).1 (b1 x q).1
    subst e
    rw [up_one O a2 b2 fun z => ?_]
    constructor
    · intro hz
      rcases List.mem_cons.mp ((h z).mp (.tail _ hz)) with q | q
      · exact absurd q.symm (a1 z hz).2
      · exact q
    · intro hz
      rcases List.mem_cons.mp ((h z).mpr (.tail _ hz)) with q | q
      · exact absurd q.symm (b1 z hz).2
      · exact q
theorem msort_u (O : Ord le) {ks ns : List β} (nd : ks.Nodup) (h : ∀ z, z ∈ ks ↔ z ∈ ns) : ks.mergeSort le = uSort le ns := by
  refine up_one O ?_ (uSort_up O ns) fun z => by rw [(List.mergeSort_perm ks le).mem_iff, h z, uSort_mem]
  have p := List.pairwise_mergeSort (le := le) (fun a b c h1 h2 => O.trans a b c h1 h2) (fun a b => O.total a b) ks
  have q : (ks.mergeSort le).Nodup := (List.mergeSort_perm ks le).nodup_iff.mpr nd
  exact List.Pairwise.and p q
theorem nodup_len {α : Type} [DecidableEq α] : ∀ (l d : List α), l.Nodup → (∀ x ∈ l, x ∈ d) → l.length ≤ d.length
  | [], _, _, _ => Nat.zero_le _
  | x :: l, d, hn, hs => by
    obtain ⟨h1, h2⟩ := List.nodup_cons.mp hn
    have hx : x ∈ d := hs x List.mem_cons_self
    have ih := nodup_len l (d.erase x) h2 fun y hy => (List.mem_erase_of_ne (fun e : y = x => h1 (e ▸ hy))).2 (hs y (List.mem_cons_of_mem _ hy))
    have e := List.length_erase_of_mem hx
    have hp : 0 < d.length := List.length_pos_of_mem hx
    rw [List.length_cons]
    omega
end
theorem perm_lift {α β : Type} {f : α → β} : ∀ {l m : List β}, l.Perm m → ∀ kv : List α, m = kv.map f → ∃ kv1 : List α, kv1.Perm kv ∧ l = kv1.map f := by
  intro l m h
  induction h with
  | nil => intro kv e; exact ⟨[], by
      have : kv = [] := by simpa using e.symm
      rw [this], rfl⟩
  | cons x _ ih =>
    intro kv e
    cases kv with
    | nil => simp at e
    | cons a kv =>
      simp only [List.map_cons, List.cons.injEq] at e
      obtain ⟨k1, p, q⟩ := ih kv e.2
      exact ⟨a :: k1, p.cons a, by rw [List.map_cons, ← q, e.1]⟩
  | swap x y t =>
    intro kv e
    match kv, e with
    | a :: b :: kv, e =>
      simp only [List.map_cons, List.cons.injEq] at e
      exact ⟨b :: a :: kv, .swap a b kv, by rw [List.map_cons, List.map_cons, ← e.2.2, e.1, e.2.1]⟩
  | trans _ _ ih1 ih2 =>
    intro kv e
    obtain ⟨k2, p2, q2⟩ := ih2 kv e
    obtain ⟨k1, p1, q1⟩ := ih1 k2 q2
    exact ⟨k1, p1.trans p2, q1⟩

/-! ### sets of ints, of texts: by the scan -/
section
variable {prog : Program} {w : World} {A : Around} {E : Value → Shared → Prop} {s : Shared} {K : Type} [DecidableEq K] {knd : KeyKind prog w K}
structure SetG (knd : KeyKind prog w K) (h : Heap) (a : Addr) (kv : List (K × Value)) : Prop where
  ex : ∃ o es ep t, h.get? a = some o ∧ o.ExactSet ∧ o.data = .set es ep t ∧ es.toList.Perm (kv.map fun p => (knd.hash p.1, p.2)) ∧ t.fits es.size = true ∧ Ris t.place.toList ∧ (w.params.followText "set-order" = true ∨ t.led = true)
  el : ∀ p ∈ kv, knd.is p.1 p.2 = true ∧ p.2.scannable = true
  nd : (kv.map (·.1)).Nodup
  bd : kv.length < scanBound
theorem SetG.keep {h h' : Heap} {a : Addr} {kv : List (K × Value)} (R : SetG knd h a kv) (k : ∀ o, h.get? a = some o → h'.get? a = some o) : SetG knd h' a kv := by
  obtain ⟨⟨o, es, ep, t, ho, r⟩, a1, a2, a3⟩ := R
  exact ⟨⟨o, es, ep, t, k o ho, r⟩, a1, a2, a3⟩
theorem elems_g {es : List (Int × Value)} {kv : List (K × Value)} (p : es.Perm (kv.map fun p => (knd.hash p.1, p.2))) (el : ∀ p ∈ kv, knd.is p.1 p.2 = true ∧ p.2.scannable = true) : ElemsOf knd es := fun e he => by
  obtain ⟨q, hq, rfl⟩ := List.mem_map.mp (p.mem_iff.mp he)
  exact ⟨⟨q.1, (el q hq).1, rfl⟩, (el q hq).2⟩
theorem SetG.tail {g : Bool → Sem Unit} (hg : ∀ (b : Bool) (s₁ : Shared) (Q' : Unit → Shared → Prop), Q' () s₁ → wpAny (model prog w) A (g b) Q' E s₁) {a : Addr} {o : Obj} {es : Array (Int × Value)} {ep : Nat} {t : SetTable}
    (ho : s.heap.get? a = some o) (hex : o.ExactSet) (hd : o.data = .set es ep t) {es1 : Array (Int × Value)} {t2 : SetTable} {kv : List (K × Value)} (p1 : es1.toList.Perm (kv.map fun p => (knd.hash p.1, p.2)))
    (el : ∀ p ∈ kv, knd.is p.1 p.2 = true ∧ p.2.scannable = true) (nd : (kv.map (·.1)).Nodup) (bd : kv.length < scanBound) (hf : t2.fits es1.size = true) (hr : Ris t2.place.toList) (hl : w.params.followText "set-order" = true ∨ t2.led = true) {wd : Bool} {R : Option Bool → Shared → Prop}
    (hR : ∀ h', Heap.SameBut a s.heap h' → SetG knd h' a kv → R (some true) { s with heap := h' }) :
    wpAny (model prog w) A (do
        storeSet a es1 t2
        if (!wd && t2.tooFull) = true then do
            g (relayAll t2 es1 (SetTable.grown es1.size)).2.2
            storeSet a (relayAll t2 es1 (SetTable.grown es1.size)).1 (relayAll t2 es1 (SetTable.grown es1.size)).2.1
            pure (some true)
          else pure (some true)) R E s := by
  have z1 : es1.size = kv.length := by rw [← Array.length_toList, p1.length_eq, List.length_map]
  have b1 : es1.size < scanBound := by rw [z1]; exact bd
  refine wpAny_bind (wpAny_storeSet_of ho hd ?_ (fits_of_scanBound b1))
  have ho1 := store_at (es' := es1) (t' := t2) ho hd
  have sb1 := Heap.SameBut.update s.heap a (Obj.putSet es1 t2)
  split
  · have pm := relayAll_perm t2 es1 (SetTable.grown es1.size)
    have f3 := relayAll_fits t2 es1 (SetTable.grown es1.size)
    have r3 := relayAll_ris t2 es1 (SetTable.grown es1.size)
    have l3 := relayAll_led t2 es1 (SetTable.grown es1.size)
    generalize relayAll t2 es1 (SetTable.grown es1.size) = Z at pm f3 r3 l3 ⊢
    obtain ⟨es2, t3, gave⟩ := Z
    dsimp only at pm f3 r3 l3 ⊢
    have z2 : es2.size = es1.size := by rw [← Array.length_toList, pm.length_eq, Array.length_toList]
    refine wpAny_bind (hg _ _ _ ?_)
    refine wpAny_bind (wpAny_storeSet_of ho1 rfl ?_ (fits_of_scanBound (by rw [z2]; exact b1)))
    have ho2 := store_at (es' := es2) (t' := t3) ho1 rfl
    exact wpAny_pure (hR _ (sb1.trans (Heap.SameBut.update _ a _)) ⟨⟨_, es2, _, t3, ho2, hex, rfl, pm.trans p1, f3, r3, hl.imp id fun z => by rw [l3]; exact z⟩, el, nd, bd⟩)
  · exact wpAny_pure (hR _ sb1 ⟨⟨_, es1, _, t2, ho1, hex, rfl, p1, hf, hr, hl⟩, el, nd, bd⟩)
theorem SetG.add {a : Addr} {kv : List (K × Value)} {k : K} {x : Value} {Q : Bool → Shared → Prop} (R : SetG knd s.heap a kv) (hkey : knd.is k x = true) (hsc : x.scannable = true) (room : kv.length + 1 < scanBound)
    (h1 : k ∈ kv.map (·.1) → Q false s) (h2 : k ∉ kv.map (·.1) → ∀ h', Heap.SameBut a s.heap h' → SetG knd h' a ((k, x) :: kv) → Q true { s with heap := h' }) : wpAny (model prog w) A (setAddHashed a x (knd.hash k)) Q E s := by
  obtain ⟨⟨o, es, ep, t, ho, hex, hd, p, hf, hr, hl⟩, el, nd, bd⟩ := R
  have hel := elems_g p el
  have hz : es.size = kv.length := by rw [← Array.length_toList, p.length_eq, List.length_map]
  have hmem : k ∈ kv.map (·.1) ↔ ∃ e ∈ es.toList, knd.is k e.2 = true := by
    constructor
    · intro hk
      obtain ⟨q, hq, rfl⟩ := List.mem_map.mp hk
      exact ⟨_, p.mem_iff.mpr (List.mem_map.mpr ⟨q, hq, rfl⟩), (el q hq).1⟩
    · rintro ⟨e, he, hk⟩
      obtain ⟨q, hq, rfl⟩ := List.mem_map.mp (p.mem_iff.mp he)
      exact List.mem_map.mpr ⟨q, hq, knd.inj _ _ _ (el q hq).1 hk⟩
  unfold setAddHashed setAddHashedIn
  refine wpAny_holding (wpAny_bind (wpAny_setState_of ho hd hf ?_))
  dsimp only
  rw [byScan_of hsc (by rw [hz]; exact bd) hel]
  simp only [↓reduceIte]
  unfold setAddByScan
  refine wpAny_bind ?_
  refine wpAny_bind (wpAny_rule ?_)
  refine wpAny_bind (wpAny_setScan_of hkey ho hd hf hel ?_)
  cases hfi : List.findIdx? (fun e => knd.is k e.2) es.toList with
  | some j =>
    dsimp only
    obtain ⟨hj, pj, _⟩ := List.findIdx?_eq_some_iff_getElem.mp hfi
    exact wpAny_pure (wpAny_pure (h1 (hmem.mpr ⟨_, List.getElem_mem hj, pj⟩)))
  | none =>
    dsimp only
    have hnk : k ∉ kv.map (·.1) := fun z => by
      obtain ⟨e, he, q⟩ := hmem.mp z
      have c := List.findIdx?_eq_none_iff.mp hfi e he
      rw [q] at c
      cases c
    have gw : ∀ (b : Bool) {s₁ : Shared} {Q' : Unit → Shared → Prop}, Q' () s₁ → wpAny (model prog w) A (match b with | true => rule "set.scan.the-table-gave-way" | false => pure ()) Q' E s₁ :=
      fun b s₁ Q' q => by cases b <;> first | exact wpAny_pure q | exact wpAny_rule q
    have pm := layNew_perm t es (knd.hash k) x
    have f1 := layNew_fits t es (knd.hash k) x
    have r1 := layNew_ris t es (knd.hash k) x hr
    have l1 := layNew_led t es (knd.hash k) x
    generalize layNew t es (knd.hash k) x = Z at pm f1 r1 l1 ⊢
    obtain ⟨es1, t1, wd, gave⟩ := Z
    dsimp only at pm f1 r1 l1 ⊢
    rw [Array.toList_push] at pm
    have pc : es1.toList.Perm (((k, x) :: kv).map fun p => (knd.hash p.1, p.2)) := by
      rw [List.map_cons]
      exact (pm.trans (List.perm_append_singleton _ _)).trans (p.cons _)
    have el1 : ∀ p ∈ (k, x) :: kv, knd.is p.1 p.2 = true ∧ p.2.scannable = true := fun p hp => by
      rcases List.mem_cons.mp hp with rfl | hp
      · exact ⟨hkey, hsc⟩
      · exact el p hp
    have nd1 : (((k, x) :: kv).map (·.1)).Nodup := by rw [List.map_cons]; exact List.nodup_cons.mpr ⟨hnk, nd⟩
    have led : w.params.followText "set-order" = true ∨ t1.led = true := hl.imp id fun z => by rw [l1]; exact z
    refine wpAny_bind (gw _ ?_)
    split
    · refine wpAny_bind ?_
      rw [hashByValue_scannable 8 hsc]
      refine wpAny_pure ?_
      refine SetG.tail ?_ ho hex hd pc el1 nd1 room ?_ ?_ ?_ ?_
      · intro b s₁ Q' q; cases b <;> first | exact wpAny_pure q | exact wpAny_rule q
      · first | (split <;> first | exact f1 | exact SetTable.fits_plain_off f1) | exact f1
      · first | (split <;> exact r1) | exact r1
      · first | (split <;> exact led) | exact led
      · intro h' sb r; dsimp only; exact wpAny_pure (h2 hnk h' sb r)
    · refine wpAny_bind (wpAny_pure ?_)
      simp only [↓reduceIte]
      refine SetG.tail ?_ ho hex hd pc el1 nd1 room f1 r1 led ?_
      · intro b s₁ Q' q; cases b <;> first | exact wpAny_pure q | exact wpAny_rule q
      · intro h' sb r; dsimp only; exact wpAny_pure (h2 hnk h' sb r)
/-- collect(the set) -/
def Coll (prog : Program) (w : World) (S : Addr) (h : Heap) (P : List Value → Prop) : Prop := ∀ (A : Around) (E : Value → Shared → Prop) (s : Shared) (Q : List Value → Shared → Prop), A.handled = none → s.heap = h →
  (∀ s' out, (∀ b o, s.heap.get? b = some o → s'.heap.get? b = some o) → s.heap.objs.size ≤ s'.heap.objs.size → s'.gens = s.gens → s'.os = s.os → P out → Q out s') → wpAny (model prog w) A (collect (.ref S)) Q E s
theorem SetG.coll {a : Addr} {h : Heap} {kv : List (K × Value)} (R : SetG knd h a kv) : Coll prog w a h fun out => ∃ kv1 : List (K × Value), kv1.Perm kv ∧ out = kv1.map (·.2) := by
  intro A E s Q hh e hQ
  subst e
  obtain ⟨⟨o, es, ep, t, ho, hex, hd, p, hf, hr, hl⟩, el, nd, bd⟩ := R
  have hz : es.size = kv.length := by rw [← Array.length_toList, p.length_eq, List.length_map]
  refine collect_set hh ⟨o, ho, hex.1, hd⟩ hf (by rw [hz]; exact bd) hr hl fun s' out k1 k2 k3 k4 pm => hQ s' out k1 k2 k3 k4 ?_
  have := pm.trans (p.map (·.2))
  rw [List.map_map] at this
  obtain ⟨kv1, q1, q2⟩ := perm_lift this kv rfl
  exact ⟨kv1, q1, q2⟩
/-- the list's items fill it -/
theorem fill_g {S : Addr} {h0 : Heap} (kvs : List (K × Value)) (el : ∀ p ∈ kvs, knd.is p.1 p.2 = true ∧ p.2.scannable = true) (bd : kvs.length + 1 < scanBound) :
    Filling prog w S h0 (kvs.map (·.2)) fun i h => ∃ kv, SetG knd h S kv ∧ kv.length ≤ i ∧ (∀ p ∈ kv, p ∈ kvs.take i) ∧ ∀ p ∈ kvs.take i, p.1 ∈ kv.map (·.1) where
  zero := fun h e _ => ⟨[], ⟨⟨_, #[], 0, _, e, ⟨rfl, rfl, rfl⟩, rfl, .refl _, rfl, List.Pairwise.nil, by
    show _ ∨ (!w.params.followText "set-order") = true
    cases w.params.followText "set-order"
    · exact .inr rfl
    · exact .inl rfl⟩, fun p hp => (by cases hp), List.Pairwise.nil, (by unfold scanBound; simp)⟩, Nat.le_refl _, fun p hp => (by cases hp), fun p hp => (by simp at hp)⟩
  keep := fun i h h' ⟨kv, R, r⟩ k _ => ⟨kv, R.keep k, r⟩
  step := fun A E i v s Q hu hi ⟨kv, R, hlen, r1, r2⟩ _ q => by
    rw [List.getElem?_map] at hi
    obtain ⟨p, hp, rfl⟩ := Option.map_eq_some_iff.mp hi
    have hm := List.mem_of_getElem? hp
    have hlt : i < kvs.length := (List.getElem?_eq_some_iff.mp hp).1
    have tk : kvs.take (i + 1) = kvs.take i ++ [p] := take_next hp
    unfold setAdd
    refine wpAny_holding (wpAny_bind (knd.pyHash (el p hm).1 ?_))
    refine SetG.add (s := { s with toks := s.toks + 1 }) R (el p hm).1 (el p hm).2 (by omega) (fun hk => ?_) fun hk h' sb R' => ?_
    · refine q false s.heap (s.toks + 1) (by omega) (.refl _ _) ⟨kv, R, by omega, fun z hz => ?_, fun z hz => ?_⟩
      · rw [tk]; exact List.mem_append_left _ (r1 z hz)
      · rw [tk] at hz
        rcases List.mem_append.mp hz with h | h
        · exact r2 z h
        · rw [List.mem_singleton.mp h]; exact hk
    · refine q true h' (s.toks + 1) (by omega) sb ⟨_, R', by rw [List.length_cons]; omega, fun z hz => ?_, fun z hz => ?_⟩
      · rw [tk]
        rcases List.mem_cons.mp hz with h | h
        · rw [h]; exact List.mem_append_right _ (.head _)
        · exact List.mem_append_left _ (r1 z h)
      · rw [tk] at hz
        rw [List.map_cons]
        rcases List.mem_append.mp hz with h | h
        · exact .tail _ (r2 z h)
        · rw [List.mem_singleton.mp h]; exact .head _
/-! ### sets of tuples of ints -/
theorem fill_t {S : Addr} {h0 : Heap} (ks : List (Addr × List Int)) (hk : ∀ p ∈ ks, IsT prog w h0 p.2 p.1) (D : List (List Int)) (hD : ∀ p ∈ ks, p.2 ∈ D) (hl : D.length + 1 < 64) :
    Filling prog w S h0 (ks.map fun p => Value.ref p.1) fun i h => ∃ L es ep t, SetTR prog w h S L es ep t ∧ Got ks i L where
  zero := fun h e _ => ⟨[], #[], 0, _, setTR_fresh e, Got.zero ks⟩
  keep := fun i h h' ⟨L, es, ep, t, R, g⟩ k k0 => ⟨L, es, ep, t, R.keep k fun p hp => isT_keep (hk p (List.mem_of_mem_take (g.sub p hp))) k0, g⟩
  step := fun A E i v s Q hu hi ⟨L, es, ep, t, R, g⟩ k0 q => by
    rw [List.getElem?_map] at hi
    obtain ⟨p, hp, rfl⟩ := Option.map_eq_some_iff.mp hi
    have hx : IsT prog w s.heap p.2 p.1 := isT_keep (hk p (List.mem_of_getElem? hp)) k0
    have few : L.length + 1 < 64 := by
      have := nodup_len (L.map (·.2)) D R.nd fun x hx => by
        obtain ⟨z, hz, rfl⟩ := List.mem_map.mp hx
        exact hD z (List.mem_of_mem_take (g.sub z hz))
      rw [List.length_map] at this
      omega
    unfold setAdd
    have hu : A.units < cLine := by omega
    refine wpAny_holding (wpAny_bind (wpAny_pyHash_tuple hu hx ?_))
    refine add_at (s := { s with toks := s.toks + (p.2.length + 1) }) R hx hu few fun b h' L' es' ep' t' hsb hS2 c1 c2 => ?_
    refine q b h' _ (Nat.le_add_right _ _) hsb ⟨L', es', ep', t', hS2, ?_⟩
    rcases Classical.em (p.2 ∈ L.map (·.2)) with c | c
    · rw [c1 c]; exact g.same hp c
    · exact g.more hp (c2 c)
theorem coll_t {a : Addr} {h : Heap} {L : List (Addr × List Int)} {es : Array (Int × Value)} {ep : Nat} {t : SetTable} (R : SetTR prog w h a L es ep t) : Coll prog w a h fun out => ∃ L1 : List (Addr × List Int), L1.Perm L ∧ out = L1.map fun q => Value.ref q.1 := by
  intro A E s Q hh e hQ
  subst e
  obtain ⟨o, ho, hex, hd⟩ := R.ob
  have hsz := R.size
  have hfew := R.few
  refine collect_set hh ⟨o, ho, hex.1, hd⟩ R.fits (by unfold scanBound; omega) R.tab.ris R.led fun s' out k1 k2 k3 k4 pm => hQ s' out k1 k2 k3 k4 ?_
  have hes : es.toList.map (·.2) = L.map fun q => Value.ref q.1 := by
    rw [R.rows]
    unfold rowsOf
    rw [List.map_map] <;> rfl
  rw [hes] at pm
  obtain ⟨L1, q1, q2⟩ := perm_lift pm L rfl
  exact ⟨L1, q1, q2⟩
end
end Fl

namespace Fl
open PySem PySem.Spec PyProof.Rows L2
open PySem.W (EachIs)

def leI (a b : Int) : Bool := decide (a ≤ b)
def leT (a b : List Int) : Bool := decide (a ≤ b)
def leS (a b : Str) : Bool := decide (a.cps.toList ≤ b.cps.toList)
theorem ordI : Ord leI := ⟨fun a => by simp [leI], fun a b h1 h2 => by simp only [leI, decide_eq_true_eq] at h1 h2; omega, fun a b c h1 h2 => by simp only [leI, decide_eq_true_eq] at *; omega, fun a b => by simp only [leI, Bool.or_eq_true, decide_eq_true_eq]; omega⟩
theorem ordT : Ord leT := ⟨fun a => by simpa [leT] using List.le_refl a, fun a b h1 h2 => by simp only [leT, decide_eq_true_eq] at h1 h2; exact List.le_antisymm h1 h2, fun a b c h1 h2 => by simp only [leT, decide_eq_true_eq] at *; exact List.le_trans h1 h2, fun a b => by simp only [leT, Bool.or_eq_true, decide_eq_true_eq]; exact List.le_total a b⟩
theorem str_cps {a b : Str} (h : a.cps.toList = b.cps.toList) : a = b := by
  cases a; cases b
  simpa using Array.toList_inj.mp h
theorem ordS : Ord leS := ⟨fun a => by simpa [leS] using List.le_refl _, fun a b h1 h2 => by simp only [leS, decide_eq_true_eq] at h1 h2; exact str_cps (List.le_antisymm h1 h2), fun a b c h1 h2 => by simp only [leS, decide_eq_true_eq] at *; exact List.le_trans h1 h2, fun a b => by simp only [leS, Bool.or_eq_true, decide_eq_true_eq]; exact List.le_total _ _⟩
theorem dle_I : PySem.W.dataLe false PyData.int = leI := by
  funext p q
  show (!PySem.W.dataLt (.int q) (.int p)) = _
  rw [PySem.W.dataLt_int]
  unfold leI
  by_cases h : q < p
  · have h' : ¬ p ≤ q := by omega
    simp [h, h']
  · have h' : p ≤ q := by omega
    simp [h, h']
theorem dle_S : PySem.W.dataLe false PyData.str = leS := by
  funext p q
  show (!PySem.W.dataLt (.str q) (.str p)) = _
  rw [PySem.W.dataLt_str]
  unfold leS
  by_cases h : q.cps.toList < p.cps.toList
  · have h' : ¬ p.cps.toList ≤ q.cps.toList := fun r => List.not_lt.mpr r h
    simp [h, h']
  · have h' : p.cps.toList ≤ q.cps.toList := List.not_lt.mp h
    simp [h, h']
theorem Coll.mono {prog : Program} {w : World} {S : Addr} {h : Heap} {P P' : List Value → Prop} (c : Coll prog w S h P) (m : ∀ out, P out → P' out) : Coll prog w S h P' := fun A E s Q hh e hQ =>
  c A E s Q hh e fun s' out k1 k2 k3 k4 p => hQ s' out k1 k2 k3 k4 (m out p)
section
variable {X : Cx} {pins : List (Addr × Obj)} {σ : L2.St} {H : Hp} {s : Shared} {β : Type} [DecidableEq β]
theorem ss_end {le : β → β → Bool} (O : Ord le) {enc : β → PyData} (hle : PySem.W.dataLe false enc = le) {S : Addr} {R : Value → β → Prop} {bs : List β} {Q : VK} (I : Inv X pins σ H s) (hc : X.calm = true) (hu : X.A.units + 64 < cLine)
    (co : Coll X.prog X.w S s.heap fun out => ∃ ks, EachIs R out ks ∧ ks.Nodup ∧ (∀ z, z ∈ ks ↔ z ∈ bs) ∧ ks.length ≤ 4096) (er : ∀ h' v b, (∀ c o, s.heap.get? c = some o → h'.get? c = some o) → R v b → Reads h' v (enc b) [])
    (hal : ∀ b b', PySem.W.alike (enc b) (enc b') = true) (hk : ∀ ks : List β, (∀ z, z ∈ ks ↔ z ∈ bs) → PySem.W.Sortable (ks.map enc)) (hd : ∀ b, (enc b).depth ≤ 8)
    (q : ∀ (p : Addr) (out : List Value), EachIs R out (uSort le bs) → ∃ ys, Vals ys out ∧ (H p = none → Q (.ref p) (upd H p (.lst ys)))) :
    wpAny (model X.prog X.w) X.A (call (.builtin "sorted") [.ref S]) (EP X pins σ Q) X.xe s := by
  refine Calls.call_function_entry PyProof.Rows.kind_sorted PyProof.Rows.plain_sorted PyProof.Rows.entry_sorted (PyProof.Rows.args_sorted1 _) ?_
  unfold Builtin.«sorted»
  refine wpAny_bind (m := checkCount "sorted" 1 1 _) (wpAny_pure ?_)
  refine wpAny_bind (co X.A.in1 _ s _ (I.ok.hd hc) rfl fun s' vs k1 k2 k3 k4 ⟨ks, e, nd, hm, hl⟩ => ?_)
  have I1 : Inv X pins σ H s' := I.call' (ch := []) k4 (Un.kept k1) (I.hok.kept k1) (by rw [k3]; exact I.bare) (fun _ z => nomatch z)
  have lv : vs.length ≤ sizeLine := by rw [e.length, sizeLine_eq]; omega
  refine wpAny_bind (wpAny_newList ?_ lv)
  have hoL : (s'.heap.push (seqObj "list" vs.toArray 0)).get? s'.heap.objs.size = some (seqObj "list" vs.toArray 0) := Heap.get?_push_size _ rfl
  refine wpAny_bind (wpAny_holding (PySem.W.list_sort_data (s := { s' with heap := s'.heap.push (seqObj "list" vs.toArray 0) }) (enc := enc) hoL e (e.mono fun v b r => ⟨[], er _ v b (fun c o z => Heap.get?_push_of_some _ (k1 c o z)) r, by simp⟩) (.of hal) (hk ks hm) (by rw [← e.length]; exact lv) (fun b _ => ?_) fun out _ eo => ?_))
  · have := hd b
    show X.A.units + 1 + 1 + (enc b).depth < cLine
    omega
  · rw [hle, msort_u O nd hm] at eo
    obtain ⟨ys, rv, qq⟩ := q s'.heap.objs.size out eo
    obtain ⟨e', he'⟩ := PyProof.Rows.sortedHeap_at (vs := vs) (out := out.toArray) hoL
    have hlen : ys.length ≤ sizeLine := by
      rw [rv.length, eo.length, ← msort_u O nd hm, (List.mergeSort_perm _ _).length_eq, ← e.length]; exact lv
    refine wpAny_pure ⟨_, rfl, .ref s'.heap.objs.size, upd H s'.heap.objs.size (.lst ys), I1.laid (t' := s'.toks) (fun b u e => ?_) (Nat.le_refl _) (show ObjOk X.prog X.w _ _ _ (.lst ys) from ⟨hlen, out, e', rv, he'⟩), rfl, qq (I1.hok.fresh (Nat.le_refl _))⟩
    have hb : b < s'.heap.objs.size := Heap.lt_size e
    rw [PyProof.Rows.sortedHeap_old (Nat.ne_of_lt hb) (by rw [size_push']; exact Nat.lt_succ_of_lt hb)]
    exact Heap.get?_push_of_some _ e
end
theorem each_map {α β : Type} {R : Value → β → Prop} {f : α → Value} {g : α → β} : ∀ {l : List α}, (∀ p ∈ l, R (f p) (g p)) → EachIs R (l.map f) (l.map g)
  | [], _ => .nil
  | a :: l, h => .cons (h a (.head _)) (each_map fun p hp => h p (.tail _ hp))
theorem keyed_vals {β : Type} {f : β → V} {P : β → Value → Prop} (hP : ∀ b u, RelV (f b) u → P b u) : ∀ {ns : List β} {us : List Value}, Vals (ns.map f) us → ∃ kvs : List (β × Value), kvs.map (·.1) = ns ∧ kvs.map (·.2) = us ∧ ∀ p ∈ kvs, P p.1 p.2
  | [], us, h => by
    rw [List.map_nil] at h
    cases h
    exact ⟨[], rfl, rfl, fun p hp => by cases hp⟩
  | n :: ns, us, h => by
    rw [List.map_cons] at h
    cases h with
    | @cons _ u _ us h1 h2 =>
      obtain ⟨kvs, e1, e2, e3⟩ := keyed_vals hP h2
      refine ⟨(n, u) :: kvs, by rw [List.map_cons, e1], by rw [List.map_cons, e2], fun p hp => ?_⟩
      rcases List.mem_cons.mp hp with rfl | hp
      · exact hP _ _ h1
      · exact e3 p hp
theorem keyed_refs {Φ : V → List Int → Prop} (hΦ : ∀ x ns, Φ x ns → ∃ b, x = V.ref b) : ∀ {xs : List V} {us : List Value} {nss : List (List Int)}, Vals xs us → Paired Φ xs nss → ∃ ks : List (Addr × List Int), ks.map (·.2) = nss ∧ us = (ks.map fun p => Value.ref p.1) ∧ ∀ p ∈ ks, Φ (.ref p.1) p.2
  | _, _, _, .nil, h => by cases h; exact ⟨[], rfl, rfl, fun p hp => by cases hp⟩
  | _, _, _, .cons h1 h2, h => by
    cases h with
    | cons g1 g2 =>
      obtain ⟨ks, e1, e2, e3⟩ := keyed_refs hΦ h2 g2
      obtain ⟨b, rfl⟩ := hΦ _ _ g1
      cases h1
      refine ⟨(b, _) :: ks, by rw [List.map_cons, e1], by rw [List.map_cons, e2], fun p hp => ?_⟩
      rcases List.mem_cons.mp hp with rfl | hp
      · exact g1
      · exact e3 p hp
theorem set_of_list' {prog : Program} {w : World} {A : Around} {E : Value → Shared → Prop} {s : Shared} {l : Addr} {its : List Value} {C : Nat → Heap → Prop} {Q : Value → Shared → Prop} (hh : A.handled = none) (hl : s.heap.IsList l its.toArray) (fi : Filling prog w s.heap.objs.size s.heap its C) (hu : A.units + 20 < cLine)
    (h : ∀ h' tk, C its.length h' → (∀ b o, s.heap.get? b = some o → h'.get? b = some o) → Q (.ref s.heap.objs.size) { s with heap := h', toks := tk }) : wpAny (model prog w) A (call (.type "set") [.ref l]) Q E s :=
  set_of_list (items := its.toArray) (C := C) hh hl fi hu fun h' tk hC => h h' tk (by simpa using hC)
def rSS (K : PySem.W.Frag) : List V → Hp → VK → Prop := fun vs H Q => ∃ (a : Addr) (xs : List V), vs = [V.ref a] ∧ SqL K H a xs ∧ xs.length ≤ 4000 ∧
  ((∃ ns : List Int, xs = ns.map V.int ∧ ∀ p, H p = none → Q (.ref p) (upd H p (.lst ((uSort leI ns).map V.int))))
  ∨ (∃ zs : List Str, xs = zs.map V.str ∧ ∀ p, H p = none → Q (.ref p) (upd H p (.lst ((uSort leS zs).map V.str))))
  ∨ (∃ (nss : List (List Int)) (Φ : V → List Int → Prop), Paired Φ xs nss ∧ (∀ x ns, Φ x ns → ∃ b, x = .ref b ∧ SqT K H b (ns.map V.int)) ∧ (∀ ns ∈ nss, ns ≠ []) ∧ (uSort leT nss).length ≤ 60 ∧
    ∀ p ys, H p = none → Paired Φ ys (uSort leT nss) → Q (.ref p) (upd H p (.lst ys))))
section
variable {X : Cx} {pins : List (Addr × Obj)} {σ : L2.St} {H : Hp} {s : Shared}
theorem vals_each {f : Int → V} : ∀ {out : List Value} {ns : List Int}, EachIs (fun v k => RelV (.int k) v) out ns → Vals (ns.map V.int) out
  | _, _, .nil => .nil
  | _, _, .cons h t => .cons h (vals_each (f := f) t)
theorem isStr_self {P : Program} {w : World} (k : Str) (u : Tok) : (strKind P w).is k (.str k u) = true := by
  show Value.isStrOf k (.str k u) = true
  simp [Value.isStrOf]
theorem vals_eachS : ∀ {out : List Value} {ns : List Str}, EachIs (fun v k => RelV (.str k) v) out ns → Vals (ns.map V.str) out
  | _, _, .nil => .nil
  | _, _, .cons h t => .cons h (vals_eachS t)
theorem call_ss {vs : List V} {us : List Value} {Q : VK} (I : Inv X pins σ H s) (hc : X.calm = true) (hu : X.A.units + 64 < cLine) (r : Vals vs us) (h : rSS X.K vs H Q) :
    wpAny (model X.prog X.w) X.A (call (.type "set") us) (fun v s1 => wpAny (model X.prog X.w) X.A (call (.builtin "sorted") [v]) (EP X pins σ Q) X.xe s1) X.xe s := by
  obtain ⟨a, xs, rfl, hs, hl, h⟩ := h
  rw [Vals.ref1 r]
  obtain ⟨its, rv, hli, hz⟩ := I.list hs
  have hsz : its.length = xs.length := rv.length.symm
  rcases h with ⟨ns, rfl, q⟩ | ⟨zs, rfl, q⟩ | ⟨nss, Φ, hp, ht, h0, hU, q⟩
  · obtain ⟨kvs, e1, e2, e3⟩ := keyed_vals (P := fun k u => RelV (.int k) u) (fun _ _ h => h) rv
    have hkl : kvs.length = ns.length := by rw [← e1, List.length_map]
    rw [List.length_map] at hl hsz
    have F := fill_g (prog := X.prog) (w := X.w) (knd := intKind X.prog X.w) (S := s.heap.objs.size) (h0 := s.heap) kvs (fun p hp => by
      obtain ⟨t, et⟩ := e3 p hp
      rw [et]
      exact ⟨intKind_is _ _ _ _, rfl⟩) (by unfold scanBound; omega)
    rw [e2] at F
    refine set_of_list' (I.ok.hd hc) hli.isList F (by omega) fun h' tk ⟨kv, R, _, r1, r2⟩ kp => ?_
    rw [hsz, ← hkl, List.take_length] at r1 r2
    have co : Coll X.prog X.w s.heap.objs.size h' fun out => ∃ ks, EachIs (fun v k => RelV (.int k) v) out ks ∧ ks.Nodup ∧ (∀ z, z ∈ ks ↔ z ∈ ns) ∧ ks.length ≤ 4096 := by
      refine R.coll.mono fun out ⟨kv1, p1, e⟩ => ⟨kv1.map (·.1), ?_, ?_, ?_, ?_⟩
      · rw [e]; exact each_map fun p hp => e3 p (r1 p (p1.mem_iff.mp hp))
      · exact (p1.map (·.1)).nodup_iff.mpr R.nd
      · intro z
        rw [(p1.map (·.1)).mem_iff, ← e1]
        constructor
        · intro hz
          obtain ⟨p, hp, rfl⟩ := List.mem_map.mp hz
          exact List.mem_map.mpr ⟨p, r1 p hp, rfl⟩
        · intro hz
          obtain ⟨p, hp, rfl⟩ := List.mem_map.mp hz
          exact r2 p hp
      · rw [List.length_map, p1.length_eq]
        have := R.bd
        unfold scanBound at this
        omega
    exact ss_end (R := fun v k => RelV (.int k) v) ordI dle_I (I.kept (t' := tk) kp) hc hu co (fun _ v b _ ⟨t, e⟩ => by rw [e]; exact .int _ _) (fun b b' => by simp [PySem.W.alike]) (fun ks _ => .others fun b => ⟨fun e => (by cases e), fun xs e => (by cases e)⟩) (fun b => by simp [PyData.depth]) fun p out eo => ⟨_, vals_each (f := V.int) eo, fun hn => q p hn⟩
  · obtain ⟨kvs, e1, e2, e3⟩ := keyed_vals (P := fun k u => RelV (.str k) u) (fun _ _ h => h) rv
    have hkl : kvs.length = zs.length := by rw [← e1, List.length_map]
    rw [List.length_map] at hl hsz
    have F := fill_g (prog := X.prog) (w := X.w) (knd := strKind X.prog X.w) (S := s.heap.objs.size) (h0 := s.heap) kvs (fun p hp => by
      obtain ⟨t, et⟩ := e3 p hp
      rw [et]
      exact ⟨isStr_self _ _, rfl⟩) (by unfold scanBound; omega)
    rw [e2] at F
    refine set_of_list' (I.ok.hd hc) hli.isList F (by omega) fun h' tk ⟨kv, R, _, r1, r2⟩ kp => ?_
    rw [hsz, ← hkl, List.take_length] at r1 r2
    have co : Coll X.prog X.w s.heap.objs.size h' fun out => ∃ ks, EachIs (fun v k => RelV (.str k) v) out ks ∧ ks.Nodup ∧ (∀ z, z ∈ ks ↔ z ∈ zs) ∧ ks.length ≤ 4096 := by
      refine R.coll.mono fun out ⟨kv1, p1, e⟩ => ⟨kv1.map (·.1), ?_, ?_, ?_, ?_⟩
      · rw [e]; exact each_map fun p hp => e3 p (r1 p (p1.mem_iff.mp hp))
      · exact (p1.map (·.1)).nodup_iff.mpr R.nd
      · intro z
        rw [(p1.map (·.1)).mem_iff, ← e1]
        constructor
        · intro hz
          obtain ⟨p, hp, rfl⟩ := List.mem_map.mp hz
          exact List.mem_map.mpr ⟨p, r1 p hp, rfl⟩
        · intro hz
          obtain ⟨p, hp, rfl⟩ := List.mem_map.mp hz
          exact r2 p hp
      · rw [List.length_map, p1.length_eq]
        have := R.bd
        unfold scanBound at this
        omega
    exact ss_end (R := fun v k => RelV (.str k) v) ordS dle_S (I.kept (t' := tk) kp) hc hu co (fun _ v b _ ⟨t, e⟩ => by rw [e]; exact .str _ _) (fun b b' => by simp [PySem.W.alike]) (fun ks _ => .others fun b => ⟨fun e => (by cases e), fun xs e => (by cases e)⟩) (fun b => by simp [PyData.depth]) fun p out eo => ⟨_, vals_eachS eo, fun hn => q p hn⟩
  · obtain ⟨ks, e1, e2, e3⟩ := keyed_refs (fun x ns h => by obtain ⟨b, e, _⟩ := ht x ns h; exact ⟨b, e⟩) rv hp
    have hkl : ks.length = nss.length := by rw [← e1, List.length_map]
    have hxl : xs.length = ks.length := by rw [paired_len hp, hkl]
    have sq : ∀ p ∈ ks, SqT X.K H p.1 (p.2.map V.int) := fun p hp => by
      obtain ⟨b, e, hb⟩ := ht _ _ (e3 p hp)
      cases e
      exact hb
    have F := fill_t (prog := X.prog) (w := X.w) (S := s.heap.objs.size) (h0 := s.heap) ks (fun p hp => I.isT (sq p hp)) (uSort leT nss) (fun p hp => by rw [uSort_mem, ← e1]; exact List.mem_map.mpr ⟨p, hp, rfl⟩) (by omega)
    rw [← e2] at F
    refine set_of_list' (I.ok.hd hc) hli.isList F (by omega) fun h' tk ⟨L, es, ep, t, R, g⟩ kp => ?_
    rw [hsz, hxl] at g
    have r1 : ∀ p ∈ L, p ∈ ks := fun p hp => List.mem_of_mem_take (g.sub p hp)
    have r2 : ∀ p ∈ ks, p.2 ∈ L.map (·.2) := fun p hp => g.all p (by rw [List.take_length]; exact hp)
    have co : Coll X.prog X.w s.heap.objs.size h' fun out => ∃ kk, EachIs (TR Φ) out kk ∧ kk.Nodup ∧ (∀ z, z ∈ kk ↔ z ∈ nss) ∧ kk.length ≤ 4096 := by
      refine (coll_t R).mono fun out ⟨L1, p1, e⟩ => ⟨L1.map (·.2), ?_, ?_, ?_, ?_⟩
      · rw [e]; exact each_map fun p hp => ⟨.ref p.1, rfl, e3 p (r1 p (p1.mem_iff.mp hp))⟩
      · exact (p1.map (·.2)).nodup_iff.mpr R.nd
      · intro z
        rw [(p1.map (·.2)).mem_iff, ← e1]
        constructor
        · intro hz
          obtain ⟨p, hp, rfl⟩ := List.mem_map.mp hz
          exact List.mem_map.mpr ⟨p, r1 p hp, rfl⟩
        · intro hz
          obtain ⟨p, hp, rfl⟩ := List.mem_map.mp hz
          exact r2 p hp
      · rw [List.length_map, p1.length_eq]
        have := R.few
        omega
    refine ss_end (R := TR Φ) ordT (by rw [dataLe_tups]; rfl) (I.kept (t' := tk) kp) hc hu co (fun h2 v b k2 ⟨x, rx, hx⟩ => ?_) (fun b b' => by unfold encI; simp only [PySem.W.alike]; exact PySem.W.alike_ints _ _) (fun kk hm => .inl fun d hd => ?_) (fun b => by unfold encI; simp only [PyData.depth, PySem.W.depth_ints]; omega) fun p out eo => ?_
    · obtain ⟨b0, rfl, hb⟩ := ht x b hx
      cases rx
      exact ((tupAt_of I hb).keep fun c o z => k2 c o (kp c o z)).reads
    · obtain ⟨b, hb, rfl⟩ := List.mem_map.mp hd
      have hb := (hm b).mp hb
      cases b with
      | nil => exact absurd rfl (h0 _ hb)
      | cons x r => exact ⟨_, _, rfl⟩
    · obtain ⟨ys, ry, py⟩ := of_tr eo
      exact ⟨ys, ry, fun hn => q p ys hn py⟩
variable {a : Expr} {ta : TA} {p p2 q pos : Pos}
/-- sorted(set(a)) -/
theorem pe_ss (hc : X.calm = true) (hu : X.A.units + 64 < cLine) (hg : Gl X "sorted") (hm : X.mg "sorted" = none) (hg2 : Gl X "set") (hm2 : X.mg "set" = none) (ha : PA X [a] ta)
    (na : starEach [a] X.env = (false, eval a X.env) :: starEach [] X.env := by rfl) : PE X (.Call (.Name "sorted" p) [.Call (.Name "set" p2) [a] [] q] [] pos) (tCB (rSS X.K) ta) := by
  refine ⟨fun pins s σ H Q I h => ?_⟩
  refine Call_ (ld_blt I hg hm rfl ?_)
  refine PyProof.Rows.callWith_builtin1 (PyProof.Rows.args_cons ?_ rfl) rfl rfl
  refine Call_ (ld_blt I hg2 hm2 PyProof.Rows.boot_set ?_)
  refine PyProof.Rows.callWith_type1 (thn (ha.run q pins s σ H _ I h) fun us s1 ⟨vs, H1, I1, r1, q1⟩ => ?_) na rfl
  exact wpAny_mono (call_ss I1 hc hu r1 q1) (fun v s2 hq => by exact PyProof.Rows.args_nil hq) (fun _ _ h => h)
end
/-! ### .. over data -/
def strOfD : D → Option Str
  | .str z => some z
  | _ => none
def ssI (ds : List D) : Option D := (ds.mapM intOf).map fun ns => .lst ((uSort leI ns).map .int)
def ssS (ds : List D) : Option D := (ds.mapM strOfD).map fun zs => .lst ((uSort leS zs).map .str)
def ssT (ds : List D) : Option D := (ds.mapM tupI).bind fun nss => if okT nss = true ∧ (uSort leT nss).length ≤ 60 then some (.lst ((uSort leT nss).map tupD)) else none
def fSS : List D → Option D
  | [.lst ds] => if ds.length ≤ 4000 then (match ds with
    | .str _ :: _ => ssS ds
    | .tup _ :: _ => ssT ds
    | _ => ssI ds) else none
  | _ => none
section
variable {T : Tb} {B H : Hp}
theorem strs_rp : ∀ {ds : List D} {xs : List V} {zs : List Str}, RpL T B ds xs → ds.mapM strOfD = some zs → xs = zs.map V.str
  | [], xs, zs, h, e => by
    simp only [RpL] at h
    subst h
    simp at e
    subst e; rfl
  | d :: ds, xs, zs, h, e => by
    simp only [RpL] at h
    obtain ⟨x, r, rfl, h1, h2⟩ := h
    cases q : strOfD d with
    | none => simp [List.mapM_cons, q] at e
    | some k =>
      cases q2 : ds.mapM strOfD with
      | none => simp [List.mapM_cons, q, q2] at e
      | some ks =>
        simp [List.mapM_cons, q, q2] at e
        subst e
        cases d <;> simp only [strOfD, reduceCtorEq, Option.some.injEq] at q
        subst q
        rw [List.map_cons, ← strs_rp h2 q2, rh_str (.inl h1 : RpH T B B _ x)]
theorem rpl_strs : ∀ (zs : List Str), RpL T B (zs.map .str) (zs.map V.str)
  | [] => by simp [RpL]
  | z :: zs => by
    rw [List.map_cons, List.map_cons]
    exact .cons (by simp only [Rp]) (rpl_strs zs)
theorem cf_ss : CallDF T (rSS T.K) fSS := by
  intro B H vs ds d Q ex h hf q
  unfold fSS at hf
  split at hf
  · rename_i ds
    obtain ⟨v, rfl, hv⟩ := hl1 h
    obtain ⟨a, xs, rfl, e1, r1⟩ := rh_lst ex hv
    split at hf
    · rename_i hl
      refine ⟨a, xs, rfl, .of e1, by rw [r1.length]; exact hl, ?_⟩
      have caseI : ssI ds = some d → (∃ ns : List Int, xs = ns.map V.int ∧ ∀ p, H p = none → Q (.ref p) (upd H p (.lst ((uSort leI ns).map V.int)))) := fun hf => by
        obtain ⟨ns, hn, rfl⟩ := Option.map_eq_some_iff.mp hf
        exact ⟨ns, ints_of r1 hn, fun p hp => q p _ hp (by simp only [At]; exact ⟨_, rfl, rpl_ints _⟩)⟩
      split at hf
      · obtain ⟨zs, hn, rfl⟩ := Option.map_eq_some_iff.mp hf
        exact .inr (.inl ⟨zs, strs_rp r1 hn, fun p hp => q p _ hp (by simp only [At]; exact ⟨_, rfl, rpl_strs _⟩)⟩)
      · obtain ⟨nss, hn, hf⟩ := Option.bind_eq_some_iff.mp hf
        split at hf
        · rename_i hok
          cases hf
          exact .inr (.inr ⟨nss, _, tups_rp r1 hn, fun x ns ⟨b, z1, z2⟩ => ⟨b, z1, .inl (.inl (ex _ _ z2))⟩, okT_ok hok.1, hok.2, fun p ys hp hy => q p _ hp (by simp only [At]; exact ⟨_, rfl, rp_tups hy⟩)⟩)
        · cases hf
      · exact .inl (caseI hf)
    · cases hf
  · cases hf
end
section
variable {X : Cx} {G : Gs} {a : Expr} {os : List Opd} {p p2 q pos : Pos}
theorem lf_ss (hK : G.T.K = X.K) (hc : X.calm = true) (hu : X.A.units + 64 < cLine) (hg : Gl X "sorted") (hm : X.mg "sorted" = none) (hg2 : Gl X "set") (hm2 : X.mg "set" = none) (ha : PA X [a] (tAO G os))
    (na : starEach [a] X.env = (false, eval a X.env) :: starEach [] X.env := by rfl) : PE X (.Call (.Name "sorted" p) [.Call (.Name "set" p2) [a] [] q] [] pos) (tF G (vB fSS os)) :=
  pe_imp (pe_ss hc hu hg hm hg2 hm2 ha na) fun _ _ _ => by rw [← hK]; exact b_F cf_ss
end
end Fl

namespace Fl
open PySem PySem.Spec PyProof.Rows L2

/-! ## a comprehension in a comprehension -/
def rlb (env : PySem.Env) (p : Str × NameKind) : Str × NameKind := if (p.2 == NameKind.free && env.scope.kind == .function && env.kindOf p.1 == some .cell) = true then (p.1, .cell) else p
theorem rlb_1 (env : PySem.Env) (p : Str × NameKind) : (rlb env p).1 = p.1 := by unfold rlb; split <;> rfl
theorem rlb_2 (env : PySem.Env) (p : Str × NameKind) (h : p.2 = .cell ∨ p.2 = .free) : (rlb env p).2 = .cell ∨ (rlb env p).2 = .free := by
  unfold rlb
  split
  · exact .inl rfl
  · exact h
theorem lookup_rlb {env : PySem.Env} {x : Str} : ∀ {names : List (Str × NameKind)}, names.lookup x = some .cell ∨ names.lookup x = some .free → (names.map (rlb env)).lookup x = some .cell ∨ (names.map (rlb env)).lookup x = some .free
  | [], h => by simp at h
  | p :: r, h => by
    have e : ∀ (q : Str × NameKind) (l : List (Str × NameKind)), List.lookup x (q :: l) = if (x == q.1) = true then some q.2 else List.lookup x l := fun q l => by
      obtain ⟨a, b⟩ := q
      rw [List.lookup_cons]
      cases x == a <;> rfl
    rw [List.map_cons, e, rlb_1]
    rw [e] at h
    by_cases hx : (x == p.1) = true
    · rw [if_pos hx] at h ⊢
      have := rlb_2 env p (h.imp Option.some.inj Option.some.inj)
      exact this.imp (fun q => by rw [q]) (fun q => by rw [q])
    · rw [if_neg hx] at h ⊢
      exact lookup_rlb h
theorem relabel_rlb (sc : Scope) (env : PySem.Env) : (relabel sc env).names = sc.names.map (rlb env) := rfl
def visC (sc : Scope) (x : Str) : Bool := match sc.names.lookup x with
  | some .local => true
  | some .cell => true
  | some .free => true
  | _ => false
theorem visC_ok {sc : Scope} {x : Str} (h : visC sc x = true) : Vis sc x := by
  unfold visC at h
  unfold Vis
  cases q : sc.names.lookup x with
  | none => rw [q] at h; cases h
  | some k => rw [q] at h; cases k <;> first | exact .inl rfl | exact .inr (.inl rfl) | exact .inr (.inr rfl) | cases h
theorem vis_rl {sc : Scope} {env : PySem.Env} {x : Str} (h : Vis sc x) : Vis (relabel sc env) x := by
  rcases h with h | h
  · exact .inl (lookup_relabel_local h)
  · unfold Vis
    rw [relabel_rlb]
    exact .inr (lookup_rlb h)
theorem blkOk_nest {N : List Str} {sc scope : Scope} {env : PySem.Env} {own : List (Str × Nat)} (h : BlkOk N sc scope own) : BlkOk N (relabel sc env) scope own :=
  ⟨h.kind, h.uniq, h.ix, fun y hy e => by rw [relabel_rlb]; exact lookup_rlb (h.free y hy e), h.own⟩
end Fl

namespace Fl
open PySem PySem.Spec PyProof.Rows L2

/-! ## dicts whose keys are nested tuples -/
section
variable {P : Program} {w : World} {T : Tb} {B H : Hp} {h : Heap}
mutual
theorem nk_is (ok : HOk P w H h) (ex : Ex B H) : ∀ (d : D) (v : V) (k : NestedKey) (u : Value), keyN d = some k → Rp T B d v → RelV v u → NestedIs h k u
  | .non, v, k, u, e, r, ru => by
    cases (show some NestedKey.none = some k from e)
    have r : v = .non := by simpa only [Rp] using r
    subst r
    cases (show u = Value.none from ru)
    exact .none
  | .int i, v, k, u, e, r, ru => by
    cases (show some (NestedKey.num i) = some k from e)
    have r : v = .int i := by simpa only [Rp] using r
    subst r
    obtain ⟨t, rfl⟩ := (show ∃ t, u = Value.int i t from ru)
    exact .int i t
  | .str x, v, k, u, e, r, ru => by
    cases (show some (NestedKey.text x) = some k from e)
    have r : v = .str x := by simpa only [Rp] using r
    subst r
    obtain ⟨t, rfl⟩ := (show ∃ t, u = Value.str x t from ru)
    exact .text x t
  | .tup ds, v, k, u, e, r, ru => by
    simp only [keyN] at e
    obtain ⟨ks, e1, rfl⟩ := Option.map_eq_some_iff.mp e
    simp only [Rp] at r
    obtain ⟨a, xs, rfl, hb, rl⟩ := r
    cases (show u = Value.ref a from ru)
    obtain ⟨_, its, rv, o, h1, h2, n, h3⟩ := (show ObjOk P w H h a (.tup xs) from ok a _ (ex _ _ hb))
    exact .tup h1 h2 h3 (by simpa using nk_all ok ex ds xs ks its e1 rl rv)
  | .bl _, _, _, _, e, _, _ => by simp [keyN] at e
  | .lst _, _, _, _, e, _, _ => by simp [keyN] at e
  | .scr _, _, _, _, e, _, _ => by simp [keyN] at e
  | .dct _ _ _, _, _, _, e, _, _ => by simp [keyN] at e
  | .fn _, _, _, _, e, _, _ => by simp [keyN] at e
  | .ins _ _, _, _, _, e, _, _ => by simp [keyN] at e
  | .ptp _, _, _, _, e, _, _ => by simp [keyN] at e
  | .exc _, _, _, _, e, _, _ => by simp [keyN] at e
  | .dcn _ _, _, _, _, e, _, _ => by simp [keyN] at e
theorem nk_all (ok : HOk P w H h) (ex : Ex B H) : ∀ (ds : List D) (vs : List V) (ks : List NestedKey) (us : List Value), keyNs ds = some ks → RpL T B ds vs → Vals vs us → NestedAll h ks us
  | [], vs, ks, us, e, r, ru => by
    cases (show some ([] : List NestedKey) = some ks from e)
    simp only [RpL] at r
    subst r
    cases ru
    exact .nil
  | d :: ds, vs, ks, us, e, r, ru => by
    simp only [keyNs] at e
    simp only [RpL] at r
    obtain ⟨x, xr, rfl, r1, r2⟩ := r
    cases ru with
    | cons q1 q2 =>
      cases e1 : keyN d with
      | none => rw [e1] at e; cases e
      | some k =>
        cases e2 : keyNs ds with
        | none => rw [e1, e2] at e; cases e
        | some kr =>
          rw [e1, e2] at e
          cases e
          exact .cons (nk_is ok ex d x k _ e1 r1 q1) (nk_all ok ex ds xr kr _ e2 r2 q2)
end
/-- b is told to be the tuple k -/
def NkH (H : Hp) (k : NestedKey) (b : Addr) : Prop := ∀ (P : Program) (w : World) (h : Heap), HOk P w H h → (nestedKind P w).is h k b
theorem keyM_rp {d : D} {v : V} {key : NestedKey} (ex : Ex B H) (hk : keyM d = some key) (r : Rp T B d v) : ∃ b, v = .ref b ∧ NkH H key b := by
  cases d <;> simp only [keyM, reduceCtorEq] at hk
  rename_i ds
  cases e : keyNs ds with
  | none => rw [e] at hk; cases hk
  | some ks =>
    rw [e] at hk
    have hk : (if NestedKey.depthAll ks ≤ 7 then some (NestedKey.tup ks) else none) = some key := hk
    split at hk
    · rename_i hd
      cases hk
      have r' := r
      simp only [Rp] at r
      obtain ⟨a, xs, rfl, hb, rl⟩ := r
      refine ⟨a, rfl, fun P w h ok => ⟨nk_is ok ex (.tup ds) (.ref a) (.tup ks) (.ref a) ?_ r' rfl, ?_⟩⟩
      · simp [keyN, e]
      · simp only [NestedKey.depth]; omega
    · cases hk
theorem dn_addr {hs : NestedKey → Int} {p a : Addr} {xs : List (NestedKey × Addr × Value)} (ok : HOk P w H h) (e : H p = some (DnO hs a xs)) : a = p ∧ ∃ o es ep, h.get? p = some o ∧ o.ExactDict ∧ o.data = .dict es ep ∧ es.toList = xs.map fun x => ⟨hs x.1, .ref x.2.1, x.2.2⟩ := by
  obtain ⟨f, _, st⟩ := ok p _ e
  have key : a = p := by
    obtain ⟨G, g1, g2⟩ := restrict h fun b => b == p
    obtain ⟨o, es, ep, g, _⟩ := st h G f fun o q => by rw [g1 p (by simp)]; exact q
    rcases Classical.em (a = p) with c | c
    · exact c
    · rw [g2 a (by simpa using c)] at g; cases g
  subst key
  exact ⟨rfl, f⟩
/-- what stands at p, for the library -/
structure DnH (H : Hp) (hs : NestedKey → Int) (p : Addr) (xs : List (NestedKey × Addr × Value)) : Prop where
  at_ : ∃ a, H p = some (DnO hs a xs) ∧ (a == sysModules) = false
  nd : (xs.map (·.1)).Nodup
  ks : ∀ x ∈ xs, NkH H x.1 x.2.1
theorem DnH.dict {hs : NestedKey → Int} {p : Addr} {xs : List (NestedKey × Addr × Value)} (D : DnH H hs p xs) (ok : HOk P w H h) (hw : hs = NestedKey.hash w) : h.DictOfH (nestedKind P w) p xs := by
  obtain ⟨a, e, _⟩ := D.at_
  obtain ⟨rfl, o, es, ep, h1, h2, h3, h4⟩ := dn_addr ok e
  subst hw
  exact ⟨o, es, ep, h1, h2, h3, h4, fun x hx => D.ks x hx P w h ok, D.nd⟩
theorem rks {ks : List D} {xs : List (NestedKey × Addr × Value)} (ex : Ex B H) : ks.map keyM = xs.map (fun x => some x.1) → RpL T B ks (xs.map fun x => V.ref x.2.1) → ∀ x ∈ xs, NkH H x.1 x.2.1 := by
  induction xs generalizing ks with
  | nil => intro _ _ x hx; cases hx
  | cons y xs ih =>
    intro h1 h2 x hx
    cases ks with
    | nil => simp at h1
    | cons k ks =>
      simp only [List.map_cons, List.cons.injEq] at h1
      simp only [List.map_cons, RpL] at h2
      obtain ⟨v, r, e, r1, r2⟩ := h2
      injection e with e1 e2
      subst e1 e2
      rcases List.mem_cons.mp hx with rfl | hx
      · obtain ⟨b, e, n⟩ := keyM_rp ex h1.1 r1
        cases e
        exact n
      · exact ih h1.2 r2 x hx
theorem DnH.sys {hs : NestedKey → Int} {p : Addr} {xs : List (NestedKey × Addr × Value)} (D : DnH H hs p xs) (ok : HOk P w H h) : (p == sysModules) = false := by
  obtain ⟨a, e, n⟩ := D.at_
  obtain ⟨rfl, _⟩ := dn_addr ok e
  exact n
/-- the dict that d stands for -/
theorem rh_dcn {ks vs : List D} {v : V} (ex : Ex B H) (r : RpH T B H (.dcn ks vs) v) : ∃ p a xs us, v = .ref p ∧ H p = some (DnO T.hs a xs) ∧ (a == sysModules) = false ∧ ks.map keyM = xs.map (fun x => some x.1) ∧ DnH H T.hs p xs ∧ RpL T B ks (xs.map fun x => V.ref x.2.1) ∧ RpL T B vs us ∧ Vals us (xs.map fun x => x.2.2) := by
  rcases r with r | ⟨p, o, rfl, ho, r⟩
  · simp only [Rp] at r
    obtain ⟨p, a, xs, us, rfl, e2, e3, e4, e5, e6, e7, e8⟩ := r
    exact ⟨p, a, xs, us, rfl, ex _ _ e2, e3, e4, ⟨⟨a, ex _ _ e2, e3⟩, e5, rks ex e4 e6⟩, e6, e7, e8⟩
  · simp only [At] at r
    obtain ⟨a, xs, us, rfl, e3, e4, e5, e6, e7, e8⟩ := r
    exact ⟨p, a, xs, us, rfl, ho, e3, e4, ⟨⟨a, ho, e3⟩, e5, rks ex e4 e6⟩, e6, e7, e8⟩
end
section
variable {T : Tb} {B H : Hp} {kd : D} {key : NestedKey}
theorem nfind (hk : keyM kd = some key) : ∀ {xs : List (NestedKey × Addr × Value)} {ks vs : List D} {us : List V}, ks.map keyM = xs.map (fun x => some x.1) → RpL T B vs us → Vals us (xs.map fun x => x.2.2) →
    (∃ d v q, dFind keyM kd ks vs = some d ∧ atKey xs key = some q ∧ Rp T B d v ∧ RelV v q.2) ∨ (dFind keyM kd ks vs = none ∧ atKey xs key = none)
  | [], ks, vs, us, h1, _, _ => by
    have : ks = [] := by simpa using h1
    subst this
    exact .inr ⟨by cases vs <;> rfl, rfl⟩
  | x :: xs, ks, vs, us, h1, h2, h3 => by
    cases ks with
    | nil => simp at h1
    | cons k ks =>
      rw [List.map_cons] at h3
      cases h3 with
      | @cons v u us' _ r1 r3 =>
        cases vs with
        | nil => simp [RpL] at h2
        | cons d ds =>
          simp only [List.map_cons, List.cons.injEq] at h1
          simp only [RpL] at h2
          obtain ⟨y, r, e, q1, q2⟩ := h2
          injection e with e1 e2
          subst e1 e2
          by_cases c : x.1 = key
          · refine .inl ⟨d, _, x.2, ?_, ?_, q1, r1⟩
            · unfold dFind
              rw [if_pos (by rw [h1.1, hk, c])]
            · simp [atKey, c]
          · have n : ¬ keyM k = keyM kd := fun z => c (by rw [h1.1, hk] at z; exact Option.some.inj z)
            have e4 : atKey (x :: xs) key = atKey xs key := by simp [atKey, c]
            unfold dFind
            rw [if_neg n, e4]
            exact nfind hk h1.2 q2 r3
theorem nhas (hk : keyM kd = some key) : ∀ {xs : List (NestedKey × Addr × Value)} {ks : List D}, ks.map keyM = xs.map (fun x => some x.1) → dHas keyM kd ks = (atKey xs key).isSome
  | [], ks, h1 => by
    have : ks = [] := by simpa using h1
    subst this; rfl
  | x :: xs, ks, h1 => by
    cases ks with
    | nil => simp at h1
    | cons k ks =>
      simp only [List.map_cons, List.cons.injEq] at h1
      have ih := nhas hk h1.2
      unfold dHas at ih ⊢
      rw [List.any_cons, ih, h1.1, hk]
      by_cases c : x.1 = key
      · simp [atKey, c]
      · have : ¬ (some x.1 = some key) := fun z => c (Option.some.inj z)
        simp [atKey, c]
theorem nrepl {d : D} {v : V} {u : Value} (hk : keyM kd = some key) (rv : Rp T B d v) (ru : RelV v u) : ∀ {xs : List (NestedKey × Addr × Value)} {ks vs : List D} {us : List V}, ks.map keyM = xs.map (fun x => some x.1) → RpL T B vs us → Vals us (xs.map fun x => x.2.2) →
    ∃ us', RpL T B (dRepl keyM kd d ks vs) us' ∧ Vals us' ((xs.map (PySem.putAt key u)).map fun x => x.2.2)
  | [], ks, vs, us, h1, h2, h3 => by
    have : ks = [] := by simpa using h1
    subst this
    exact ⟨[], by cases vs <;> simp [dRepl, RpL], .nil⟩
  | x :: xs, ks, vs, us, h1, h2, h3 => by
    cases ks with
    | nil => simp at h1
    | cons k ks =>
      rw [List.map_cons] at h3
      cases h3 with
      | @cons v0 u0 us0 _ r1 r3 =>
        cases vs with
        | nil => simp [RpL] at h2
        | cons d0 ds =>
          simp only [List.map_cons, List.cons.injEq] at h1
          simp only [RpL] at h2
          obtain ⟨y, r, e, q1, q2⟩ := h2
          injection e with e1 e2
          subst e1 e2
          obtain ⟨us', i1, i2⟩ := nrepl hk rv ru h1.2 q2 r3
          have c : keyM k = keyM kd ↔ x.1 = key := ⟨fun z => by rw [h1.1, hk] at z; exact Option.some.inj z, fun z => by rw [h1.1, hk, z]⟩
          unfold dRepl
          rw [List.map_cons, List.map_cons]
          by_cases q : x.1 = key
          · rw [if_pos (c.mpr q)]
            refine ⟨v :: us', RpL.cons rv i1, .cons ?_ i2⟩
            unfold PySem.putAt
            rw [if_pos q]
            exact ru
          · rw [if_neg fun z => q (c.mp z)]
            refine ⟨_ :: us', RpL.cons q1 i1, .cons ?_ i2⟩
            unfold PySem.putAt
            rw [if_neg q]
            exact r1
theorem putAt_1 (u : Value) (xs : List (NestedKey × Addr × Value)) : (xs.map (PySem.putAt key u)).map (fun x => some x.1) = xs.map fun x => some x.1 := by
  rw [List.map_map]
  refine List.map_congr_left fun x _ => ?_
  unfold Function.comp PySem.putAt
  split <;> rfl
theorem putAt_2 (u : Value) (xs : List (NestedKey × Addr × Value)) : (xs.map (PySem.putAt key u)).map (fun x => V.ref x.2.1) = xs.map fun x => V.ref x.2.1 := by
  rw [List.map_map]
  refine List.map_congr_left fun x _ => ?_
  unfold Function.comp PySem.putAt
  split <;> rfl
theorem vals_snoc : ∀ {us : List V} {ws : List Value} {v : V} {u : Value}, Vals us ws → RelV v u → Vals (us ++ [v]) (ws ++ [u])
  | _, _, _, _, .nil, r => .cons r .nil
  | _, _, _, _, .cons q t, r => .cons q (vals_snoc t r)
theorem atKey_none {xs : List (NestedKey × Addr × Value)} (h : ¬ (atKey xs key).isSome = true) : key ∉ xs.map (·.1) := fun m => by
  obtain ⟨x, hx, e⟩ := List.mem_map.mp m
  apply h
  unfold atKey
  rw [Option.isSome_map, List.find?_isSome]
  exact ⟨x, hx, by simpa using e⟩
end
def dPutN (d k v : D) : Option D := match d with
  | .dcn ks vs => if (keyM k).isSome = true ∧ ks.length < 1000000 then some (if dHas keyM k ks = true then .dcn ks (dRepl keyM k v ks vs) else .dcn (ks ++ [k]) (vs ++ [v])) else none
  | _ => none
theorem at_putN {T : Tb} {B H : Hp} {d kd dv d' : D} {o : HO} {p : Addr} {y v : V} (ex : Ex B H) (hat : At T B o d) (hp : H p = some o) (hk : Rp T B kd y) (hv : Rp T B dv v) (hf : dPutN d kd dv = some d') :
    ∃ a xs key b, o = DnO T.hs a xs ∧ (a == sysModules) = false ∧ xs.length < 1000000 ∧ y = .ref b ∧ NkH H key b ∧ DnH H T.hs p xs ∧ ∀ u, RelV v u → At T B (DnO T.hs a (storedH xs key b u)) d' := by
  cases d <;> simp only [dPutN, reduceCtorEq] at hf
  rename_i ks vs
  simp only [At] at hat
  obtain ⟨a, xs, us, rfl, e3, e4, e5, e6, e7, e8⟩ := hat
  split at hf
  · rename_i hs
    obtain ⟨key, hkey⟩ := Option.isSome_iff_exists.mp hs.1
    have hl : ks.length = xs.length := by have := congrArg List.length e4; simpa using this
    obtain ⟨b, rfl, nb⟩ := keyM_rp ex hkey hk
    refine ⟨a, xs, key, b, rfl, e3, by omega, rfl, nb, ⟨⟨a, hp, e3⟩, e5, rks ex e4 e6⟩, fun u ru => ?_⟩
    have hh := nhas hkey e4
    cases hf
    unfold storedH
    by_cases c : dHas keyM kd ks = true
    · rw [if_pos c, if_pos (by rw [← hh]; exact c)]
      simp only [At]
      obtain ⟨us', i1, i2⟩ := nrepl hkey hv ru e4 e7 e8
      exact ⟨a, _, us', rfl, e3, by rw [putAt_1]; exact e4, by rw [keys_map_putAt]; exact e5, by rw [putAt_2]; exact e6, i1, i2⟩
    · have c2 : ¬ (atKey xs key).isSome = true := by rw [← hh]; exact c
      rw [if_neg c, if_neg c2]
      simp only [At]
      refine ⟨a, _, us ++ [v], rfl, e3, by rw [List.map_append, List.map_append, e4]; simp [hkey], ?_, by rw [List.map_append]; exact e6.append (.one hk), e7.append (.one hv), by rw [List.map_append]; exact vals_snoc e8 ru⟩
      rw [List.map_append]
      refine List.nodup_append.mpr ⟨e5, List.nodup_cons.mpr ⟨by simp, .nil⟩, fun x hx z hz => ?_⟩
      rintro rfl
      have : x = key := by simpa using hz
      subst this
      exact atKey_none c2 hx
  · cases hf
end Fl

namespace Fl
open PySem PySem.Spec PyProof.Rows L2

theorem dn_ok {P : Program} {w : World} {H : Hp} {h : Heap} {hs : NestedKey → Int} {p : Addr} {xs : List (NestedKey × Addr × Value)} (d : ∃ o es ep, h.get? p = some o ∧ o.ExactDict ∧ o.data = .dict es ep ∧ es.toList = xs.map fun x => ⟨hs x.1, .ref x.2.1, x.2.2⟩) :
    ObjOk P w H h p (DnO hs p xs) := by
  obtain ⟨o, es, ep, h1, h2⟩ := d
  refine ⟨⟨o, es, ep, h1, h2⟩, ⟨o, h1⟩, fun g1 g2 z k => ?_⟩
  obtain ⟨o', es', ep', z1, z2⟩ := z
  exact ⟨o', es', ep', k _ z1, z2⟩
section
variable {X : Cx} {G : Gs} {a b c o : Expr} {oa ob : Opd} {m mk mx : M} {pos pos' apos p2 : Pos}
/-! ### {} -/
theorem pe_dnewN (hs : NestedKey → Int) : PE X (.Dict [] [] pos) (fun _ H Q => ∀ p, H p = none → (p == sysModules) = false → Q (.ref p) (upd H p (DnO hs p []))) := ⟨fun pins s σ H Q I h => by
  have big := I.big
  exact wpAny_Dict_empty ⟨.ref s.heap.objs.size, _, I.laid (a := s.heap.objs.size) (o := DnO hs s.heap.objs.size []) (t' := s.toks) (fun _ _ q => Heap.get?_push_of_some _ q) (Nat.le_refl _)
    (dn_ok ⟨_, #[], 0, Heap.get?_push_size _ rfl, ⟨rfl, rfl, rfl⟩, rfl, rfl⟩), rfl, h _ (I.hok.fresh (Nat.le_refl _)) (beq_eq_false_iff_ne.mpr (Ne.symm (Nat.ne_of_lt big)))⟩⟩
theorem lf_dnewN : PE X (.Dict [] [] pos) (tF G (vC (.dcn [] []))) := pe_imp (pe_dnewN G.T.hs) fun σ H Q h => by
  obtain ⟨F, B, e, rep, post⟩ := h
  intro p hp np
  have z := new_F (o := DnO G.T.hs p []) (d := .dcn [] []) rep hp (by
    simp only [At]
    exact ⟨p, [], [], rfl, np, rfl, .nil, by simp [RpL], by simp [RpL], .nil⟩)
  exact post (.ref p) B _ .rfl z.1 z.2
/-! ### k in d -/
def dGotN (d k : D) : Option (Option D) := match d with
  | .dcn ks vs => if (keyM k).isSome = true then some (dFind keyM k ks vs) else none
  | _ => none
def dNotInN (k d : D) : Option D := (dGotN d k).map fun o => .bl (!o.isSome)
def dInN (k d : D) : Option D := (dGotN d k).map fun o => .bl o.isSome
def NGet (hs : NestedKey → Int) (H : Hp) (p : Addr) (y : V) (r : Option (Addr × Value)) : Prop := ∃ xs key b, DnH H hs p xs ∧ y = .ref b ∧ NkH H key b ∧ r = atKey xs key
def GotN (T : Tb) (B : Hp) : Option D → Option (Addr × Value) → Prop
  | some c, r => ∃ q v, r = some q ∧ Rp T B c v ∧ RelV v q.2
  | none, r => r = none
theorem nget_of {T : Tb} {B H : Hp} {d k : D} {x y : V} {g : Option D} (ex : Ex B H) (h1 : RpH T B H d x) (h2 : RpH T B H k y) (hf : dGotN d k = some g) : ∃ p r, x = .ref p ∧ NGet T.hs H p y r ∧ GotN T B g r := by
  cases d <;> simp only [dGotN, reduceCtorEq] at hf
  rename_i ks vs
  obtain ⟨p, a, xs, us, rfl, e2, e3, e4, dn, e6, e7, e8⟩ := rh_dcn ex h1
  split at hf
  · rename_i hs
    obtain ⟨key, hkey⟩ := Option.isSome_iff_exists.mp hs
    have r2 : Rp T B k y := by
      rcases h2 with h2 | ⟨q, o, rfl, ho, h2⟩
      · exact h2
      · cases k <;> simp only [At] at h2 <;> simp [keyM] at hkey
    obtain ⟨b, rfl, nb⟩ := keyM_rp ex hkey r2
    refine ⟨p, atKey xs key, rfl, ⟨xs, key, b, dn, rfl, nb, rfl⟩, ?_⟩
    cases hf
    rcases nfind hkey e4 e7 e8 with ⟨d, v, q, f1, f2, f3, f4⟩ | ⟨f1, f2⟩
    · rw [f1]; exact ⟨q, v, f2, f3, f4⟩
    · rw [f1]; exact f2
  · cases hf
def rNotInN (hs : NestedKey → Int) : R2 := fun y x H Q => ∃ p r, x = .ref p ∧ NGet hs H p y r ∧ Q (.bl (!r.isSome)) H
def rInN (hs : NestedKey → Int) : R2 := fun y x H Q => ∃ p r, x = .ref p ∧ NGet hs H p y r ∧ Q (.bl r.isSome) H
theorem hu9 {k : Nat} {A : Around} (r : Room k A) : A.units + 9 < cLine := by have := r.un; omega
theorem room9 {P : Program} {w : World} {A : Around} (hu : A.units + 9 < cLine) : (nestedKind P w).room A.in1 := by
  show A.in1.units + 8 < cLine
  rw [Around.in1_units]
  omega
theorem op_notInN (hu : X.A.units + 9 < cLine) {hs : NestedKey → Int} (hw : hs = NestedKey.hash X.w) : OpR X (compareOp .NotIn) (rNotInN hs) := by
  intro pins s σ H y x v u Q I ry rx h
  obtain ⟨p, r, rfl, ⟨xs, key, b, dn, rfl, nb, rfl⟩, q⟩ := h
  cases rx
  cases ry
  refine notIn_keyed (knd := nestedKind X.prog X.w) (kvs := pairsH xs) (room9 hu) (nb _ _ _ I.hok) (dn.sys I.hok) ⟨xs, dn.dict I.hok hw, rfl⟩ ?_
  rw [valueAt_pairsH, Option.isSome_map]
  exact ⟨.bl (!(atKey xs key).isSome), H, I.tok _, rfl, q⟩
theorem op_inN (hu : X.A.units + 9 < cLine) {hs : NestedKey → Int} (hw : hs = NestedKey.hash X.w) : OpR X (compareOp .In) (rInN hs) := by
  intro pins s σ H y x v u Q I ry rx h
  obtain ⟨p, r, rfl, ⟨xs, key, b, dn, rfl, nb, rfl⟩, q⟩ := h
  cases rx
  cases ry
  refine in_keyed (knd := nestedKind X.prog X.w) (kvs := pairsH xs) (room9 hu) (nb _ _ _ I.hok) (dn.sys I.hok) ⟨xs, dn.dict I.hok hw, rfl⟩ ?_
  rw [valueAt_pairsH, Option.isSome_map]
  exact ⟨.bl (atKey xs key).isSome, H, I.tok _, rfl, q⟩
theorem od_notInN {T : Tb} : OpD T (rNotInN T.hs) dNotInN := by
  intro B H x y d1 d2 d Q ex h1 h2 hf q
  obtain ⟨g, hg, rfl⟩ := Option.map_eq_some_iff.mp hf
  obtain ⟨p, r, rfl, n, hr⟩ := nget_of ex h2 h1 hg
  refine ⟨p, r, rfl, n, ?_⟩
  have e : r.isSome = g.isSome := by
    cases g with
    | none => rw [show r = none from hr]; rfl
    | some c => obtain ⟨z, v, rfl, _⟩ := hr; rfl
  rw [e]
  exact fin_q ex q (by simp only [Rp])
theorem od_inN {T : Tb} : OpD T (rInN T.hs) dInN := by
  intro B H x y d1 d2 d Q ex h1 h2 hf q
  obtain ⟨g, hg, rfl⟩ := Option.map_eq_some_iff.mp hf
  obtain ⟨p, r, rfl, n, hr⟩ := nget_of ex h2 h1 hg
  refine ⟨p, r, rfl, n, ?_⟩
  have e : r.isSome = g.isSome := by
    cases g with
    | none => rw [show r = none from hr]; rfl
    | some c => obtain ⟨z, v, rfl, _⟩ := hr; rfl
  rw [e]
  exact fin_q ex q (by simp only [Rp])
/-! ### d.get(k) -/
def tGetN (hs : NestedKey → Int) (td ty : TE) : TE := fun σ H Q => td σ H fun x H1 => ∃ p, x = .ref p ∧ (∃ xs, DnH H1 hs p xs) ∧ ty σ H1 fun y H2 => ∃ r, NGet hs H2 p y r ∧ (r = none → Q .non H2) ∧ ∀ q, r = some q → ∃ v, RelV v q.2 ∧ Q v H2
theorem dn_type {hs : NestedKey → Int} {pins : List (Addr × Obj)} {σ : L2.St} {H : Hp} {s : Shared} {p : Addr} {xs : List (NestedKey × Addr × Value)} (I : Inv X pins σ H s) (dn : DnH H hs p xs) (hw : hs = NestedKey.hash X.w) :
    s.TypeIs (.ref p) "dict" ∧ ∀ q, Value.ref p = .ref q → ∃ ob, s.heap.get? q = some ob ∧ ob.dict = none := by
  have dd := dn.dict I.hok hw
  refine ⟨dd.typeIs, fun q z => ?_⟩
  cases z
  obtain ⟨ob, _, _, k1, k2, _⟩ := dd
  exact ⟨ob, k1, k2.2.1⟩
theorem pe_getN (hu : X.A.units + 9 < cLine) {hs : NestedKey → Int} (hw : hs = NestedKey.hash X.w) {td ty : TE} (ho : PE X o td) (he : PE X b ty) (m : M1 X o "get" apos b pos) : PE X (.Call (.Attribute o "get" apos) [b] [] pos) (tGetN hs td ty) := by
  refine ⟨fun pins s σ H Q I h => ?_⟩
  refine wpAny_Call_method m.base m.few m.line PySem.F.plainAttrs_dict PySem.F.slot_dict_get PySem.F.type_dict_get (thn (ho.run pins s σ H _ I h) fun u s1 k1 => ?_)
  obtain ⟨x, H1, I1, rx, p, rfl, ⟨xs0, dn0⟩, q1⟩ := k1
  cases rx
  obtain ⟨t1, t2⟩ := dn_type I1 dn0 hw
  refine ⟨t1, t2, ?_⟩
  rw [m.trees]
  refine Calls.callWith_builtin rfl (Calls.evalArgs_plain (Calls.spliced_cons (thn (he.run pins s1 σ H1 _ I1 q1) fun iv s2 k2 => Calls.spliced_nil ?_)))
  obtain ⟨y, H2, I2, ry, r, ⟨xs, key, b', dn, rfl, nb, rfl⟩, n1, n2⟩ := k2
  cases ry
  refine get_keyed (knd := nestedKind X.prog X.w) (kvs := pairsH xs) (room9 hu) (nb _ _ _ I2.hok) (dn.sys I2.hok) ⟨xs, dn.dict I2.hok hw, rfl⟩ ?_
  rw [valueAt_pairsH]
  cases e : atKey xs key with
  | none => exact ⟨.non, H2, I2.tok _, rfl, n1 e⟩
  | some q =>
    obtain ⟨v, rv, qq⟩ := n2 q e
    exact ⟨v, H2, I2.tok _, rv, qq⟩
def isDcn : D → Bool
  | .dcn _ _ => true
  | _ => false
def vGetN (o : Opd) (mk : M) : M := fun e => R.bind (evO o e) fun r e1 => match rsO r e1 with
  | none => .bad
  | some d0 => if isDcn d0 = true then R.bind (mk e1) fun k e2 => R.ofO (do let d ← rsO r e2; let g ← dGotN d k; some (g.getD .non)) e2 else .bad
theorem isN_of {T : Tb} {B H : Hp} {d : D} {x : V} (ex : Ex B H) (h : RpH T B H d x) (k : isDcn d = true) : ∃ p, x = .ref p ∧ ∃ xs, DnH H T.hs p xs := by
  cases d <;> simp only [isDcn, Bool.false_eq_true] at k
  obtain ⟨p, a, xs, us, rfl, e2, e3, e4, dn, _⟩ := rh_dcn ex h
  exact ⟨p, rfl, xs, dn⟩
theorem le_getN (hu : X.A.units + 9 < cLine) (hw : G.T.hs = NestedKey.hash X.w) (ho : PE X a (tO G oa)) (hk : PE X b (tE G mk)) (m : M1 X a "get" apos b pos) : PE X (.Call (.Attribute a "get" apos) [b] [] pos) (tE G (vGetN oa mk)) :=
  pe_imp (pe_getN hu hw ho hk m) fun σ H Q h => by
    obtain ⟨F, B, e, rep, post⟩ := h
    refine ⟨F, B, e, rep, Post.weak (Post.bind post) ?_⟩
    rintro x H1 ⟨B1, e1, r, ex1, rep1, rl1, post1⟩
    cases h1 : rsO r e1 with
    | none => rw [h1] at post1; exact post1.elim
    | some d0 =>
      rw [h1] at post1
      by_cases hd : isDcn d0 = true
      · have post1 : Post G F B1 σ (relE G) (if isDcn d0 = true then _ else R.bad) Q := post1
        rw [if_pos hd] at post1
        obtain ⟨p, rfl, xs0, dn0⟩ := isN_of rep1.ex (rsO_ok rl1 .rfl rep1 h1) hd
        refine ⟨p, rfl, ⟨xs0, dn0⟩, F, B1, e1, rep1, Post.weak (Post.bind post1) ?_⟩
        rintro y H2 ⟨B2, e2, k, ex2, rep2, rl2, post2⟩
        cases h2 : rsO r e2 with
        | none => rw [h2] at post2; exact post2.elim
        | some d =>
          rw [h2] at post2
          have post2 : Post G F B2 σ (relE G) (R.ofO (do let g ← dGotN d k; some (g.getD .non)) e2) Q := post2
          cases h3 : dGotN d k with
          | none => rw [h3] at post2; exact post2.elim
          | some g =>
            rw [h3] at post2
            have post2 : Post G F B2 σ (relE G) (.ok (g.getD .non) e2) Q := post2
            obtain ⟨p1, r1, e1', gg, hr⟩ := nget_of rep2.ex (rsO_ok rl1 ex2 rep2 h2) (.inl rl2) h3
            cases e1'
            refine ⟨r1, gg, fun z => ?_, fun q z => ?_⟩
            · cases g with
              | none => exact post2 .non B2 H2 .rfl rep2 (by simp [relE, Rp])
              | some c => obtain ⟨q, v, w1, _⟩ := hr; rw [w1] at z; cases z
            · cases g with
              | none => rw [show r1 = none from hr] at z; cases z
              | some c =>
                obtain ⟨q', v, w1, w2, w3⟩ := hr
                rw [w1] at z
                cases z
                exact ⟨v, w3, post2 v B2 H2 .rfl rep2 w2⟩
      · have post1 : Post G F B1 σ (relE G) (if isDcn d0 = true then _ else R.bad) Q := post1
        rw [if_neg hd] at post1; exact post1.elim
end
/-! ### d[k] = v -/
def tPutN (hs : NestedKey → Int) (td ty tv : TE) : TS := fun D σ H => tv σ H fun v H1 => td σ H1 fun x H2 => ty σ H2 fun y H3 => ∃ p a xs key b, x = .ref p ∧ H3 p = some (DnO hs a xs) ∧ xs.length < 1000000 ∧ DnH H3 hs p xs ∧ y = .ref b ∧ NkH H3 key b ∧
  ∀ u, RelV v u → D.nx σ (upd H3 p (DnO hs a (storedH xs key b u)))
section
variable {X : Cx} {G : Gs} {rel : Rel D V} {o i value : Expr} {td ty tv : TE} {mk mv : M} {pos pos' : Pos}
theorem ps_dputN (hu : X.A.units + 9 < cLine) {hs : NestedKey → Int} (hw : hs = NestedKey.hash X.w) (ho : PE X o td) (hi : PE X i ty) (hv : PE X value tv) (sw : swapsWith value (some (.Subscript o i pos')) pos.line X.env = pure false) :
    PS X (.Assign [.Subscript o i pos'] value pos) (tPutN hs td ty tv) := by
  refine ⟨fun pins s σ H D I h => ?_⟩
  refine wpAny_Assign_Subscript (thn (hv.run pins s σ H _ I h) fun r s1 k1 => ?_) sw
  obtain ⟨v, H1, I1, rv, q1⟩ := k1
  refine thn (ho.run pins s1 σ H1 _ I1 q1) fun u s2 k2 => ?_
  obtain ⟨x, H2, I2, rx, q2⟩ := k2
  refine thn (hi.run pins s2 σ H2 _ I2 q2) fun iv s3 k3 => ?_
  obtain ⟨y, H3, I3, ry, p, a, xs, key, b, rfl, hp, hl, dn, rfl, nb, q3⟩ := k3
  cases rx
  cases ry
  obtain ⟨rfl, _⟩ := dn_addr I3.hok hp
  refine wpAny_setItem_heap (knd := nestedKind X.prog X.w) (hsz := by rw [sizeLine_eq]; omega) (room9 hu) (nb _ _ _ I3.hok) (dn.dict I3.hok hw) fun h' dd' sb => ?_
  obtain ⟨q, es, ep, g1, g2, g3, g4, _, _⟩ := dd'
  subst hw
  exact ⟨σ, _, d_write I3 (by rw [hp]; exact True.intro) sb ⟨q, g1⟩ (dn_ok ⟨q, es, ep, g1, g2, g3, g4⟩), q3 r rv⟩
def sDPutN (i : Nat) (mk mv : M) : S := fun e => R.toS (mv e) fun v e1 => match e1[i]? with
  | some (some _) => R.toS (mk e1) fun k e2 => (match e2[i]? with
    | some (some d) => (match dPutN d k v with
      | some d' => .nx (e2.set i (some d'))
      | none => .bad)
    | _ => .bad)
  | _ => .bad
theorem ls_dputN {i : Nat} {a b v : Expr} (hu : X.A.units + 9 < cLine) (hw : G.T.hs = NestedKey.hash X.w) (hv : PE X a (tVar i)) (ho : G.O i = true) (hb : PE X b (tE G mk)) (hx : PE X v (tE G mv)) (hs : swapsWith v (some (.Subscript a b pos')) pos.line X.env = pure false := by rfl) :
    PS X (.Assign [.Subscript a b pos'] v pos) (tS G rel (sDPutN i mk mv)) := ps_imp (ps_dputN hu hw hv hb hx hs) fun Dn σ H h => by
  obtain ⟨F, B, e, rep, post⟩ := h
  refine ⟨F, B, e, rep, Post.weak (PostS.bind post) ?_⟩
  rintro u H1 ⟨B1, e1, dv, ex1, rep1, rl1, post1⟩
  cases he1 : e1[i]? with
  | none => rw [he1] at post1; exact post1.elim
  | some od =>
    cases od with
    | none => rw [he1] at post1; exact post1.elim
    | some d0 =>
      rw [he1] at post1
      obtain ⟨p, o0, hp, _⟩ := rep1.ow i d0 ho he1
      refine ⟨.ref p, hp, F, B1, e1, rep1, Post.weak (PostS.bind post1) ?_⟩
      rintro y H2 ⟨B2, e2, k, ex2, rep2, rl2, post2⟩
      cases he2 : e2[i]? with
      | none => rw [he2] at post2; exact post2.elim
      | some od2 =>
        cases od2 with
        | none => rw [he2] at post2; exact post2.elim
        | some d =>
          rw [he2] at post2
          have post2 : PostS G F rel B2 (match dPutN d k dv with | some d' => .nx (e2.set i (some d')) | none => .bad) Dn := post2
          cases hf : dPutN d k dv with
          | none => rw [hf] at post2; exact post2.elim
          | some d' =>
            rw [hf] at post2
            obtain ⟨p2, o, hp2, g2, g3, g4, g5⟩ := rep2.ow i d ho he2
            rw [hp] at hp2
            cases hp2
            obtain ⟨a1, xs, key, b, rfl, na, hl, rfl, nb, dn, all⟩ := at_putN rep2.ex g5 g4 rl2 (Rp.mono ex2 _ _ rl1) hf
            exact ⟨p, a1, xs, key, b, rfl, g4, hl, dn, rfl, nb, fun w rw_ => post2 B2 σ _ .rfl (rep2.put ho hp he2 (all w rw_))⟩
end
end Fl

namespace Fl
open PySem PySem.Spec PyProof.Rows L2

/-! ## enumerate of a tuple -/
set_option maxHeartbeats 4000000 in
theorem en_new {v : Value} {o : Obj} {C : Heap → Prop} (B : Begins v o C) : Meets (Builtin.«enumerate.__new__» ⟨[.type "enumerate", v], []⟩) (fun _ R s => C s.heap ∧
    R (.ok (.ret (.ref (s.heap.push o).objs.size))) { s with heap := (s.heap.push o).push { cls := .type "enumerate", data := .fields #[.none, .bool false, .ref s.heap.objs.size, rawInt 0, .none, .none] } }) := .of_wp fun prog w A R s h => by
  obtain ⟨hp, g, d, tk, os⟩ := s
  obtain ⟨h1, h⟩ := h
  have es := sub_enumerate
  have goes : ∀ {A' : Around} {E : Value → Shared → Prop} {Q : Value → Shared → Prop}, Q (.ref hp.objs.size) ⟨hp.push o, g, d, tk, os⟩ → wpAny (model prog w) A' (pyIter v) Q E ⟨hp, g, d, tk, os⟩ := fun q => B.iter prog w _ _ ⟨hp, g, d, tk, os⟩ _ h1 q
  wp_walk using goes
  refine wpAny_stack_any fun st => wpAny_pure ?_
  split
  · rename_i c _ _ _ _ _
    cases (c == Value.type "enumerate") <;> (wp_walk using goes; exact ⟨_, rfl, h⟩)
  · wp_walk using goes
    exact ⟨_, rfl, h⟩
theorem en_call {prog : Program} {w : World} {A : Around} {E : Value → Shared → Prop} {s : Shared} {v : Value} {o : Obj} {C : Heap → Prop} {Q : Value → Shared → Prop} (B : Begins v o C) (h1 : C s.heap)
    (h : ∀ h', IsEnum h' (s.heap.objs.size + 1) s.heap.objs.size 0 .none → h'.get? s.heap.objs.size = some o → (∀ b q, s.heap.get? b = some q → h'.get? b = some q) → Q (.ref (s.heap.objs.size + 1)) { s with heap := h' }) :
    wpAny (model prog w) A (call (.type "enumerate") [v]) Q E s := by
  refine callType_new F.called_enumerate (by decide) (F.typeCall_enumerate_1 _) (F.newCall_enumerate_1 _) (fun obj => F.args_object_init_2 obj _) F.entry_enumerate_new (en_new B) ⟨h1, ?_⟩
  have sz : (s.heap.push o).objs.size = s.heap.objs.size + 1 := Heap.size_push ..
  show _ ∧ _
  rw [sz]
  have en : IsEnum ((s.heap.push o).push { cls := .type "enumerate", data := .fields #[.none, .bool false, .ref s.heap.objs.size, rawInt 0, .none, .none] }) (s.heap.objs.size + 1) s.heap.objs.size 0 .none := by
    have z := Heap.get?_push_size (s.heap.push o) (o := { cls := .type "enumerate", data := .fields #[.none, .bool false, .ref s.heap.objs.size, rawInt 0, .none, .none] }) rfl
    rw [sz] at z
    exact z
  exact ⟨⟨_, en, rfl⟩, h _ en (Heap.get?_push_of_some _ (Heap.get?_push_size _ B.free)) fun b q x => Heap.get?_push_of_some _ (Heap.get?_push_of_some _ x)⟩
/-- the tuple at a, its items in new pairs -/
def ItT (K : PySem.W.Frag) (a : Addr) : It :=
  ⟨fun i H => ∃ (xs : List V) (x : V), SqT K H a xs ∧ xs[i]? = some x, fun i H v H' => ∃ T x, v = .ref T ∧ H T = none ∧ H' = upd H T (.tup [.int (i : Nat), x]) ∧ ∀ xs, SqT K H a xs → xs[i]? = some x, fun i H => ∃ xs : List V, SqT K H a xs ∧ xs.length ≤ i⟩
theorem turn_enT {P : Program} {w : World} {K : PySem.W.Frag} {elts : List Expr} {kk : Nat} {tpos : Pos} (a e it : Addr) :
    Turn P w K (.Tuple elts kk tpos) (ItT K a) [e, it] e (fun i h => (∃ old, IsEnum h e it ((i : Nat) : Int) old) ∧ h.IsTupleIter it a i ∧ e ≠ it) where
  mem := by simp
  obj := fun i h st b hb => by
    obtain ⟨⟨old, he⟩, ⟨o, ho, hc, hd⟩, _⟩ := st
    rcases (by simpa using hb : b = e ∨ b = it) with rfl | rfl
    · exact ⟨_, he, fun v q => nomatch q⟩
    · exact ⟨o, ho, fun v q => by rw [hd] at q; cases q⟩
  keep := fun i h h' st k => by
    obtain ⟨⟨old, he⟩, hi, hne⟩ := st
    exact ⟨⟨old, k e (by simp) _ he⟩, hi.at fun o q => k it (by simp) o q, hne⟩
  item := by
    intro X hP hw hK hc i pins s σ H E I hf st hg
    subst hP hw hK
    obtain ⟨⟨old, he⟩, hit, hne⟩ := st
    obtain ⟨xs, x, hq, hx⟩ := hg
    obtain ⟨its, rv, p, hz⟩ := I.tuple hq
    obtain ⟨u, hu, ru⟩ := rv.get hx
    have le : e < s.heap.objs.size := Heap.lt_size he
    have li : it < s.heap.objs.size := by obtain ⟨_, q, _⟩ := hit; exact Heap.lt_size q
    have ne : a ≠ it := by
      rintro rfl
      obtain ⟨o1, g1, c1, _⟩ := p
      obtain ⟨o2, g2, c2, _⟩ := hit
      rw [g1] at g2
      cases g2
      rw [c1] at c2
      exact absurd (Value.type.inj c2) (by decide)
    have hlt : i < its.toArray.size := by
      have := (List.getElem?_eq_some_iff.mp hu).1
      simpa using this
    have ea : e ∉ [it, a] := fun m => by
      rcases (by simpa using m : e = it ∨ e = a) with q | q
      · exact hne q
      · subst q
        obtain ⟨o1, g1, c1, _⟩ := p
        have he' := g1.symm.trans he
        cases he'
        exact absurd (Value.type.inj c1) (by decide)
    refine wpAny_pyNext_enum_itemD (Draws.tuple (A := X.A.in1) (I.ok.hd hc) it a ne its.toArray) he ⟨hit, p⟩ hlt hne ea fun y h' tk hy ho hs hT hsz hk => ?_
    have ey : y = u := by
      have z : its[i]? = some y := by simpa using hy
      rw [hu] at z
      exact (Option.some.inj z).symm
    subst ey
    refine ⟨_, rfl, wpAny_letOwnedTupleGo_enum (s := { s with heap := h', toks := tk + 1 }) ho fun h'' he' sb => ?_⟩
    have hT2 : h''.get? s.heap.objs.size = some { cls := .type "tuple", data := .seq #[.int i tk, y] } := (sb.2 _ (Nat.ne_of_gt le)).trans hT
    have new : ObjOk X.prog X.w (upd H s.heap.objs.size (.tup [.int (i : Nat), x])) h'' s.heap.objs.size (.tup [.int (i : Nat), x]) :=
      ⟨by show 2 ≤ sizeLine; decide, [.int i tk, y], .cons ⟨_, rfl⟩ (.cons ru .nil), ⟨_, hT2, rfl, _, rfl⟩⟩
    have I1 : Inv X pins σ (upd H s.heap.objs.size (.tup [.int (i : Nat), x])) { s with heap := h'', toks := tk + 1 } :=
      I.turnedNew (ch := [e, it]) (fun b ob hb q => (sb.2 b (fun z => hb (by simp [z]))).trans (hk b ob (fun z => hb (by simp [z])) (fun z => hb (by simp [z])) q)) hf (Nat.le_refl _) new
    refine ⟨.ref s.heap.objs.size, _, I1, rfl, ⟨_, x, rfl, I.hok.fresh (Nat.le_refl _), rfl, fun ys hy => by rw [I.tuple_inj hy hq]; exact hx⟩, ⟨⟨y, ?_⟩, hs.1.at fun o q => (sb.2 it (Ne.symm hne)).trans q, hne⟩, fun b hb => ?_⟩
    · have e1 : ((i + 1 : Nat) : Int) = (i : Int) + 1 := by omega
      rw [e1]
      exact he'
    · have lb : b < s.heap.objs.size := by
        rcases (by simpa using hb : b = e ∨ b = it) with rfl | rfl
        · exact le
        · exact li
      rw [upd_ne (Nat.ne_of_lt lb)]
      exact (hf b hb).1
  done := by
    intro X hP hw hK hc i pins s σ H E I hf st hg
    subst hP hw hK
    obtain ⟨⟨old, he⟩, hit, hne⟩ := st
    obtain ⟨xs, hq, hx⟩ := hg
    obtain ⟨its, rv, p, hz⟩ := I.tuple hq
    obtain ⟨f0, f1, f2, f3, f4, f5⟩ := hf it (by simp)
    have hl := rv.length
    have hT : s.TypeIs (.ref e) "enumerate" := ⟨_, he, rfl⟩
    unfold pyNext
    refine wpAny_bind (wpAny_attempt (wpAny_callSpecial?_slot (name := Str.ofString "__next__") hT F.slot_enumerate_next (wpAny_call_entry F.slot_enumerate_next hT F.entry_enumerate_next ?_ (F.args_enumerate_next_1 _))))
    show wpAny _ _ (field (Value.ref e) 2 >>= _) _ _ _
    refine wpAny_bind (wpAny_field he rfl (x := Value.ref it) rfl ?_)
    refine wpAny_bind (wpAny_nextOf_tuple_end (A := X.A.in1) (I.ok.hd hc) hit p (Array.getElem?_eq_none (by simp; omega)) fun h' x eb hx' => ?_)
    obtain ⟨o, ho, hcc⟩ := hx'
    refine wpAny_bind (wpAny_isInstance (T := "StopIteration") (b := true) ⟨o, ho, hcc⟩ isSubtype_stop ?_)
    exact wpAny_pure ⟨rfl, I.turned (t' := s.toks) (fun b o hb q => eb b o hb q) f0 f1 f3 f4 f5⟩
  self := fun A i s Q E st h => by
    obtain ⟨⟨_, he⟩, _⟩ := st
    exact wpAny_pyIter_enum he h
def iEnT (K : PySem.W.Frag) (ta : TA) : TI := fun σ H R => ta σ H fun vs H1 => ∃ a xs, vs = [.ref a] ∧ SqT K H1 a xs ∧ R (ItT K a) H1
theorem pi_enT {X : Cx} {e : Expr} {ta : TA} {p pos tpos : Pos} {elts : List Expr} {kk : Nat} (hg : Gl X "enumerate") (hm : X.mg "enumerate" = none) (ha : PA X [e] ta) (hs : starEach [e] X.env = [(false, eval e X.env)] := by rfl) :
    PI X (.Tuple elts kk tpos) (.Call (.Name "enumerate" p) [e] [] pos) (iEnT X.K ta) := by
  refine ⟨fun pins s σ H R I h => ?_⟩
  refine Call_ (ld_blt I hg hm boot_enumerate (PyProof.Rows.callWith_type1 (thn (ha.run pos pins s σ H _ I h) fun us s1 k1 => ?_) hs rfl))
  obtain ⟨vs, H1, I1, r1, a, xs, rfl, hq, q⟩ := k1
  cases r1 with
  | cons r rr =>
    cases rr
    cases r
    obtain ⟨its, rv, p', hz⟩ := I1.tuple hq
    refine en_call (begins_tuple a its.toArray) p' fun h' he hit hk => wpAny_pyIter_enum he ?_
    have I2 : Inv X pins σ H1 { s1 with heap := h' } := I1.kept (t' := s1.toks) hk
    refine ⟨s1.heap.objs.size + 1, [s1.heap.objs.size + 1, s1.heap.objs.size], _, _, H1, rfl, I2, turn_enT a (s1.heap.objs.size + 1) s1.heap.objs.size, ⟨⟨.none, he⟩, ⟨_, hit, rfl, rfl⟩, Nat.succ_ne_self _⟩, fun b hb => ?_, q⟩
    have le : s1.heap.objs.size ≤ b := by
      rcases (by simpa using hb : b = s1.heap.objs.size + 1 ∨ b = s1.heap.objs.size) with rfl | rfl
      · exact Nat.le_add_right _ _
      · exact Nat.le_refl _
    exact I1.fpOk le (I1.hok.fresh le)
def vEnT (m : M) : Env → R (List D) := fun e => R.bind (m e) fun d e1 => match d with
  | .tup xs => .ok (enumD 0 xs) e1
  | _ => .bad
section
variable {X : Cx} {G : Gs} {a : Expr} {m : M} {p pos : Pos}
theorem li_enT {elts : List Expr} {kk : Nat} {tpos : Pos} (hm : X.mg "enumerate" = none) (h : PE X a (tE G m)) (hK : G.T.K = X.K) (hg : Gl X "enumerate") (hs : starEach [a] X.env = [(false, eval a X.env)] := by rfl) :
    PI X (.Tuple elts kk tpos) (.Call (.Name "enumerate" p) [a] [] pos) (tI G (vEnT m)) :=
  pi_imp (pi_enT hg hm (pa_cons h pa_nil hs) hs) fun σ H R' hq => by
    obtain ⟨F, B, e, rep, post⟩ := hq
    refine ⟨F, B, e, rep, Post.weak (Post.bind post) ?_⟩
    rintro x H1 ⟨B1, e1, d, ex1, rep1, rl, post1⟩
    cases d with
    | tup ds =>
      simp only [relE, Rp] at rl
      obtain ⟨c, xs, rfl, h1, h2⟩ := rl
      refine ⟨c, xs, rfl, sqt_of rep1.ex h1, post1 (ItT X.K c) B1 H1 .rfl rep1 ⟨fun B => B c = some (.tup xs) ∧ RpL G.T B ds xs, ⟨h1, h2⟩, ?_⟩⟩
      refine ⟨fun B B' ex ⟨p1, p2⟩ => ⟨ex _ _ p1, RpL.mono ex _ _ p2⟩, fun i B H ⟨p1, p2⟩ ex _ hi => ?_, fun i B H x H' d ⟨p1, p2⟩ ex _ hd hy => ?_, fun i B H ⟨p1, p2⟩ ex _ hi => ?_⟩
      · rw [enum_length] at hi
        have hi' : i < xs.length := by rw [p2.length]; exact hi
        exact ⟨xs, xs[i], sqt_of ex p1, List.getElem?_eq_getElem hi'⟩
      · obtain ⟨T', u, rfl, hT, rfl, g1⟩ := hy
        obtain ⟨dx, h1, rfl⟩ := enum_get hd
        obtain ⟨u', q1, q2⟩ := p2.get h1
        have g2 := g1 xs (sqt_of ex p1)
        rw [q1] at g2; cases g2
        rw [Nat.zero_add]
        have z := pair_new (T := G.T) (d1 := .int (i : Nat)) (x := .int (i : Nat)) ex hT (by simp only [Rp]) q2
        exact ⟨_, z.1, z.2⟩
      · rw [enum_length] at hi
        exact ⟨xs, sqt_of ex p1, by rw [p2.length]; exact hi⟩
    | _ => exact post1.elim
end
end Fl

namespace Fl
open PySem PySem.Spec PyProof.Rows L2

/-! ## try: .. except X as n: return e, e told by the class alone -/
def sTryR (i : Nat) (cs : List Nat) (v : Nat → D) (body : S) : S := fun e => match body e with
  | .err c e1 => if cs.contains c = true ∧ i < e1.length then .rt (v c) (e1.set i none) else .bad
  | r => r
/-- what a suite does with the exception of the class c at a: it hands back x -/
def tSuR (i : Nat) (a : Addr) (x : V) : TS := fun D σ H => σ[i]? = some (some (.ref a)) ∧ D.rt x H
section
variable {X : Cx} {G : Gs} {x n : Str} {C : Value} {i : Nat} {body suite : List Stmt} {b₀ : Stmt} {np pos pos' : Pos} {cs : List Nat} {v : Nat → D} {sv : Nat → V} {m : S}
theorem ls_tryR (hs : X.stack = X.env :: X.outer) (hf : X.env.frame = some X.env.locals) (hN : X.N.Nodup) (hi : X.N[i]? = some n) (hln : X.env.kindOf n = some .local) (hc : Names X x C) (tk : Takes X G.W)
    (hex : ∀ c ∈ cs, PySem.W.exmOne X.K (G.xc c) C = some true) (hv : ∀ c ∈ cs, ∀ B, Rp G.T B (v c) (sv c))
    (hb : ∀ (W : WX) (pn : List (Addr × Obj)) (xe : Value → Shared → Prop), Takes (X.tr pn xe) W → PassesOwn (model X.prog X.w) X.A X.env xe → PSs (X.tr pn xe) body (tS ⟨G.T, G.O, W, G.xc⟩ (relE ⟨G.T, G.O, W, G.xc⟩) m))
    (hsu : ∀ c ∈ cs, ∀ (a : Addr) (oe : Obj) (pn : List (Addr × Obj)), Zc (G.xc c) none oe → (∃ vs, oe.data = .fields vs) → PSs (X.suite a ((a, oe) :: pn)) (b₀ :: suite) (tSuR i a (sv c))) :
    PS X (.Try body [.ExceptHandler (some (.Name x np)) (some n) (b₀ :: suite) pos'] [] [] pos) (tS G (relE G) (sTryR i cs v m)) := by
  refine ps_imp (ps_try_as (tb := fun W => tS ⟨G.T, G.O, W, G.xc⟩ (relE ⟨G.T, G.O, W, G.xc⟩) m) (ts := fun a cls d D σ H => ∃ c ∈ cs, cls = G.xc c ∧ d = none ∧ tSuR i a (sv c) D σ H) hs hf hN hi hln hc tk hb fun a oe cls d pn hz hfl => ⟨fun pins s σ H D I h => ?_⟩) fun D σ H h => ?_
  · obtain ⟨c, hm, rfl, rfl, h⟩ := h
    exact (hsu c hm a oe pn hz hfl).run pins s σ H D I h
  · obtain ⟨F, B, e, rep, post⟩ := h
    refine ⟨F, B, e, ⟨rep.ex, rep.fr, rep.b0, rep.nw, rep.sh, rep.ow, rep.ne, rep.pt, rep.len⟩, ?_⟩
    unfold sTryR at post
    cases hm : m e with
    | nx e1 =>
      rw [hm] at post
      exact fun B' σ' H' x r => post B' σ' H' x ⟨r.ex, r.fr, r.b0, r.nw, r.sh, r.ow, r.ne, r.pt, r.len⟩
    | rt d e1 =>
      rw [hm] at post
      exact fun B' σ' H' u x r => post B' σ' H' u x ⟨r.ex, r.fr, r.b0, r.nw, r.sh, r.ow, r.ne, r.pt, r.len⟩
    | bk e1 =>
      rw [hm] at post
      exact fun B' σ' H' x r => post B' σ' H' x ⟨r.ex, r.fr, r.b0, r.nw, r.sh, r.ow, r.ne, r.pt, r.len⟩
    | ct e1 =>
      rw [hm] at post
      exact fun B' σ' H' x r => post B' σ' H' x ⟨r.ex, r.fr, r.b0, r.nw, r.sh, r.ow, r.ne, r.pt, r.len⟩
    | bad => rw [hm] at post; exact post
    | err c e1 =>
      rw [hm] at post
      have post : PostS G F (relE G) B (if cs.contains c = true ∧ i < e1.length then .rt (v c) (e1.set i none) else .bad) D := post
      by_cases k : cs.contains c = true ∧ i < e1.length
      · rw [if_pos k] at post
        have hmem : c ∈ cs := by simpa using k.1
        intro B' σ' H' x r
        have r' : Rep G F B' σ' H' e1 := ⟨r.ex, r.fr, r.b0, r.nw, r.sh, r.ow, r.ne, r.pt, r.len⟩
        refine ⟨true, hex c hmem, fun _ a _ => ⟨c, hmem, rfl, rfl, ?_, ?_⟩, fun z => (by cases z)⟩
        · exact List.getElem?_set_self (by rw [← r'.len]; exact k.2)
        · exact post B' σ' H' (sv c) x (r'.gone i) (hv c hmem B')
      · rw [if_neg k] at post; exact post.elim
end
/-! ### the suite's words -/
/-- a value that leaves the heap alone, the exception in slot i -/
def tK (i : Nat) (a : Addr) (x : V) : TE := fun σ H Q => σ[i]? = some (some (.ref a)) ∧ Q x H
section
variable {X : Cx} {i : Nat} {a D : Addr} {oe : Obj} {pn : List (Addr × Obj)} {n cn : Str} {e1 e2 : Expr} {p p1 p2 p3 pos : Pos} {x y : Str} {j : Nat}
theorem kk_str : PE X (.Constant (.str x) j p) (tK i a (.str x)) := pe_imp pe_str fun σ H Q h => h.2
theorem kk_isi {C' : Addr} {b : Bool} (hC : ExcC X.K D) (hz : Zc (.ref D) none oe) (hf : ∃ vs, oe.data = .fields vs) (hm : X.mg "isinstance" = none) (hi : PE (X.suite a ((a, oe) :: pn)) e1 (tVar i)) (hg : Gl X cn) (hmc : X.mg cn = some (.ref C')) (hk : PySem.W.kitOne X.K (.ref D) (.ref C') = some b)
    (hgi : Gl X "isinstance") (hd : (cn == ("__debug__" : Str)) = false := by decide)
    (hs1 : starEach [e1, .Name cn p2] X.env = (false, eval e1 X.env) :: starEach [.Name cn p2] X.env := by rfl) (hs2 : starEach [.Name cn p2] X.env = (false, eval (.Name cn p2) X.env) :: starEach [] X.env := by rfl) (hpl : (backTo pos (starEach [.Name cn p2] X.env)).any (·.1) = false := by rfl) :
    PE (X.suite a ((a, oe) :: pn)) (.Call (.Name "isinstance" p1) [e1, .Name cn p2] [] pos) (tK i a (.bl b)) :=
  pe_imp (pe_callB (call_isE hC hz hf) hgi hm PyProof.Rows.boot_isinstance (pa_cons hi (pa_cons (pe_glob (X := X.suite a ((a, oe) :: pn)) (v := .ref C') hg hmc rfl hd) pa_nil hs2) hs1) (by decide) (by decide) hs1 hpl) fun σ H Q h => by
    obtain ⟨h1, h2⟩ := h
    exact ⟨.ref a, h1, .ref C', .ref C', b, rfl, fun u hu => hu, hk, h2⟩
theorem kk_int {b : Bool} (he : PE X e1 (tK i a (.bl b))) (hm : X.mg "int" = none) (hg : Gl X "int") (hs : starEach [e1] X.env = (false, eval e1 X.env) :: starEach [] X.env := by rfl) : PE X (.Call (.Name "int" p1) [e1] [] pos) (tK i a (.int (if b then 1 else 0))) :=
  pe_imp (pe_callTy call_int1 hg hm (by rfl) (pa_cons he pa_nil hs) (by decide) (by decide) hs rfl) fun σ H Q h => ⟨h.1, .inr ⟨b, rfl, h.2⟩⟩
theorem kk_mul {k : Int} (h1 : PE X e1 (tK i a (.str x))) (h2 : PE X e2 (tK i a (.int k))) (hl : x.length ≤ 1000) (hk : k ≤ 1000 ∧ -1000 ≤ k) : PE X (.BinOp e1 .Mult e2 pos) (tK i a (.str (repStr x k.toNat))) :=
  pe_imp (pe_op op_mulS h1 h2) fun σ H Q h => ⟨h.1, h.1, x, k, rfl, rfl, hl, hk.1, hk.2, h.2⟩
theorem kk_add (h1 : PE X e1 (tK i a (.str x))) (h2 : PE X e2 (tK i a (.str y))) (hl : x.length + y.length ≤ 1000) : PE X (.BinOp e1 .Add e2 pos) (tK i a (.str (x ++ y))) :=
  pe_imp (pe_op op_add_str h1 h2) fun σ H Q h => ⟨h.1, h.1, x, y, rfl, rfl, by rw [sizeLine_eq]; omega, h.2⟩
theorem kk_ret {v : V} (h : PE X e1 (tK i a v)) : PSs X [.Return (some e1) pos] (tSuR i a v) := pss_imp (pss_one (ps_ret h)) fun D σ H h => ⟨h.1, h.2⟩
end
end Fl

namespace Fl
open PySem PySem.Spec PyProof.Rows L2

/-! ## range(a, b, -1) -/
def rgDn (a b : Int) : List D := (List.range (a - b).toNat).map fun (i : Nat) => D.int (a - (i : Int))
def vRng3 (m m2 m3 : M) : Env → R (List D) := fun e => R.bind (m e) fun d e1 => R.bind (m2 e1) fun d2 e2 => R.bind (m3 e2) fun d3 e3 => match d, d2, d3 with
  | .int a, .int b, .int c => if c = -1 ∧ (a ≤ 100000000 ∧ -100000000 ≤ a) ∧ b ≤ 100000000 ∧ -100000000 ≤ b then .ok (rgDn a b) e3 else .bad
  | _, _, _ => .bad
theorem rgDn_length (a b : Int) : (rgDn a b).length = (a - b).toNat := by unfold rgDn; rw [List.length_map, List.length_range]
theorem rgDn_get {a b : Int} {i : Nat} {d : D} (h : (rgDn a b)[i]? = some d) : d = .int (a - (i : Nat)) := by
  unfold rgDn at h
  rw [List.getElem?_map] at h
  obtain ⟨j, hj, rfl⟩ := Option.map_eq_some_iff.mp h
  obtain ⟨h1, h2⟩ := List.getElem?_eq_some_iff.mp hj
  rw [List.getElem_range] at h2
  rw [h2]
theorem wk_rangeC {T : Tb} {H0 : Hp} (a b : Int) : Wk T H0 (Itc a (-1) (a - b).toNat) (rgDn a b) fun _ => True := by
  refine ⟨fun _ _ _ _ => trivial, fun i B H _ ex _ hi => ?_, fun i B H x H' d _ ex _ hd hy => ?_, fun i B H _ ex _ hi => ?_⟩
  · rw [rgDn_length] at hi; exact hi
  · obtain ⟨rfl, rfl⟩ := hy
    rw [rgDn_get hd]
    refine ⟨B, .rfl ex, ?_⟩
    simp only [Rp]
    congr 1
    omega
  · rw [rgDn_length] at hi; exact hi
section
variable {X : Cx} {G : Gs} {tg a b c : Expr} {m m2 m3 : M} {p pos : Pos}
theorem li_rng3 (hm : X.mg "range" = none) (h : PE X a (tE G m)) (h2 : PE X b (tE G m2)) (h3 : PE X c (tE G m3)) (hg : Gl X "range") (hs : starEach [a, b, c] X.env = (false, eval a X.env) :: starEach [b, c] X.env := by rfl) (hs2 : starEach [b, c] X.env = (false, eval b X.env) :: starEach [c] X.env := by rfl)
    (hs3 : starEach [c] X.env = (false, eval c X.env) :: starEach [] X.env := by rfl) (hpl : (backTo pos (starEach [b, c] X.env)).any (·.1) = false := by rfl) : PI X tg (.Call (.Name "range" p) [a, b, c] [] pos) (tI G (vRng3 m m2 m3)) :=
  pi_imp (pi_range3 hg hm (pa_cons h (pa_cons h2 (pa_cons h3 pa_nil hs3) hs2) hs) hs hpl) fun σ H R' hq => by
    obtain ⟨F, B, e, rep, post⟩ := hq
    refine ⟨F, B, e, rep, Post.weak (Post.bind post) ?_⟩
    rintro x H1 ⟨B1, e1, d, ex1, rep1, rl, post1⟩
    refine ⟨F, B1, e1, rep1, Post.weak (Post.bind post1) ?_⟩
    rintro y H2 ⟨B2, e2, d2, ex2, rep2, rl2, post2⟩
    refine ⟨F, B2, e2, rep2, Post.weak (Post.bind post2) ?_⟩
    rintro z H3 ⟨B3, e3, d3, ex3, rep3, rl3, post3⟩
    cases d with
    | int n =>
      cases d2 with
      | int k =>
        cases d3 with
        | int j =>
          simp only [relE, Rp] at rl rl2 rl3
          subst rl rl2 rl3
          have p3 : Post G F B3 σ (relI G) (if j = -1 ∧ (n ≤ 100000000 ∧ -100000000 ≤ n) ∧ k ≤ 100000000 ∧ -100000000 ≤ k then R.ok (rgDn n k) e3 else .bad) R' := post3
          clear post3
          by_cases hn : j = -1 ∧ (n ≤ 100000000 ∧ -100000000 ≤ n) ∧ k ≤ 100000000 ∧ -100000000 ≤ k
          · rw [if_pos hn] at p3
            refine ⟨n, k, j, (n - k).toNat, rfl, ?_, ?_⟩
            · rw [hn.1]
              exact RgC.neg (by omega) (by omega) (by omega) (by omega)
            · rw [hn.1]
              exact p3 (Itc n (-1) (n - k).toNat) B3 H3 .rfl rep3 ⟨_, trivial, wk_rangeC n k⟩
          · rw [if_neg hn] at p3; exact p3.elim
        | _ => exact post3.elim
      | _ => exact post3.elim
    | _ => exact post3.elim
end
/-! ## defs of scalars that hand back a new list of scalars -/
def scalD : D → Bool
  | .non | .bl _ | .int _ | .str _ => true
  | _ => false
theorem scal_rp {T : Tb} {B B' : Hp} {d : D} {v : V} (h : scalD d = true) (r : Rp T B d v) : Rp T B' d v := by
  cases d <;> simp only [scalD, Bool.false_eq_true] at h <;> simpa only [Rp] using r
theorem scal_rpl {T : Tb} {B B' : Hp} : ∀ {ds : List D} {vs : List V}, ds.all scalD = true → RpL T B ds vs → RpL T B' ds vs
  | [], _, _, r => by simpa only [RpL] using r
  | d :: ds, vs, h, r => by
    simp only [RpL] at r ⊢
    obtain ⟨x, xr, rfl, r1, r2⟩ := r
    rw [List.all_cons, Bool.and_eq_true] at h
    exact ⟨x, xr, rfl, scal_rp h.1 r1, scal_rpl h.2 r2⟩
def runFS (m : S) (pad : Nat) (ds : List D) : FR := if ds.all scalD = true then (match m (ds.map some ++ List.replicate pad none) with
  | .rt (.lst xs) e => if xs.all scalD = true then .ok (.lst xs) (bagOf e) else .bad
  | .err c _ => .err c
  | _ => .bad) else .bad
section
variable {P : Program} {w : World} {K : PySem.W.Frag} {mg : Str → Option Value} {base : Heap} {T : Tb} {xc : Nat → Value}
theorem fn_liftS {x qual : Str} {st : Stmt} {f : Addr} {fd : FuncData} {N ps : List Str} {k n : Nat} {O : Nat → Bool} {m : S} (Fd : Fun K x qual st f fd) (Sc : FnScope N ps (defScope st)) (hn : ps.length = n) (hN : n ≤ N.length) (hO : ∀ i, i < n → O i = false)
    (body : ∀ (cdv : Value) (A : Around) (outer : List PySem.Env) (s : Shared) (H : Hp) (E : XK), Bd (cxOf (L2.CX P w) P w K mg base N qual (defScope st) f cdv A outer s H E) ⟨T, O, fun cls d _ H' => E cls d H', xc⟩ k →
      PSs (cxOf (L2.CX P w) P w K mg base N qual (defScope st) f cdv A outer s H E) (defBody st) (tS ⟨T, O, fun cls d _ H' => E cls d H', xc⟩ (relE ⟨T, O, fun cls d _ H' => E cls d H', xc⟩) m)) :
    FnOk P w K mg base (L2.CX P w) (k + 1) f fd ps (spN T xc n (runFS m (N.length - n))) := by
  refine Fd.okX Sc (fun vs H Q E h => ?_) (fun cdv A outer s H vs Q E hr h => ?_)
  · obtain ⟨B, ds, _, rl, hl, _⟩ := h
    rw [rl.length, hl, hn]
  · obtain ⟨B, ds, ex, rl, hl, h⟩ := h
    refine ⟨_, body cdv A outer s H E ⟨hr, takes_of rfl rfl rfl rfl, passes_of rfl⟩, ?_⟩
    subst hl
    unfold runFS at h
    by_cases hs : ds.all scalD = true
    · rw [if_pos hs] at h
      refine ⟨⟨H, fun _ => none, fun _ => none⟩, fun _ => none, _, rep_start (fun _ _ z => by cases z) (scal_rpl hs rl) hN hO, ?_⟩
      cases hm : m (ds.map some ++ List.replicate (N.length - ds.length) none) with
      | nx e => rw [hm] at h; exact h.elim
      | bk e => rw [hm] at h; exact h.elim
      | ct e => rw [hm] at h; exact h.elim
      | bad => rw [hm] at h; exact h.elim
      | err c e =>
        rw [hm] at h
        exact fun B' σ' H' x r => h B H' (Grow.heap ex r.fr)
      | rt d e =>
        rw [hm] at h
        intro B' σ' H' v x r rp
        cases d with
        | lst xs =>
          have h : match (if xs.all scalD = true then FR.ok (.lst xs) (bagOf e) else .bad) with
            | .ok d _ => ∀ p o B' H', Grow B H B' H' → B' p = none → H p = none → H' p = some o → At T B' o d → Q (.ref p) H'
            | .err c => ∀ B' H', Grow B H B' H' → E (xc c) none H'
            | .bad => False := h
          by_cases hx : xs.all scalD = true
          · rw [if_pos hx] at h
            simp only [relE, Rp] at rp
            obtain ⟨p, ys, rfl, b1, b2⟩ := rp
            have nw : H p = none := by
              rcases r.nw p _ b1 with z | z | ⟨_, z⟩
              · cases z
              · exact z
              · cases z
            have g : Grow B H B H' := Grow.heap ex r.fr
            refine h p (.lst ys) B H' g (ex.none nw) nw (r.ex _ _ b1) ?_
            simp only [At]
            exact ⟨ys, rfl, scal_rpl hx b2⟩
          · rw [if_neg hx] at h; exact h.elim
        | _ => exact h.elim
    · rw [if_neg hs] at h; exact h.elim
end
end Fl

namespace Fl
open PySem PySem.Spec PyProof.Rows L2
open PySem.W (EachIs)

/-! ## sets filled with values of different hashes (no == is ever asked) -/
section
variable {P : Program} {w : World} {A : Around} {E : Value → Shared → Prop} {s : Shared}
/-- the set at a holds L (hash, value), each hash once -/
structure SetN (w : World) (h : Heap) (a : Addr) (L : List (Int × Value)) (t : SetTable) : Prop where
  ob : ∃ o es ep, h.get? a = some o ∧ o.ExactSet ∧ o.data = .set es ep t ∧ es.toList = L
  tab : TabOk t (L.map (·.1))
  nd : (L.map (·.1)).Nodup
  plain : t.plain = true
  led : w.params.followText "set-order" = true ∨ t.led = true
  room : L.length * 5 < t.mask * 3
  few : L.length < 64
theorem SetN.keep {h h' : Heap} {a : Addr} {L : List (Int × Value)} {t : SetTable} (R : SetN w h a L t) (k : ∀ o, h.get? a = some o → h'.get? a = some o) : SetN w h' a L t := by
  obtain ⟨⟨o, es, ep, h1, r⟩, a1, a2, a3, a4, a5, a6⟩ := R
  exact ⟨⟨o, es, ep, k o h1, r⟩, a1, a2, a3, a4, a5, a6⟩
theorem setN_new (P : Program) {h : Heap} {a : Addr} (ho : h.get? a = some (setO w)) : SetN w h a [] (.fresh 0 0 (!w.params.followText "set-order")) where
  ob := ⟨_, #[], 0, ho, ⟨rfl, rfl, rfl⟩, rfl, rfl⟩
  tab := (setTR_fresh (P := P) (w := w) (h := h) (a := a) ho).tab
  nd := List.nodup_nil
  plain := rfl
  led := (setTR_fresh (P := P) (w := w) (h := h) (a := a) ho).led
  room := (setTR_fresh (P := P) (w := w) (h := h) (a := a) ho).room
  few := by simp
variable {a : Addr} {L : List (Int × Value)} {t : SetTable}
theorem fitsN {es : Array (Int × Value)} (T : TabOk t (L.map (·.1))) (e : es.toList = L) (hr : L.length ≤ t.mask) : t.fits es.size = true := by
  have h1 := T.sz
  rw [List.length_map] at h1
  have h2 : es.size = L.length := by rw [← e, Array.length_toList]
  unfold SetTable.fits SetTable.fill
  rw [T.dm, Bool.and_eq_true, beq_iff_eq, decide_eq_true_eq]
  show t.place.size = es.size ∧ t.place.size + 0 ≤ t.mask
  omega
theorem gwN (T : TabOk t (L.map (·.1))) : ¬ t.gaveWay = true := by
  unfold SetTable.gaveWay
  rw [mask_odd T.mok]
  decide
/-- the search for a hash that isn't there ends at an empty slot -/
theorem search_new (R : SetN w s.heap a L t) {x : Value} {h : Int} (hn : h ∉ L.map (·.1)) {Q : SetFound → Shared → Prop}
    (hq : ∀ K, way t.mask h K ∉ t.place.toList → (∀ c, c < K → way t.mask h c ∈ t.place.toList) → Q (.free (way t.mask h K) false) s) : wpAny (model P w) A (setSearch a x h true) Q E s := by
  obtain ⟨o, es, ep, ho, hex, hd, he⟩ := R.ob
  have hroom := R.room
  obtain ⟨K, hKf, hK, hKb⟩ := R.tab.first (by rw [List.length_map]; omega) h
  unfold setSearch
  rw [show (100000 : Nat) = 99999 + 1 from rfl, setSearchFrom_succ]
  refine wpAny_bind (wpAny_setState_of ho hd (fitsN R.tab he (by omega)) ?_)
  dsimp only
  refine wp_if_neg (gwN R.tab) ?_
  try refine wpAny_bind (wpAny_pure ?_)
  have at_ : ∀ i, i < L.length → (fun i => (es[i]?.map (·.1)).getD 0) i ∈ L.map (·.1) := fun i hi => by
    show (es[i]?.map (·.1)).getD 0 ∈ _
    rw [← Array.getElem?_toList, he, List.getElem?_eq_getElem hi]
    exact List.mem_map.mpr ⟨_, List.getElem_mem hi, rfl⟩
  have spec := go_spec t R.tab.ris R.tab.dm (fun i => (es[i]?.map (·.1)).getD 0) h (10 * SetTable.turns t.mask) K (t.probeStart h) rfl hKf hKb hK
  rcases spec with ⟨k, i, _, hi, hh, _, _⟩ | ⟨_, hpr⟩
  · exfalso
    have h1 : i < t.place.toList.length := (List.getElem?_eq_some_iff.mp hi).1
    have h2 := R.tab.sz
    rw [List.length_map] at h2
    rw [Array.length_toList] at h1
    exact hn (by rw [← hh]; exact at_ i (by omega))
  · have hpr' : t.probe (fun i => (es[i]?.map (·.1)).getD 0) h ((none : Option SetTable.Probe).getD (t.probeStart h)) = some (.empty (way t.mask h K) none) := hpr
    rw [hpr']
    dsimp only
    exact wpAny_pure (hq K hK hKb)
theorem range_all {α : Type} : ∀ L : List α, (List.range L.length).filterMap (fun i => L[i]?) = L
  | [] => rfl
  | x :: L => by
    rw [List.length_cons, List.range_succ_eq_map, List.filterMap_cons, List.filterMap_map]
    have := range_all L
    simp only [Function.comp_def, List.getElem?_cons_zero, List.getElem?_cons_succ, Nat.succ_eq_add_one]
    rw [this]
/-- the table laid anew -/
theorem relay_new {o : Obj} {es : Array (Int × Value)} {ep : Nat} (ho : s.heap.get? a = some o) (hex : o.ExactSet) (hd : o.data = .set es ep t) (he : es.toList = L) (T : TabOk t (L.map (·.1))) (hm : L.length ≤ t.mask)
    (nd : (L.map (·.1)).Nodup) (pl : t.plain = true) (ld : w.params.followText "set-order" = true ∨ t.led = true) (few : L.length < 64) {wanted M : Nat}
    (hw : SetTable.sizeAbove wanted - 1 = M) (hM : MaskOk M) (hw2 : SetTable.sizeAbove wanted ≤ 128) (hn : L.length * 5 < M * 3) {Q : Unit → Shared → Prop}
    (hQ : ∀ h' L' t', Heap.SameBut a s.heap h' → SetN w h' a L' t' → L'.Perm L → Q () { s with heap := h' }) : wpAny (model P w) A (setRelay a wanted) Q E s := by
  have hsz : es.size = L.length := by rw [← he, Array.length_toList]
  obtain ⟨t', order, e, hp, T', em, el, ep', _⟩ := relaid_ok t (hs := es.map (·.1)) (wanted := wanted) hw hM (by rw [Array.size_map, hsz]; omega)
  rw [Array.size_map, hsz] at hp
  obtain ⟨L2, hL2⟩ : ∃ L2, L2 = order.toList.filterMap fun i => L[i]? := ⟨_, rfl⟩
  have pm : L2.Perm L := by
    have := hp.filterMap fun i => L[i]?
    rw [range_all, ← hL2] at this
    exact this
  have e1 : (order.filterMap (es[·]?)).toList = L2 := by
    rw [hL2, Array.toList_filterMap]
    congr 1
    funext i
    rw [← Array.getElem?_toList, he]
  have e2 : L2.map (·.1) = order.toList.map fun i => (es.map (·.1)).getD i 0 := by
    have key : ∀ l : List Nat, (∀ i ∈ l, i < L.length) → (l.filterMap fun i => L[i]?).map (·.1) = l.map fun i => (es.map (·.1)).getD i 0 := by
      intro l
      induction l with
      | nil => intro _; rfl
      | cons i l ih =>
        intro hl
        have hi := hl i (.head _)
        rw [List.filterMap_cons, List.getElem?_eq_getElem hi]
        simp only [List.map_cons]
        rw [ih fun j hj => hl j (.tail _ hj)]
        congr 1
        have : (es.map (·.1))[i]? = some (L[i]).1 := by
          rw [Array.getElem?_map, ← Array.getElem?_toList, he, List.getElem?_eq_getElem hi]
          rfl
        simp [Array.getD_eq_getD_getElem?, this]
    rw [hL2]
    exact key _ fun i hi => List.mem_range.mp (hp.mem_iff.mp hi)
  rw [← e2] at T'
  have hs2 : (order.filterMap (es[·]?)).size = es.size := by
    rw [← Array.length_toList, e1, pm.length_eq, hsz]
  rw [setRelay_eq]
  refine wpAny_bind (wpAny_setState_of ho hd (fitsN T he hm) ?_)
  dsimp only
  refine wp_if_neg (by rw [sizeLine_eq]; omega) ?_
  try refine wpAny_bind (wpAny_pure ?_)
  rw [e]
  dsimp only
  refine wpAny_bind ?_
  refine wp_if_neg (by rw [hs2]; simp) ?_
  try refine wpAny_bind (wpAny_pure ?_)
  refine wpAny_pure ?_
  dsimp only
  refine wpAny_storeSet_of ho hd ?_ (by rw [hs2, hsz, sizeLine_eq]; omega)
  refine hQ _ L2 t' (Heap.SameBut.update ..) ⟨⟨_, _, _, store_at ho hd, ⟨hex.1, hex.2.1, hex.2.2⟩, rfl, e1⟩, T', (pm.map (·.1)).nodup_iff.mpr nd, by rw [ep']; exact pl, by rw [el]; exact ld, by rw [pm.length_eq, em]; exact hn, by rw [pm.length_eq]; exact few⟩ pm
/-- a value of a new hash -/
theorem add_new (R : SetN w s.heap a L t) {x : Addr} {h : Int} (hn : h ∉ L.map (·.1)) (hfew : L.length + 1 < 64) (hby : ∀ Q' : Bool → Shared → Prop, Q' true s → wpAny (model P w) A (hashByValue 8 (.ref x)) Q' E s) {Q : Bool → Shared → Prop}
    (hQ : ∀ h' L' t', Heap.SameBut a s.heap h' → SetN w h' a L' t' → L'.Perm ((h, .ref x) :: L) → Q true { s with heap := h' }) :
    wpAny (model P w) A (setAddHashed a (.ref x) h) Q E s := by
  obtain ⟨o, es, ep, ho, hex, hd, he⟩ := R.ob
  have hroom := R.room
  have hsz : es.size = L.length := by rw [← he, Array.length_toList]
  have hfit := fitsN R.tab he (by omega)
  unfold setAddHashed
  refine wpAny_holding ?_
  rw [show (100000 : Nat) = 99999 + 1 from rfl, setAddHashedIn_succ]
  refine wpAny_bind (wpAny_setState_of ho hd hfit ?_)
  dsimp only
  refine wp_if_neg (by simp [byScan, Value.scannable]) ?_
  try refine wpAny_bind (wpAny_pure ?_)
  refine wpAny_bind (search_new R hn fun K hK hb => ?_)
  dsimp only
  refine wpAny_bind (wpAny_setState_of ho hd hfit ?_)
  dsimp only
  obtain ⟨q1, q2, q3, q4, q5, q6, q7, q8, q9⟩ := R.tab.put hK hb
  have hp1 : (t.put (way t.mask h K)).1.plain = true := by rw [q6]; exact R.plain
  generalize hpt : t.put (way t.mask h K) = pt at q1 q3 q4 q5 q6 q9 hp1 ⊢
  obtain ⟨t1, p⟩ := pt
  dsimp only at q1 q3 q4 q5 q6 q9 hp1 ⊢
  subst q1
  first
    | (refine wpAny_bind ?_; refine wp_if_pos hp1 ?_; refine hby _ ?_)
    | refine wp_if_pos hp1 (wpAny_bind (hby _ ?_))
  simp only [if_true]
  have hin : (SetTable.insertAt es (SetTable.below t.place (way t.mask h K)) (h, Value.ref x)).toList = L.take (SetTable.below t.place (way t.mask h K)) ++ (h, .ref x) :: L.drop (SetTable.below t.place (way t.mask h K)) := by
    rw [SetTable.toList_insertAt, he]
  generalize SetTable.below t.place (way t.mask h K) = p at q3 hin ⊢
  have pm : (L.take p ++ (h, Value.ref x) :: L.drop p).Perm ((h, .ref x) :: L) := put_perm L p _
  have hlen : (L.take p ++ (h, Value.ref x) :: L.drop p).length = L.length + 1 := pm.length_eq
  have hhs : (L.take p ++ (h, Value.ref x) :: L.drop p).map (·.1) = (L.map (·.1)).take p ++ h :: (L.map (·.1)).drop p := by
    rw [List.map_append, List.map_cons, List.map_take, List.map_drop]
  rw [← hhs] at q3
  have nd1 : ((L.take p ++ (h, Value.ref x) :: L.drop p).map (·.1)).Nodup := by
    refine (pm.map (·.1)).nodup_iff.mpr ?_
    rw [List.map_cons]
    exact List.nodup_cons.mpr ⟨hn, R.nd⟩
  generalize SetTable.insertAt es p (h, Value.ref x) = es1 at hin ⊢
  generalize L.take p ++ (h, Value.ref x) :: L.drop p = L1 at pm hlen q3 nd1 hin
  have hes : es1.size = L.length + 1 := by rw [← Array.length_toList, hin, hlen]
  refine wpAny_bind (wpAny_storeSet_of ho hd ?_ (by rw [hes, sizeLine_eq]; omega))
  have sb : Heap.SameBut a s.heap (s.heap.update a (Obj.putSet es1 t1)) := Heap.SameBut.update ..
  have ho1 := store_at (es' := es1) (t' := t1) ho hd
  generalize s.heap.update a (Obj.putSet es1 t1) = h1 at sb ho1 ⊢
  have ld1 : w.params.followText "set-order" = true ∨ t1.led = true := by rw [q5]; exact R.led
  rw [List.length_map] at q9
  by_cases hf : t1.tooFull = true
  · first
      | (refine wpAny_bind ?_; refine wp_if_pos (by simp [hf]) ?_)
      | (refine wp_if_pos (by simp [hf]) ?_; refine wpAny_bind ?_)
    have hfull : (L.length + 1) * 5 ≥ t1.mask * 3 := by
      have h := hf
      unfold SetTable.tooFull at h
      rw [decide_eq_true_eq, q9] at h
      exact h
    rw [hsz]
    have go : ∀ M, SetTable.sizeAbove (SetTable.grown (L.length + 1)) - 1 = M → MaskOk M → SetTable.sizeAbove (SetTable.grown (L.length + 1)) ≤ 128 → (L.length + 1) * 5 < M * 3 →
        wpAny (model P w) A (setRelay a (SetTable.grown (L.length + 1))) (fun _ s' => wpAny (model P w) A (pure true) Q E s') E { s with heap := h1 } := fun M h1' h2' h3' h4' => by
      refine relay_new (s := { s with heap := h1 }) ho1 ⟨hex.1, hex.2.1, hex.2.2⟩ rfl hin q3 (by rw [hlen, q4]; rcases R.tab.mok with e | e | e <;> omega) nd1 hp1 ld1 (by rw [hlen]; exact hfew) h1' h2' h3' (by rw [hlen]; exact h4') ?_
      intro h2 L2 t2 sb2 R2 pm2
      exact wpAny_pure (hQ h2 L2 t2 (sb.trans sb2) R2 (pm2.trans pm))
    have cases2 : L.length = 4 ∨ L.length = 18 := by
      rcases R.tab.mok with e | e | e
      · left; rw [q4, e] at hfull; rw [e] at hroom; omega
      · right; rw [q4, e] at hfull; rw [e] at hroom; omega
      · exfalso; rw [q4, e] at hfull; omega
    rcases cases2 with e2 | e2
    · refine go 31 (by rw [e2, size_20]) (.inr (.inl rfl)) (by rw [e2, size_20]; decide) (by omega)
    · refine go 127 (by rw [e2, size_76]) (.inr (.inr rfl)) (by rw [e2, size_76]; decide) (by omega)
  · first
      | refine wp_if_neg (by simp [hf]) ?_
      | (refine wpAny_bind ?_; refine wp_if_neg (by simp [hf]) ?_; refine wpAny_pure ?_)
    refine wpAny_pure (hQ h1 L1 t1 sb ⟨⟨_, _, _, ho1, ⟨hex.1, hex.2.1, hex.2.2⟩, rfl, hin⟩, q3, nd1, hp1, ld1, ?_, by rw [hlen]; exact hfew⟩ pm)
    have h := hf
    unfold SetTable.tooFull at h
    rw [decide_eq_true_eq, q9] at h
    rw [hlen]
    omega
end
end Fl

namespace Fl
open PySem PySem.Spec PyProof.Rows L2
open PySem.W (EachIs)

/-! ## sorted(set(a list of (n, (w, l)))) -/
abbrev K3 := Int × Int × Int
def key3 (k : K3) : NestedKey := .tup [.num k.1, .tup [.num k.2.1, .num k.2.2]]
def h2 (a b : Int) : Int := reduceHash (Builtin.Tuple.tupleHashOf [hashInt a, hashInt b])
def h3 (k : K3) : Int := reduceHash (Builtin.Tuple.tupleHashOf [hashInt k.1, h2 k.2.1 k.2.2])
theorem h3_ok (w : World) (k : K3) : (key3 k).hash w = h3 k := by
  simp only [key3, h3, h2, NestedKey.hash, NestedKey.hashes]
def enc3 (k : K3) : PyData := .tuple [.int k.1, .tuple [.int k.2.1, .int k.2.2]]
def le3 (p q : K3) : Bool := decide (p.1 < q.1 ∨ (p.1 = q.1 ∧ (p.2.1 < q.2.1 ∨ (p.2.1 = q.2.1 ∧ p.2.2 ≤ q.2.2))))
theorem ord3 : Ord le3 := by
  refine ⟨fun a => ?_, fun a b h1 h2 => ?_, fun a b c h1 h2 => ?_, fun a b => ?_⟩
  · simp [le3]
  · obtain ⟨a1, a2, a3⟩ := a
    obtain ⟨b1, b2, b3⟩ := b
    simp only [le3, decide_eq_true_eq] at h1 h2
    have e1 : a1 = b1 := by omega
    have e2 : a2 = b2 := by omega
    have e3 : a3 = b3 := by omega
    rw [e1, e2, e3]
  · simp only [le3, decide_eq_true_eq] at *
    omega
  · simp only [le3, Bool.or_eq_true, decide_eq_true_eq]
    omega
theorem dle_3 : PySem.W.dataLe false enc3 = le3 := by
  funext p q
  show (!PySem.W.dataLt (enc3 q) (enc3 p)) = _
  have e : PySem.W.dataLt (enc3 q) (enc3 p) = decide (q.1 < p.1 ∨ (q.1 = p.1 ∧ (q.2.1 < p.2.1 ∨ (q.2.1 = p.2.1 ∧ q.2.2 < p.2.2)))) := by
    unfold enc3
    rw [PySem.W.dataLt_pair (by simp [PySem.W.alike]) (by simp [PySem.W.alike, PySem.W.alikeAll]), PySem.W.dataLt_int, PySem.W.dataLt_ii]
    simp only [PyData.eqv, PyData.eqvAll, beq_iff_eq, Bool.and_true, Bool.and_eq_true]
    by_cases h1 : q.1 = p.1 <;> by_cases h2 : q.2.1 = p.2.1 <;> by_cases h3 : q.2.2 = p.2.2 <;> simp [h1, h2, h3]
  rw [e]
  unfold le3
  by_cases h : q.1 < p.1 ∨ (q.1 = p.1 ∧ (q.2.1 < p.2.1 ∨ (q.2.1 = p.2.1 ∧ q.2.2 < p.2.2)))
  · have h' : ¬ (p.1 < q.1 ∨ (p.1 = q.1 ∧ (p.2.1 < q.2.1 ∨ (p.2.1 = q.2.1 ∧ p.2.2 ≤ q.2.2)))) := by omega
    simp [h, h']
  · have h' : (p.1 < q.1 ∨ (p.1 = q.1 ∧ (p.2.1 < q.2.1 ∨ (p.2.1 = q.2.1 ∧ p.2.2 ≤ q.2.2)))) := by omega
    simp [h, h']
/-- (n, (w, l)) at b -/
def IsP (h : Heap) (k : K3) (b : Addr) : Prop := ∃ o n c t o2 n2 t1 t2, h.get? b = some o ∧ o.cls = .type "tuple" ∧ o.data = .seq #[.int k.1 t, .ref c] n ∧ h.get? c = some o2 ∧ o2.cls = .type "tuple" ∧ o2.data = .seq #[.int k.2.1 t1, .int k.2.2 t2] n2
section
variable {P : Program} {w : World} {A : Around} {E : Value → Shared → Prop} {s : Shared}
theorem IsP.keep {h h' : Heap} {k : K3} {b : Addr} (x : IsP h k b) (hk : ∀ c o, h.get? c = some o → h'.get? c = some o) : IsP h' k b := by
  obtain ⟨o, n, c, t, o2, n2, t1, t2, a1, a2, a3, a4, a5, a6⟩ := x
  exact ⟨o, n, c, t, o2, n2, t1, t2, hk _ _ a1, a2, a3, hk _ _ a4, a5, a6⟩
theorem IsP.nested {h : Heap} {k : K3} {b : Addr} (x : IsP h k b) : NestedIs h (key3 k) (.ref b) := by
  obtain ⟨o, n, c, t, o2, n2, t1, t2, a1, a2, a3, a4, a5, a6⟩ := x
  exact .tup a1 a2 a3 (.cons (.int _ _) (.cons (.tup a4 a5 a6 (.cons (.int _ _) (.cons (.int _ _) .nil))) .nil))
theorem IsP.reads {h : Heap} {k : K3} {b : Addr} (x : IsP h k b) : Reads h (.ref b) (enc3 k) [] := by
  obtain ⟨o, n, c, t, o2, n2, t1, t2, a1, a2, a3, a4, a5, a6⟩ := x
  exact .tuple a1 a2 a3 (.cons (as := []) (bs := []) (.int _ _) (.cons (as := []) (bs := []) (.tuple a4 a5 a6 (.cons (as := []) (bs := []) (.int _ _) (.cons (as := []) (bs := []) (.int _ _) .nil))) .nil))
theorem hashBy_go {n m : Nat} {b : Addr} {o : Obj} {vs : Array Value} {Q : Bool → Shared → Prop} (ho : s.heap.get? b = some o) (hc : o.cls = .type "tuple") (hd : o.data = .seq vs m)
    (hv : ∀ v ∈ vs.toList, ∀ Q' : Bool → Shared → Prop, Q' true s → wpAny (model P w) A (hashByValue n v) Q' E s) (h : Q true s) : wpAny (model P w) A (hashByValue (n + 1) (.ref b)) Q E s := by
  unfold hashByValue
  refine wpAny_bind (wpAny_specialOf (⟨_, ho, hc⟩ : s.TypeIs (.ref b) "tuple") F.slot_tuple_hash.lookup ?_)
  show wpAny _ _ (seqItems? (.ref b) >>= _) _ _ s
  refine wpAny_bind (wpAny_seqItems ho hd ?_)
  refine wpAny_bind ?_
  show wpAny _ _ (forIn vs _ _) _ _ s
  rw [← Array.forIn_toList]
  refine wpAny_forIn_list _ (fun rest r s' => r.1 = none ∧ s' = s ∧ ∀ v ∈ rest, v ∈ vs.toList) _ ?_ ?_ _ _ ⟨rfl, rfl, fun v hv => hv⟩
  · rintro v rest r s' ⟨hr, rfl, hall⟩
    refine wpAny_bind (hv v (hall v (.head _)) _ ?_)
    simp only [Bool.not_true, Bool.false_eq_true, if_false]
    exact wpAny_pure ⟨rfl, rfl, fun u hu => hall u (.tail _ hu)⟩
  · rintro ⟨r1, r2⟩ s' ⟨hr, rfl, _⟩
    simp only at hr
    subst hr
    exact wpAny_pure h
theorem hashBy_p {k : K3} {b : Addr} (x : IsP s.heap k b) {Q : Bool → Shared → Prop} (h : Q true s) : wpAny (model P w) A (hashByValue 8 (.ref b)) Q E s := by
  obtain ⟨o, n, c, t, o2, n2, t1, t2, a1, a2, a3, a4, a5, a6⟩ := x
  refine hashBy_go (n := 7) a1 a2 a3 (fun v hv Q' hq => ?_) h
  rcases List.mem_cons.mp hv with rfl | hv
  · exact wpAny_pure hq
  · rcases List.mem_cons.mp hv with rfl | hv
    · refine hashBy_go (n := 6) a4 a5 a6 (fun v hv Q' hq => ?_) hq
      rcases List.mem_cons.mp hv with rfl | hv
      · exact wpAny_pure hq
      · rcases List.mem_cons.mp hv with rfl | hv
        · exact wpAny_pure hq
        · cases hv
    · cases hv
def row3 (p : Addr × K3) : Int × Value := (h3 p.2, .ref p.1)
theorem fill_3 {S : Addr} {h0 : Heap} (ks : List (Addr × K3)) (hk : ∀ p ∈ ks, IsP h0 p.2 p.1) (nd : (ks.map fun p => h3 p.2).Nodup) (hl : ks.length < 64) :
    Filling P w S h0 (ks.map fun p => Value.ref p.1) fun i h => ∃ L t, SetN w h S L t ∧ L.Perm ((ks.take i).map row3) where
  zero := fun h e _ => ⟨[], _, setN_new P e, by simp⟩
  keep := fun i h h' ⟨L, t, R, g⟩ k k0 => ⟨L, t, R.keep k, g⟩
  step := fun A E i v s Q hu hi ⟨L, t, R, g⟩ k0 q => by
    rw [List.getElem?_map] at hi
    obtain ⟨p, hp, rfl⟩ := Option.map_eq_some_iff.mp hi
    have hx : IsP s.heap p.2 p.1 := (hk p (List.mem_of_getElem? hp)).keep k0
    have tk : ks.take (i + 1) = ks.take i ++ [p] := take_next hp
    have hlt : i < ks.length := (List.getElem?_eq_some_iff.mp hp).1
    have hL : L.length = i := by rw [g.length_eq, List.length_map, List.length_take]; omega
    have hn : h3 p.2 ∉ L.map (·.1) := fun hm => by
      have hm := ((g.map (·.1)).mem_iff).mp hm
      rw [List.map_map] at hm
      have nd' : ((ks.take (i + 1)).map fun p => h3 p.2).Nodup := by
        rw [List.map_take]
        exact nd.sublist (List.take_sublist _ _)
      rw [tk, List.map_append] at nd'
      exact (List.nodup_append.mp nd').2.2 _ hm _ (.head _) rfl
    unfold setAdd
    refine wpAny_holding (wpAny_bind (pyHash_key (key3 p.2) (.ref p.1) A s _ hx.nested ?_ ?_))
    · simp only [key3, NestedKey.depth, NestedKey.depthAll]; omega
    · rw [h3_ok]
      refine add_new (s := { s with toks := s.toks + (key3 p.2).draws }) R hn (by omega) (fun Q' hq => hashBy_p (s := { s with toks := s.toks + (key3 p.2).draws }) hx hq) fun h' L' t' sb R' pm => ?_
      refine q true h' _ (Nat.le_add_right _ _) sb ⟨L', t', R', ?_⟩
      rw [tk, List.map_append]
      exact (pm.trans ((g.cons _))).trans (List.perm_append_singleton _ _).symm
theorem coll_3 {a : Addr} {h : Heap} {L : List (Int × Value)} {t : SetTable} {ks : List (Addr × K3)} (R : SetN w h a L t) (g : L.Perm (ks.map row3)) : Coll P w a h fun out => ∃ L1 : List (Addr × K3), L1.Perm ks ∧ out = L1.map fun q => Value.ref q.1 := by
  intro A E s Q hh e hQ
  subst e
  obtain ⟨o, es, ep, ho, hex, hd, he⟩ := R.ob
  have hfew := R.few
  have hroom := R.room
  have hsz : es.size = L.length := by rw [← he, Array.length_toList]
  refine collect_set hh ⟨o, ho, hex.1, hd⟩ (fitsN R.tab he (by omega)) (by unfold scanBound; omega) R.tab.ris R.led fun s' out k1 k2 k3 k4 pm => hQ s' out k1 k2 k3 k4 ?_
  rw [he] at pm
  have pm := pm.trans (g.map (·.2))
  rw [List.map_map] at pm
  obtain ⟨L1, q1, q2⟩ := perm_lift pm ks rfl
  exact ⟨L1, q1, q2⟩
end
end Fl

namespace Fl
open PySem PySem.Spec PyProof.Rows L2
open PySem.W (EachIs)

def Phi3 (H : Hp) (x : V) (k : K3) : Prop := ∃ b c, x = .ref b ∧ H b = some (.tup [.int k.1, .ref c]) ∧ H c = some (.tup [.int k.2.1, .int k.2.2])
theorem phi3_is {P : Program} {w : World} {H : Hp} {h : Heap} (ok : HOk P w H h) {b : Addr} {k : K3} (x : Phi3 H (.ref b) k) : IsP h k b := by
  obtain ⟨b', c, e, h1, h2⟩ := x
  cases e
  obtain ⟨_, its, rv, o, g1, g2, n, g3⟩ := (show ObjOk P w H h b (.tup _) from ok b _ h1)
  obtain ⟨_, its2, rv2, o2, k1, k2, n2, k3⟩ := (show ObjOk P w H h c (.tup _) from ok c _ h2)
  cases rv with
  | cons r1 rv =>
    cases rv with
    | cons r2 rv =>
      cases rv
      cases rv2 with
      | cons s1 rv2 =>
        cases rv2 with
        | cons s2 rv2 =>
          cases rv2
          obtain ⟨t, rfl⟩ := r1
          obtain ⟨t1, rfl⟩ := s1
          obtain ⟨t2, rfl⟩ := s2
          cases r2
          exact ⟨o, n, c, t, o2, n2, t1, t2, g1, g2, g3, k1, k2, k3⟩
theorem keyed_refs3 {β : Type} {Φ : V → β → Prop} (hΦ : ∀ x n, Φ x n → ∃ b, x = V.ref b) : ∀ {xs : List V} {us : List Value} {ns : List β}, Vals xs us → Paired Φ xs ns → ∃ ks : List (Addr × β), ks.map (·.2) = ns ∧ us = (ks.map fun p => Value.ref p.1) ∧ ∀ p ∈ ks, Φ (.ref p.1) p.2
  | _, _, _, .nil, h => by cases h; exact ⟨[], rfl, rfl, fun p hp => by cases hp⟩
  | _, _, _, .cons h1 h2, h => by
    cases h with
    | cons g1 g2 =>
      obtain ⟨ks, e1, e2, e3⟩ := keyed_refs3 hΦ h2 g2
      obtain ⟨b, rfl⟩ := hΦ _ _ g1
      cases h1
      refine ⟨(b, _) :: ks, by rw [List.map_cons, e1], by rw [List.map_cons, e2], fun p hp => ?_⟩
      rcases List.mem_cons.mp hp with rfl | hp
      · exact g1
      · exact e3 p hp
def TR3 (Φ : V → K3 → Prop) : Value → K3 → Prop := fun v k => ∃ x, RelV x v ∧ Φ x k
theorem of_tr3 {Φ : V → K3 → Prop} : ∀ {vs : List Value} {ks : List K3}, EachIs (TR3 Φ) vs ks → ∃ ys, Vals ys vs ∧ Paired Φ ys ks
  | _, _, .nil => ⟨[], .nil, .nil⟩
  | _, _, .cons ⟨x, h1, h2⟩ t => by
    obtain ⟨ys, g1, g2⟩ := of_tr3 t
    exact ⟨x :: ys, .cons h1 g1, .cons h2 g2⟩
def rSS3 (K : PySem.W.Frag) : List V → Hp → VK → Prop := fun vs H Q => ∃ (a : Addr) (xs : List V) (ks : List K3) (Φ : V → K3 → Prop), vs = [V.ref a] ∧ SqL K H a xs ∧ Paired Φ xs ks ∧ (∀ x k, Φ x k → Phi3 H x k) ∧ (ks.map h3).Nodup ∧ ks.length < 60 ∧
  ∀ p ys, H p = none → Paired Φ ys (uSort le3 ks) → Q (.ref p) (upd H p (.lst ys))
section
variable {X : Cx} {pins : List (Addr × Obj)} {σ : L2.St} {H : Hp} {s : Shared}
theorem call_ss3 {vs : List V} {us : List Value} {Q : VK} (I : Inv X pins σ H s) (hc : X.calm = true) (hu : X.A.units + 64 < cLine) (r : Vals vs us) (h : rSS3 X.K vs H Q) :
    wpAny (model X.prog X.w) X.A (call (.type "set") us) (fun v s1 => wpAny (model X.prog X.w) X.A (call (.builtin "sorted") [v]) (EP X pins σ Q) X.xe s1) X.xe s := by
  obtain ⟨a, xs, nss, Φ, rfl, hs, hp, ht, nd, hl, q⟩ := h
  rw [Vals.ref1 r]
  obtain ⟨its, rv, hli, hz⟩ := I.list hs
  have hsz : its.length = xs.length := rv.length.symm
  obtain ⟨ks, e1, e2, e3⟩ := keyed_refs3 (fun x ns h => by obtain ⟨b, c, e, _⟩ := ht x ns h; exact ⟨b, e⟩) rv hp
  have hkl : ks.length = nss.length := by rw [← e1, List.length_map]
  have nd' : (ks.map fun p => h3 p.2).Nodup := by
    rw [← e1, List.map_map] at nd
    exact nd
  have F := fill_3 (P := X.prog) (w := X.w) (S := s.heap.objs.size) (h0 := s.heap) ks (fun p hp => phi3_is I.hok (ht _ _ (e3 p hp))) nd' (by omega)
  rw [← e2] at F
  refine set_of_list' (I.ok.hd hc) hli.isList F (by omega) fun h' tk ⟨L, t, R, g⟩ kp => ?_
  have hil : its.length = ks.length := by rw [e2, List.length_map]
  rw [hil, List.take_length] at g
  have co : Coll X.prog X.w s.heap.objs.size h' fun out => ∃ kk, EachIs (TR3 Φ) out kk ∧ kk.Nodup ∧ (∀ z, z ∈ kk ↔ z ∈ nss) ∧ kk.length ≤ 4096 := by
    refine (coll_3 R g).mono fun out ⟨L1, p1, e⟩ => ⟨L1.map (·.2), ?_, ?_, ?_, ?_⟩
    · rw [e]
      exact each_map fun p hp => ⟨.ref p.1, rfl, e3 p (p1.mem_iff.mp hp)⟩
    · refine (p1.map (·.2)).nodup_iff.mpr ?_
      rw [e1]
      exact List.Pairwise.of_map h3 (fun _ _ hne e => hne (congrArg h3 e)) nd
    · intro z
      rw [(p1.map (·.2)).mem_iff, e1]
    · rw [List.length_map, p1.length_eq]
      omega
  refine ss_end (R := TR3 Φ) ord3 dle_3 (I.kept (t' := tk) kp) hc hu co (fun h2 v b k2 ⟨x, rx, hx⟩ => ?_) (fun b b' => by unfold enc3; simp [PySem.W.alike, PySem.W.alikeAll]) (fun kk hm => .inl fun d hd => ?_) (fun b => by unfold enc3; simp [PyData.depth, PyData.depthAll]) fun p out eo => ?_
  · have hx' := ht x b hx
    obtain ⟨b0, c0, rfl, _⟩ := id hx'
    cases rx
    exact ((phi3_is I.hok hx').keep fun c o z => k2 c o (kp c o z)).reads
  · obtain ⟨b, hb, rfl⟩ := List.mem_map.mp hd
    exact ⟨_, _, rfl⟩
  · obtain ⟨ys, ry, py⟩ := of_tr3 eo
    exact ⟨ys, ry, fun hn => q p ys hn py⟩
variable {a : Expr} {ta : TA} {p p2 q pos : Pos}
theorem pe_ss3 (hc : X.calm = true) (hu : X.A.units + 64 < cLine) (hg : Gl X "sorted") (hm : X.mg "sorted" = none) (hg2 : Gl X "set") (hm2 : X.mg "set" = none) (ha : PA X [a] ta)
    (na : starEach [a] X.env = (false, eval a X.env) :: starEach [] X.env := by rfl) : PE X (.Call (.Name "sorted" p) [.Call (.Name "set" p2) [a] [] q] [] pos) (tCB (rSS3 X.K) ta) := by
  refine ⟨fun pins s σ H Q I h => ?_⟩
  refine Call_ (ld_blt I hg hm rfl ?_)
  refine PyProof.Rows.callWith_builtin1 (PyProof.Rows.args_cons ?_ rfl) rfl rfl
  refine Call_ (ld_blt I hg2 hm2 PyProof.Rows.boot_set ?_)
  refine PyProof.Rows.callWith_type1 (thn (ha.run q pins s σ H _ I h) fun us s1 ⟨vs, H1, I1, r1, q1⟩ => ?_) na rfl
  exact wpAny_mono (call_ss3 I1 hc hu r1 q1) (fun v s2 hq => by exact PyProof.Rows.args_nil hq) (fun _ _ h => h)
end
/-! ### .. over data -/
def tup3 : D → Option K3
  | .tup [.int n, .tup [.int a, .int b]] => some (n, a, b)
  | _ => none
def d3 (k : K3) : D := .tup [.int k.1, .tup [.int k.2.1, .int k.2.2]]
def fSS3 : List D → Option D
  | [.lst ds] => (ds.mapM tup3).bind fun ks => if (ks.map h3).Nodup ∧ ks.length < 60 then some (.lst ((uSort le3 ks).map d3)) else none
  | _ => none
section
variable {T : Tb} {B H : Hp}
theorem tup3_rp {d : D} {k : K3} {x : V} (e : tup3 d = some k) (r : Rp T B d x) : Phi3 B x k := by
  unfold tup3 at e
  split at e
  · cases e
    simp only [Rp, RpL] at r
    obtain ⟨a, xs, rfl, hb, y1, r1, rfl, rfl, y2, r2, rfl, ⟨c, zs, rfl, hc, z1, q1, rfl, rfl, z2, q2, rfl, rfl, rfl⟩, rfl⟩ := r
    exact ⟨a, c, rfl, hb, hc⟩
  · cases e
theorem tups3_rp : ∀ {ds : List D} {xs : List V} {ks : List K3}, RpL T B ds xs → ds.mapM tup3 = some ks → Paired (Phi3 B) xs ks
  | [], xs, nss, h, e => by
    simp only [RpL] at h
    subst h
    simp at e
    subst e; exact .nil
  | d :: ds, xs, nss, h, e => by
    simp only [RpL] at h
    obtain ⟨x, r, rfl, h1, h2⟩ := h
    cases q : tup3 d with
    | none => simp [List.mapM_cons, q] at e
    | some k =>
      cases q2 : ds.mapM tup3 with
      | none => simp [List.mapM_cons, q, q2] at e
      | some ks =>
        simp [List.mapM_cons, q, q2] at e
        subst e
        exact .cons (tup3_rp q h1) (tups3_rp h2 q2)
theorem rp_3 {x : V} {k : K3} (h : Phi3 B x k) : Rp T B (d3 k) x := by
  obtain ⟨b, c, rfl, h1, h2⟩ := h
  unfold d3
  simp only [Rp, RpL]
  exact ⟨b, _, rfl, h1, .int k.1, [.ref c], rfl, rfl, .ref c, [], rfl, ⟨c, _, rfl, h2, .int k.2.1, [.int k.2.2], rfl, rfl, .int k.2.2, [], rfl, rfl, rfl⟩, rfl⟩
theorem rp_tups3 : ∀ {xs : List V} {ks : List K3}, Paired (Phi3 B) xs ks → RpL T B (ks.map d3) xs
  | _, _, .nil => by simp [RpL]
  | _, _, .cons h t => by
    rw [List.map_cons]
    exact .cons (rp_3 h) (rp_tups3 t)
theorem cf_ss3 : CallDF T (rSS3 T.K) fSS3 := by
  intro B H vs ds d Q ex h hf q
  unfold fSS3 at hf
  split at hf
  · rename_i ds
    obtain ⟨v, rfl, hv⟩ := hl1 h
    obtain ⟨a, xs, rfl, e1, r1⟩ := rh_lst ex hv
    obtain ⟨ks, hn, hf⟩ := Option.bind_eq_some_iff.mp hf
    split at hf
    · rename_i hok
      cases hf
      exact ⟨a, xs, ks, Phi3 B, rfl, .of e1, tups3_rp r1 hn, fun x k ⟨b, c, z1, z2, z3⟩ => ⟨b, c, z1, ex _ _ z2, ex _ _ z3⟩, hok.1, hok.2, fun p ys hp hy => q p _ hp (by simp only [At]; exact ⟨_, rfl, rp_tups3 hy⟩)⟩
    · cases hf
  · cases hf
end
section
variable {X : Cx} {G : Gs} {a : Expr} {os : List Opd} {p p2 q pos : Pos}
theorem lf_ss3 (hK : G.T.K = X.K) (hc : X.calm = true) (hu : X.A.units + 64 < cLine) (hg : Gl X "sorted") (hm : X.mg "sorted" = none) (hg2 : Gl X "set") (hm2 : X.mg "set" = none) (ha : PA X [a] (tAO G os))
    (na : starEach [a] X.env = (false, eval a X.env) :: starEach [] X.env := by rfl) : PE X (.Call (.Name "sorted" p) [.Call (.Name "set" p2) [a] [] q] [] pos) (tF G (vB fSS3 os)) :=
  pe_imp (pe_ss3 hc hu hg hm hg2 hm2 ha na) fun _ _ _ => by rw [← hK]; exact b_F cf_ss3
end
end Fl

namespace Fl
open PySem PySem.Spec PyProof.Rows L2

/-! ## the classes that a try clause asks about -/
/-- the caught class -/
structure ExcS (K : PySem.W.Frag) (mg : Str → Option Value) (x : Str) (C : Addr) : Prop where
  g : mg x = some (.ref C)
  sb : PySem.W.subIn K (.ref C) (.type "BaseException") = some true
  hd : PySem.W.hasDictIn K C = true
  ty : PySem.W.typeIn K (.ref C) = some (.type "type")
def tw (c k : Nat) : Bool := c == k
theorem kit_yes {K : PySem.W.Frag} {C : Addr} : PySem.W.kitOne K (.ref C) (.ref C) = some true := by
  unfold PySem.W.kitOne
  rw [if_pos (beq_self_eq_true _)]
theorem kit_not {K : PySem.W.Frag} {C1 C2 : Addr} (hd : PySem.W.hasDictIn K C2 = true) (ht : PySem.W.typeIn K (.ref C2) = some (.type "type")) (h : PySem.W.subIn K (.ref C1) (.ref C2) = some false) (hs : PySem.W.subIn K (.ref C1) (.ref C1) = some true) :
    PySem.W.kitOne K (.ref C1) (.ref C2) = some false := by
  have hc : (PySem.W.clsIn K C2).isSome = true := by
    unfold PySem.W.hasDictIn at hd
    cases q : PySem.W.clsIn K C2 with
    | none => rw [q] at hd; cases hd
    | some c => rfl
  unfold PySem.W.kitOne
  by_cases e : ((Value.ref C1) == (Value.ref C2)) = true
  · have : Value.ref C1 = Value.ref C2 := by simpa using e
    cases this
    rw [h] at hs
    cases hs
  · rw [if_neg e]
    unfold PySem.W.kitCls
    simp only [hc, ht, Bool.true_and, beq_self_eq_true, if_true]
    exact h
theorem str_rp {T : Tb} {B : Hp} (x : Str) : Rp T B (.str x) (.str x) := by simp only [Rp]
end Fl

namespace Fl
open PySem PySem.Spec PyProof.Rows L2

/-! ## lambdas with parameters, none of whose names is free -/
def LmP (q : Str) (params : Arguments) (body : Expr) (scope : Scope) (f c : Addr) : Heap → Prop := fun h => ∃ pm ctv, h.get? f = some (PySem.W.kla_obj "<lambda>" q params body scope [] pm c ctv)
def CdP (q : Str) (c : Addr) : Heap → Prop := fun h => ∃ (oc : Obj) (vs : Array Value) (t : Tok), h.get? c = some oc ∧ oc.data = .fields vs ∧ vs[1]? = some (.str q t)
theorem codeO_eq (q : Str) (c : Addr) : LamX.CodeO c q = .ext (CdP q c) := rfl
section
variable {P : Program} {w : World} {K : PySem.W.Frag} {mg : Str → Option Value} {base : Heap} {T : Tb} {xc : Nat → Value}
/-- a call of such an object -/
theorem lam_code {CX : CXT} {k : Nat} {f c : Addr} {q : Str} {params : Arguments} {body : Expr} {scope : Scope} {N ps : List Str} {pm ctv : Value} (S : FnScope N ps scope)
    {A : Around} {outer : List PySem.Env} {s : Shared} {H : Hp} {us : List Value} {vs : List V} {Q : VK} {E : XK} (hr : Room (k + 1) A) (e0 : Env0 P w K mg base A outer s H)
    (hf : s.heap.get? f = some (PySem.W.kla_obj "<lambda>" q params body scope [] pm c ctv)) (hc : CdP q c s.heap) (hbind : bindArgs (PySem.W.kla_fn "<lambda>" q params body scope [] pm (.ref c) ctv) ⟨us, []⟩ = pure (ps.zip us)) (r : Vals vs us) (hl : vs.length = ps.length)
    (hbody : Room k (A.deeper (envOfC q scope s.heap.objs.size f (.ref c))) → ∃ t, PE (cxOf CX P w K mg base N q scope f (.ref c) A outer s H E) body t ∧ t (L2.start N vs) H Q) :
    codeAny (model P w) A (.call (.ref f) ⟨us, []⟩) (CR CX outer P w H s Q E) s := by
  have lim : s.heap.NoLimit := e0.mod.nolimit.keeps fun b o e => (e0.bs b o e).1
  have hkind : ∀ y ∈ ps.zip us, scope.names.lookup y.1 = some .local ∨ (scope.names.lookup y.1 = some .cell ∧ ((cellsFrom (s.heap.objs.size + 1) scope.names []).lookup y.1).isSome = true) := fun ⟨n, v⟩ hy => by
    rcases S.par n (List.of_mem_zip hy).1 with q | q
    · exact .inl q
    · exact .inr ⟨q, PySem.W.cellsFrom_some _ _ _ (.inl q)⟩
  obtain ⟨oc, vcs, t0, hoc, hdc, hvc⟩ := hc
  refine PySem.W.kla_callFunE hr.depth hf rfl S.co S.gen rfl ⟨c, oc, vcs, t0, rfl, hoc, hdc, hvc⟩ ?_
  rw [hbind]
  refine wpAny_pure (wpAny_newFunctionEnv_cells S.kind hkind fun env he s1 x => ?_)
  subst he
  refine ⟨lim.keeps x.toInCall.keep, PySem.W.kla_codeExpr ?_⟩
  obtain ⟨t, ht, hq⟩ := hbody (hr.deeper _)
  have I : Inv (cxOf CX P w K mg base N q scope f (.ref c) A outer s H E) [] (L2.start N vs) H s1 := inv_start S hr.hd e0 hl r x
  refine wpAny_mono (ht.run [] s1 (L2.start N vs) H _ I hq) (fun v s' hs => ?_) fun e s' hs => hs
  obtain ⟨x', H', J, rv, q'⟩ := hs
  exact ⟨x', H', J.os, J.bare, J.base, J.hok, rv, q'⟩
structure LamW (P : Program) (w : World) (K : PySem.W.Frag) (mg : Str → Option Value) (base : Heap) (T : Tb) (xc : Nat → Value) (i n k : Nat) (F : List D → FR) : Prop where
  obj : ∀ f c h, (T.fn i f c).1 h → PySem.W.FnAt f h
  run : ∀ (A : Around) (outer : List PySem.Env) (s : Shared) (H : Hp) (us : List Value) (vs : List V) (Q : VK) (E : XK) (f c : Addr), Room k A → Env0 P w K mg base A outer s H → (T.fn i f c).1 s.heap → (T.fn i f c).2 s.heap → Vals vs us → spF T xc n F vs H Q E →
    codeAny (model P w) A (.call (.ref f) ⟨us, []⟩) (CR (L2.CX P w) outer P w H s Q E) s
def runE (m : M) (pad : Nat) (ds : List D) : FR := match m (ds.map some ++ List.replicate pad none) with
  | .ok d e => .ok d (bagOf e)
  | .err c _ => .err c
  | .bad => .bad
theorem lam_lift {i k n : Nat} {q : Str} {params : Arguments} {body : Expr} {scope : Scope} {N ps : List Str} {O : Nat → Bool} {m : M} (h1 : ∀ f c h, (T.fn i f c).1 h → LmP q params body scope f c h) (h2 : ∀ f c h, (T.fn i f c).2 h → CdP q c h)
    (Sc : FnScope N ps scope) (hn : ps.length = n) (hN : n ≤ N.length) (hO : ∀ i, i < n → O i = false)
    (hbind : ∀ (pm cv ctv : Value) (us : List Value), us.length = n → bindArgs (PySem.W.kla_fn "<lambda>" q params body scope [] pm cv ctv) ⟨us, []⟩ = pure (ps.zip us))
    (hb : ∀ (f c : Addr) (A : Around) (outer : List PySem.Env) (s : Shared) (H : Hp) (E : XK), Bd (cxOf (L2.CX P w) P w K mg base N q scope f (.ref c) A outer s H E) ⟨T, O, fun cls d _ H' => E cls d H', xc⟩ k →
      PE (cxOf (L2.CX P w) P w K mg base N q scope f (.ref c) A outer s H E) body (tE ⟨T, O, fun cls d _ H' => E cls d H', xc⟩ m)) : LamW P w K mg base T xc i n (k + 1) (runE m (N.length - n)) where
  obj := fun f c h z => by
    obtain ⟨pm, ctv, e⟩ := h1 f c h z
    exact ⟨_, _, _, _, e⟩
  run := fun A outer s H us vs Q E f c hr e0 z1 z2 rv h => by
    obtain ⟨pm, ctv, e⟩ := h1 f c _ z1
    obtain ⟨B, ds, ex, rl, hl, h⟩ := h
    have hlv : vs.length = n := by rw [rl.length, hl]
    have hlu : us.length = n := by rw [← rv.length, hlv]
    refine lam_code Sc hr e0 e (h2 f c _ z2) (hbind _ _ _ us hlu) rv (by rw [hlv, hn]) fun hr' => ⟨_, hb f c A outer s H E ⟨hr', takes_of rfl rfl rfl rfl, passes_of rfl⟩, ?_⟩
    subst hl
    refine ⟨⟨H, B, fun _ => none⟩, B, _, rep_start ex rl hN hO, ?_⟩
    unfold runE at h
    cases hm : m (ds.map some ++ List.replicate (N.length - ds.length) none) with
    | ok d e =>
      rw [hm] at h
      exact fun v B' H' x r rp => h v B' H' ⟨x, r.fr, r.ex, r.nwG⟩ rp
    | err c e =>
      rw [hm] at h
      exact fun B' H' x r => h B' H' ⟨x, r.fr, r.ex, r.nwG⟩
    | bad => rw [hm] at h; exact h
end
/-- a(e, ..), a a local name that holds the lambda j -/
def vCallV (i n J : Nat) (Fs : Nat → List D → FR) (ms : Env → R (List D)) : M := fun e => R.bind (vVar i e) fun d e1 => match d with
  | .fn j => if j < J then vCall n (Fs j) ms e1 else .bad
  | _ => .bad
section
variable {X : Cx} {G : Gs} {a : Expr} {es : List Expr} {ms : Env → R (List D)} {i n k J : Nat} {Fs : Nat → List D → FR} {x : Str} {p p2 pos : Pos}
theorem le_callV (W : ∀ j, j < J → LamW X.prog X.w X.K X.mg X.base G.T G.xc j n k (Fs j)) (hr : Room k X.A) (tk : Takes X G.W) (hv : PE X (.Name x p) (tVar i)) (ho : G.O i = false) (ha : PA X (a :: es) (tA G ms))
    (he : starEach (a :: es) X.env = (false, eval a X.env) :: starEach es X.env := by rfl) (hpl : (backTo pos (starEach es X.env)).any (·.1) = false := by rfl) :
    PE X (.Call (.Name x p) (a :: es) [] pos) (tE G (vCallV i n J Fs ms)) := by
  refine ⟨fun pins s σ H Q I h => ?_⟩
  obtain ⟨Fr, B, e, rep, post⟩ := h
  have post : Post G Fr B σ (relE G) (vCallV i n J Fs ms e) Q := post
  unfold vCallV vVar at post
  cases hm : e[i]? with
  | none => rw [hm] at post; exact post.elim
  | some od =>
    rw [hm] at post
    cases od with
    | none => exact post.elim
    | some d =>
      cases d <;> try exact post.elim
      rename_i j
      have post : Post G Fr B σ (relE G) (if j < J then vCall n (Fs j) ms e else .bad) Q := post
      by_cases hj : j < J
      · rw [if_pos hj] at post
        obtain ⟨v, hs, rv⟩ := rep.sh i _ ho hm
        simp only [Rp] at rv
        obtain ⟨f, c, rfl, b1, b2⟩ := rv
        have obj : ∀ {B' H' : Hp} {s' : Shared}, Ex B B' → Ex B' H' → HOk X.prog X.w H' s'.heap → (G.T.fn j f c).1 s'.heap ∧ (G.T.fn j f c).2 s'.heap := fun {B' H' s'} x1 x2 hok =>
          ⟨(hok f _ (x2 _ _ (x1 _ _ b1))).1, (hok c _ (x2 _ _ (x1 _ _ b2))).1⟩
        refine wpAny_Call_Name_kw (thn (hv.run pins s σ H (fun v H1 => v = .ref f ∧ H1 = H) I ⟨.ref f, hs, rfl, rfl⟩) fun u s1 ⟨v, H1, I1, r1, q1⟩ => ?_)
        obtain ⟨ev, eH⟩ := q1
        subst ev
        subst eH
        obtain rfl : u = Value.ref f := r1
        refine PySem.W.callWith_F ((W j hj).obj f c _ (obj .rfl rep.ex I1.hok).1) (thn (ha.run pos pins s1 σ H1 _ I1 ⟨Fr, B, e, rep, Post.bind post⟩) fun us s2 ⟨vs, H2, I2, r2, q2⟩ => ?_) he hpl
        obtain ⟨B1, e1, ds, ex1, rep1, rl, post1⟩ := q2
        have o2 := obj ex1 rep1.ex I2.hok
        refine ⟨(W j hj).obj f c _ o2.1, ?_⟩
        by_cases hl : ds.length = n
        · rw [if_pos hl] at post1
          refine wpAny_call (codeAny_mono ((W j hj).run X.A X.stack s2 H2 us vs Q (WE G.W σ) f c hr I2.env0 o2.1 o2.2 r2 ⟨B1, ds, rep1.ex, rl, hl, ?_⟩) fun r s' hq => ?_)
          · cases hF : Fs j ds with
            | ok d b =>
              rw [hF] at post1
              exact fun v B' H' g rp => post1 v B' H' g.ex (rep1.grow g) rp
            | err c =>
              rw [hF] at post1
              exact fun B' H' g => post1 B' H' g.ex (rep1.grow g)
            | bad => rw [hF] at post1; exact post1.elim
          · cases r with
            | error er => exact passAt tk σ pins H2 s2 er s' I2 hq
            | ok fl =>
              cases fl with
              | ret u => exact I2.after hq
              | next => exact False.elim hq
              | brk => exact False.elim hq
              | cont => exact False.elim hq
        · rw [if_neg hl] at post1; exact post1.elim
      · rw [if_neg hj] at post; exact post.elim
end
end Fl

namespace Fl
open PySem PySem.Spec PyProof.Rows L2

/-! ## a lambda made: at the level of the law itself, its table of code objects in sight -/
def tabW (ps : Array Value) (pos : Pos) (c : Addr) : Array Value := ps ++ #[rawInt pos.line, rawInt pos.col, .ref c]
def afterLam (H : Hp) (P : Addr) (ps : Array Value) (pos : Pos) (q : Str) (params : Arguments) (body : Expr) (scope : Scope) (f c : Addr) : Hp := upd (upd (upd H P (.tbl (tabW ps pos c))) c (.ext (CdP q c))) f (.ext (LmP q params body scope f c))
def tLam (P : Addr) (q : Str) (params : Arguments) (body : Expr) (scope : Scope) (pos : Pos) : TE := fun σ H Q => ∃ ps : Array Value, H P = some (.tbl ps) ∧ TriplesOk ps.toList ∧ codeAmong pos ps.toList = none ∧ ∀ f c, H f = none → H c = none → f ≠ c → Q (.ref f) (afterLam H P ps pos q params body scope f c)
section
variable {X : Cx} {cd P : Addr} {q : Str} {params : Arguments} {body : Expr} {scope : Scope} {pos : Pos}
theorem pe_lam (TB : LamX.TabB X.base X.mg cd P) (hcode : X.env.code = .ref cd) (hq : X.env.qual ++ "<lambda>" = q) (hdef : defaultsOf params X.env = ([], [])) (hfree : ∀ y ∈ scope.names, y.2 ≠ .free) (hcl : cloFrom X.env.cells scope.names [] = []) :
    PE X (.Lambda params body scope pos) (tLam P q params body scope pos) := by
  refine ⟨fun pins s σ H Q I h => ?_⟩
  obtain ⟨ps, hP, ht, hc, q0⟩ := h
  subst hq
  refine PySem.W.kla_eval hdef ?_
  have bP : s.heap.BuiltinsAt X.mg P := TB.bm.keeps I.bk
  have hP' : s.heap.get? P = some { cls := .none, data := .fields ps } := I.hok P _ hP
  have hclo : closureFor scope X.env = pure [] := by
    have := closure_ok (scope := scope) (env := X.env) fun y hy e => absurd e (hfree y hy)
    rw [hcl] at this
    exact this
  refine PySem.W.kla_makeFunction (mg := X.mg) (c := cd) (P := P) (ps := ps) hclo I.ok.glob (I.mod.glob.keeps I.bk) hcode (TB.code.keeps I.bk) hP' ht hc TB.gP bP fun c' ctv h' tk hx hge hlt hrec htb => ?_
  obtain ⟨c2, oc, vs, t, e2, hoc, hd, hv⟩ := hrec
  cases e2
  have hsz : s.heap.objs.size ≤ h'.objs.size := Nat.le_trans hge (Nat.le_of_lt hlt)
  have nC : H c' = none := I.hok.fresh hge
  have I1 := LamX.inv_table (q := X.env.qual ++ "<lambda>") (t' := tk) (more := #[rawInt pos.line, rawInt pos.col, .ref c']) (h' := h') I hP hx htb hge ⟨oc, vs, t, hoc, hd, hv⟩
  refine ⟨.ref h'.objs.size, afterLam H P ps pos (X.env.qual ++ "<lambda>") params body scope h'.objs.size c', I1.laid (t' := tk) (fun b u e => Heap.get?_push_of_some _ e) (Nat.le_refl _) ?_, rfl, q0 _ c' (I.hok.fresh hsz) nC (Nat.ne_of_gt hlt)⟩
  exact ⟨⟨_, ctv, Heap.get?_push_size _ rfl⟩, ⟨_, Heap.get?_push_size _ rfl⟩, fun h1 h2 ⟨pm, ct, e⟩ st => ⟨pm, ct, st _ e⟩⟩
end
structure RepL (G : Gs) (F : Fm) (B : Hp) (σ : L2.St) (H : Hp) (e : Env) (P : Addr) (ps : Array Value) : Prop where
  rep : Rep G F B σ H e
  tb : H P = some (.tbl ps)
  ok : TriplesOk ps.toList
  nF : F.H0 P = none
  nB : B P = none
theorem RepL.lam {G : Gs} {F : Fm} {B : Hp} {σ : L2.St} {H : Hp} {e : Env} {P : Addr} {ps : Array Value} {f c : Addr} {pos : Pos} {q : Str} {params : Arguments} {body : Expr} {scope : Scope} (r : RepL G F B σ H e P ps) (hf : H f = none) (hc : H c = none) (hfc : f ≠ c) :
    ∃ B', Ex B B' ∧ RepL G F B' σ (afterLam H P ps pos q params body scope f c) e P (tabW ps pos c) ∧ B' f = some (.ext (LmP q params body scope f c)) ∧ B' c = some (.ext (CdP q c)) := by
  have fP : f ≠ P := fun z => by rw [z, r.tb] at hf; cases hf
  have cP : c ≠ P := fun z => by rw [z, r.tb] at hc; cases hc
  have Bf : B f = none := r.rep.ex.none hf
  have Bc : B c = none := r.rep.ex.none hc
  have x : Ex B (upd (upd B c (.ext (CdP q c))) f (.ext (LmP q params body scope f c))) := fun b o e => by
    rw [upd_ne (ne_of_none e Bf), upd_ne (ne_of_none e Bc)]
    exact e
  have old : ∀ b o, b ≠ P → H b = some o → afterLam H P ps pos q params body scope f c b = some o := fun b o hb e => by
    unfold afterLam
    rw [upd_ne (ne_of_none e hf), upd_ne (ne_of_none e hc), upd_ne hb]
    exact e
  refine ⟨upd (upd B c (.ext (CdP q c))) f (.ext (LmP q params body scope f c)), x, ⟨⟨fun b o e => ?_, fun b o e => ?_, r.rep.b0.trans x, fun p o e => ?_, fun i d h1 h2 => ?_, fun i d h1 h2 => ?_, r.rep.ne, r.rep.pt, r.rep.len⟩, ?_, ?_, r.nF, ?_⟩, upd_same, by rw [upd_ne (Ne.symm hfc), upd_same]⟩
  · by_cases h1 : b = f
    · subst h1
      rw [upd_same] at e
      unfold afterLam
      rw [upd_same]
      exact e
    · rw [upd_ne h1] at e
      by_cases h2 : b = c
      · subst h2
        rw [upd_same] at e
        unfold afterLam
        rw [upd_ne h1, upd_same]
        exact e
      · rw [upd_ne h2] at e
        exact old b o (ne_of_none e r.nB) (r.rep.ex b o e)
  · exact old b o (ne_of_none e r.nF) (r.rep.fr b o e)
  · by_cases h1 : p = f
    · subst h1
      exact .inr (.inl (r.rep.fr.none hf))
    · rw [upd_ne h1] at e
      by_cases h2 : p = c
      · subst h2
        exact .inr (.inl (r.rep.fr.none hc))
      · rw [upd_ne h2] at e
        exact r.rep.nw p o e
  · obtain ⟨v, g1, g2⟩ := r.rep.sh i d h1 h2
    exact ⟨v, g1, g2.mono x⟩
  · obtain ⟨p, o, g1, g2, g3, g4, g5⟩ := r.rep.ow i d h1 h2
    have pP : p ≠ P := fun z => by
      subst z
      rw [r.tb] at g4
      cases g4
      cases d <;> simp only [At, DnO, reduceCtorEq, false_and, and_false, exists_false, or_false] at g5
    refine ⟨p, o, g1, ?_, g3, old p o pP g4, g5.mono x⟩
    rw [upd_ne (ne_of_none g4 hf), upd_ne (ne_of_none g4 hc)]
    exact g2
  · unfold afterLam
    rw [upd_ne (Ne.symm fP), upd_ne (Ne.symm cP), upd_same]
  · have eL : (tabW ps pos c).toList = ps.toList ++ [rawInt pos.line, rawInt pos.col, .ref c] := by simp [tabW]
    rw [eL]
    exact PySem.TriplesOk_snoc _ _ _ _ r.ok
  · rw [upd_ne (Ne.symm fP), upd_ne (Ne.symm cP)]
    exact r.nB
end Fl

namespace Fl
open PySem PySem.Spec PyProof.Rows L2

/-! ## x = [lambda ..], x.append(lambda ..) -/
/-- slot i gets d; the lambda at pos was made -/
def tLamS (G : Gs) (P : Addr) (pos : Pos) (i : Nat) (new : Env → Option D) : TS := fun D σ H => ∃ F B e ps d, RepL G F B σ H e P ps ∧ codeAmong pos ps.toList = none ∧ new e = some d ∧
  ∀ B' σ' H' c, RepL G F B' σ' H' (e.set i (some d)) P (tabW ps pos c) → D.nx σ' H'
section
variable {X : Cx} {G : Gs} {cd P : Addr} {q : Str} {params : Arguments} {body : Expr} {scope : Scope} {lpos epos pos pos' p apos tpos : Pos} {i j : Nat} {x : Str}
theorem ls_lam1 (hl : PE X (.Lambda params body scope lpos) (tLam P q params body scope lpos)) (hT : ∀ f c, G.T.fn j f c = (LmP q params body scope f c, CdP q c)) (hN : X.N.Nodup) (hi : X.N[i]? = some x) (hx : Loc X.env.scope x) (ho : G.O i = true) (hio : i ≠ 0)
    (hs : swapsWith (.List [.Lambda params body scope lpos] epos) (some (.Name x pos')) pos.line X.env = pure false := by rfl) (hst : starEach [.Lambda params body scope lpos] X.env = (false, eval (.Lambda params body scope lpos) X.env) :: starEach [] X.env := by rfl) (hf : X.fn x = true ∨ X.env.scope.names.lookup x = some .local := by first | exact .inl rfl | exact .inr rfl | assumption) :
    PS X (.Assign [.Name x pos'] (.List [.Lambda params body scope lpos] epos) pos) (tLamS G P lpos i fun _ => some (.lst [.fn j])) :=
  ps_imp (ps_set hN hi hx (pe_lst (pa_cons hl pa_nil hst)) hs hf) fun D σ H h => by
    obtain ⟨F, B, e, ps, d, r, hc, hd, post⟩ := h
    cases hd
    refine ⟨ps, r.tb, r.ok, hc, fun f c hf hcn hfc => ?_⟩
    obtain ⟨B', x, r', b1, b2⟩ := r.lam (pos := lpos) (q := q) (params := params) (body := body) (scope := scope) hf hcn hfc
    refine ⟨by rw [sizeLine_eq]; show (1 : Nat) ≤ 16777216; decide, fun p hp => ?_⟩
    have z := new_F (o := .lst [.ref f]) (d := .lst [.fn j]) r'.rep hp (by
      simp only [At]
      refine ⟨_, rfl, .one ?_⟩
      simp only [Rp, hT]
      exact ⟨f, c, rfl, b1, b2⟩)
    obtain ⟨p', o', e1, h1, h2, h3, h4, h5⟩ := z.2
    cases e1
    refine post B' _ _ c ⟨z.1.take ho hio h1 h2 h3 h4 h5, ?_, r'.ok, r'.nF, r'.nB⟩
    rw [upd_ne (ne_of_none r'.tb hp)]
    exact r'.tb
theorem ls_lam2 (hl : PE X (.Lambda params body scope lpos) (tLam P q params body scope lpos)) (hT : ∀ f c, G.T.fn j f c = (LmP q params body scope f c, CdP q c)) (hv : PE X (.Name x p) (tVar i)) (ho : G.O i = true)
    (hs : swapsWith (.Call (.Attribute (.Name x p) "append" apos) [.Lambda params body scope lpos] [] pos) none tpos.line X.env = pure false := by rfl)
    (hbase : attributeBase (.Name x p) "append" X.env (eval (.Name x p) X.env) = eval (.Name x p) X.env := by rfl)
    (hfew : ((backTo pos (starEach [Expr.Lambda params body scope lpos] X.env)).all (fun x => !x.1) && (backToKw pos (keywordEach [] X.env)).all (fun x => x.1.isSome)
      && decide ([Expr.Lambda params body scope lpos].length + ([] : List Keyword).length + (if ([] : List Keyword).isEmpty then 0 else 1) < 30)) = true := by rfl)
    (hline : (apos.endLine == pos.line) = true := by rfl) (hst : starEach [.Lambda params body scope lpos] X.env = (false, eval (.Lambda params body scope lpos) X.env) :: starEach [] X.env := by rfl) (hplain : (backTo pos (starEach [] X.env)).any (·.1) = false := by rfl) :
    PS X (.Expr (.Call (.Attribute (.Name x p) "append" apos) [.Lambda params body scope lpos] [] pos) tpos) (tLamS G P lpos i fun e => match e[i]? with
      | some (some (.lst ds)) => if ds.length ≤ 100 then some (.lst (ds ++ [.fn j])) else none
      | _ => none) :=
  ps_imp (ps_expr (pe_bm PySem.F.plainAttrs_list PySem.F.slot_list_append PySem.F.type_list_append mt_append hv (pa_cons hl pa_nil hst) hbase hfew hline hst hplain) hs) fun D σ H h => by
    obtain ⟨F, B, e, ps, d, r, hc, hd, post⟩ := h
    dsimp only at hd
    split at hd
    · rename_i ds he
      split at hd
      · rename_i hle
        cases hd
        obtain ⟨b, xs0, h1, h2, _⟩ := own_at r.rep ho he
        refine ⟨.ref b, h1, .inl ⟨rfl, xs0, .of h2⟩, ps, r.tb, r.ok, hc, fun f c hf hcn hfc => ?_⟩
        obtain ⟨B', x, r', b1, b2⟩ := r.lam (pos := lpos) (q := q) (params := params) (body := body) (scope := scope) hf hcn hfc
        obtain ⟨xs, g1, g2⟩ := own_at' r'.rep ho h1 he
        refine ⟨b, xs, .ref f, rfl, rfl, g1, ?_, ?_⟩
        · rw [g2.length, sizeLine_eq]; omega
        · have rp : Rp G.T B' (.fn j) (.ref f) := by
            simp only [Rp, hT]
            exact ⟨f, c, rfl, b1, b2⟩
          refine post B' _ _ c ⟨r'.rep.put ho h1 he (by simp only [At]; exact ⟨_, rfl, g2.append (.one rp)⟩), ?_, r'.ok, r'.nF, r'.nB⟩
          have : P ≠ b := fun z => by
            subst z
            rw [r'.tb] at g1
            cases g1
          rw [upd_ne this]
          exact r'.tb
      · cases hd
    · cases hd
end
/-! ## the law that makes three lambdas behind its first loop -/
def lams3 : D := .lst [.fn 0, .fn 1, .fn 2]
def tLaw (G : Gs) (P : Addr) (ma mb : S) (i : Nat) : TS := fun Dn σ H => ∃ F B e e1 d e', Rep G F B σ H e ∧ F.H0 P = some (.tbl #[]) ∧ F.B0 P = none ∧ ma e = .nx e1 ∧ i < e1.length ∧ mb (e1.set i (some lams3)) = .rt d e' ∧ ∀ v B' H', Ex B' H' → Rp G.T B' d v → Dn.rt v H'
section
variable {X : Cx} {G : Gs} {P : Addr} {sa s1 s2 s3 : Stmt} {rest : List Stmt} {ma mb : S} {i : Nat} {p1 p2 p3 : Pos}
theorem ls_law3 (h0 : PS X sa (tS G (relE G) ma)) (h1 : PS X s1 (tLamS G P p1 i fun _ => some (.lst [.fn 0])))
    (h2 : PS X s2 (tLamS G P p2 i fun e => match e[i]? with | some (some (.lst ds)) => if ds.length ≤ 100 then some (.lst (ds ++ [.fn 1])) else none | _ => none))
    (h3 : PS X s3 (tLamS G P p3 i fun e => match e[i]? with | some (some (.lst ds)) => if ds.length ≤ 100 then some (.lst (ds ++ [.fn 2])) else none | _ => none))
    (hr : PSs X rest (tS G (relE G) mb)) (h12 : ∀ c, codeAmong p2 [rawInt p1.line, rawInt p1.col, .ref c] = none) (h13 : ∀ c c2, codeAmong p3 [rawInt p1.line, rawInt p1.col, .ref c, rawInt p2.line, rawInt p2.col, .ref c2] = none) : PSs X (sa :: s1 :: s2 :: s3 :: rest) (tLaw G P ma mb i) :=
  pss_imp (pss_cons h0 (pss_cons h1 (pss_cons h2 (pss_cons h3 hr)))) fun Dn σ H h => by
    obtain ⟨F, B, e, e1, d, e', rep, hP, hB, ha, hlen, hm, post⟩ := h
    refine ⟨F, B, e, rep, ?_⟩
    rw [ha]
    intro B1 σ1 H1 x1 r1
    have tb : H1 P = some (.tbl #[]) := r1.fr _ _ hP
    have nB : B1 P = none := by
      cases q : B1 P with
      | none => rfl
      | some o =>
        rcases r1.nw P o q with z | z | ⟨xs, z⟩
        · rw [hB] at z; cases z
        · rw [hP] at z; cases z
        · subst z
          have := r1.ex _ _ q
          rw [tb] at this
          cases this
    have r2 : Rep G ⟨without F.H0 P, F.B0, F.io⟩ B1 σ1 H1 e1 := by
      refine ⟨r1.ex, fun b o e => r1.fr b o (without_some e).2, r1.b0, fun p o e => ?_, r1.sh, fun k d h1 h2 => ?_, r1.ne, r1.pt, r1.len⟩
      · rcases r1.nw p o e with z | z | z
        · exact .inl z
        · refine .inr (.inl ?_)
          show without F.H0 P p = none
          unfold without
          split
          · rfl
          · exact z
        · exact .inr (.inr z)
      · obtain ⟨p, o, g1, g2, g3, g4, g5⟩ := r1.ow k d h1 h2
        refine ⟨p, o, g1, g2, ?_, g4, g5⟩
        show without F.H0 P p = none
        unfold without
        split
        · rfl
        · exact g3
    have R0 : RepL G ⟨without F.H0 P, F.B0, F.io⟩ B1 σ1 H1 e1 P #[] := ⟨r2, tb, trivial, by show without F.H0 P P = none; unfold without; rw [if_pos rfl], nB⟩
    refine ⟨_, _, _, _, _, R0, rfl, rfl, fun B2 σ2 H2 c1 R1 => ?_⟩
    have g1 : (e1.set i (some (.lst [D.fn 0])))[i]? = some (some (.lst [.fn 0])) := List.getElem?_set_self hlen
    refine ⟨_, _, _, _, .lst [.fn 0, .fn 1], R1, (by simpa [tabW] using h12 c1), by dsimp only; rw [g1]; rfl, fun B3 σ3 H3 c2 R2 => ?_⟩
    rw [List.set_set] at R2
    have g2 : (e1.set i (some (.lst [D.fn 0, D.fn 1])))[i]? = some (some (.lst [.fn 0, .fn 1])) := List.getElem?_set_self hlen
    refine ⟨_, _, _, _, .lst [.fn 0, .fn 1, .fn 2], R2, (by simpa [tabW] using h13 c1 c2), by dsimp only; rw [g2]; rfl, fun B4 σ4 H4 c3 R3 => ?_⟩
    rw [List.set_set] at R3
    refine ⟨_, _, _, R3.rep, ?_⟩
    unfold lams3 at hm
    rw [hm]
    exact fun B5 σ5 H5 v x r rp => post v B5 H5 r.ex rp
end
end Fl

namespace Fl
open PySem PySem.Spec PyProof.Rows L2

def stLam : Stmt → Expr
  | .Assign _ (.List (l :: _) _) _ => l
  | .Expr (.Call _ (l :: _) _ _) _ => l
  | _ => .Name "" ⟨0, 0, 0, 0⟩
def lamA : Expr → Arguments
  | .Lambda p _ _ _ => p
  | _ => defArgs (.Pass ⟨0, 0, 0, 0⟩)
def lamB : Expr → Expr
  | .Lambda _ b _ _ => b
  | e => e
def lamSc : Expr → Scope
  | .Lambda _ _ s _ => s
  | _ => defScope (.Pass ⟨0, 0, 0, 0⟩)
/-! ## odds: a choice in a suite, a dict of whole numbers written out -/
section
variable {X : Cx} {i : Nat} {a : Addr} {b : Bool} {e1 e2 c : Expr} {x y : V} {pos : Pos}
theorem kk_if (hc : PE X c (tK i a (.bl b))) (h1 : PE X e1 (tK i a x)) (h2 : PE X e2 (tK i a y)) (he : ∀ whole, isTrue c X.env whole = (do let v ← whole; standAt c.pos; holding [v] (truthy v)) := by intro _; rfl) :
    PE X (.IfExp c e1 e2 pos) (tK i a (if b then x else y)) :=
  pe_imp (pe_ifExp (pt_val hc he) h1 h2) fun σ H Q h => by
    refine ⟨h.1, b, rfl, ?_⟩
    cases b
    · exact ⟨h.1, h.2⟩
    · exact ⟨h.1, h.2⟩
end
def vDispI (kvs : List (Int × Int)) : M := fun e => .ok (.dct false (kvs.map fun p => .int p.1) (kvs.map fun p => .int p.2)) e
def trI (kvs : List (Int × Int)) : List (TE × TE) := kvs.map fun p => ((fun _ H Q => Q (.int p.1) H), (fun _ H Q => Q (.int p.2) H))
theorem tPairs_I (kvs : List (Int × Int)) {σ : L2.St} {H : Hp} {Q : List (V × V) → Hp → Prop} (h : Q (kvs.map fun p => (V.int p.1, V.int p.2)) H) : tPairs (trI kvs) σ H Q := by
  induction kvs generalizing Q with
  | nil => exact h
  | cons p kvs ih => exact ih h
section
variable {X : Cx} {G : Gs} {keys : List (Option Expr)} {values : List Expr} {pos : Pos}
theorem lf_dispI (kvs : List (Int × Int)) (h : PPs X pos keys values (trI kvs)) (hall : keys.all (·.isSome) = true) (hl : keys.length = values.length) (h0 : keys ≠ []) (h15 : keys.length ≤ 15) (hk : kvs.length ≤ 15)
    (hm : mergeK [] (kvs.map fun p => ((Sum.inl p.1 : Key), V.int p.2)) = kvs.map fun p => ((Sum.inl p.1 : Key), V.int p.2)) : PE X (.Dict keys values pos) (tF G (vDispI kvs)) :=
  pe_imp (pe_disp h hall hl h0 h15) fun σ H Q hq => by
    obtain ⟨F, B, e, rep, post⟩ := hq
    intro p hp
    refine tPairs_I kvs ⟨upd_same, kvs.map fun p => (Sum.inl p.1, V.int p.2), by rw [List.map_map]; rfl, by rw [List.length_map]; exact hk, ?_⟩
    rw [hm]
    have e1 : upd (upd H p (.dK [])) p (.dK (kvs.map fun p => ((Sum.inl p.1 : Key), V.int p.2))) = upd H p (.dK (kvs.map fun p => ((Sum.inl p.1 : Key), V.int p.2))) := by
      funext b
      by_cases hb : b = p
      · subst hb; rw [upd_same, upd_same]
      · rw [upd_ne hb, upd_ne hb, upd_ne hb]
    rw [e1]
    have z := new_F (o := .dK (kvs.map fun p => ((Sum.inl p.1 : Key), V.int p.2))) (d := .dct false (kvs.map fun p => .int p.1) (kvs.map fun p => .int p.2)) rep hp (by
      simp only [At]
      refine .inl ⟨trivial, _, rfl, by rw [List.map_map, List.map_map]; rfl, ?_⟩
      have : (kvs.map fun p => ((Sum.inl p.1 : Key), V.int p.2)).map (·.2) = (kvs.map (·.2)).map V.int := by rw [List.map_map, List.map_map]; rfl
      rw [this]
      have e2 : (kvs.map fun p => D.int p.2) = (kvs.map (·.2)).map D.int := by rw [List.map_map]; rfl
      rw [e2]
      exact rpl_ints _)
    exact post (.ref p) B _ .rfl z.1 z.2
end
/-! ## the law's end -/
def spLawT (K : PySem.W.Frag) (P0 : Addr) : Sp := fun vs H Q _ => ∃ (a : Addr) (ns : List Int), vs = [.ref a] ∧ SqL K H a (ns.map V.int) ∧ ns.length ≤ 63 ∧ H P0 = some (.tbl #[]) ∧ ∀ H', Q (.bl true) H'
theorem sql_without {K : PySem.W.Frag} {H : Hp} {a P0 : Addr} {xs : List V} (h : SqL K H a xs) (hP : H P0 = some (.tbl #[])) : SqL K (without H P0) a xs := by
  rcases h with h | h
  · rcases h with h | ⟨o, h⟩
    · exact .inl (.inl (without_ne (fun z => by rw [z, hP] at h; cases h) h))
    · exact .inl (.inr ⟨o, without_ne (fun z => by rw [z, hP] at h; cases h) h⟩)
  · exact .inr h
section
variable {P : Program} {w : World} {K : PySem.W.Frag} {mg : Str → Option Value} {base : Heap} {T : Tb} {xc : Nat → Value}
theorem fn_law3 {st : Stmt} {f c0 P0 : Addr} {N : List Str} {k i : Nat} {O : Nat → Bool} {ma mb : S} {oc kV doc pm ct : Value} {od an : Option Addr} {osl : Array (Option Value)} (hK : T.K = K)
    (lk : K.lookup f = some ⟨oc, od, .func (PySem.W.fnOf "law" "law" (defArgs st) (defBody st) (defScope st) .none kV doc pm an (.ref c0) ct), osl⟩) (hcd : PySem.W.codeIn K (.ref c0) "law" = true) (Sc : FnScope N ["script"] (defScope st)) (hN : 1 ≤ N.length) (hO : O 0 = false)
    (hbody : ∀ (A : Around) (outer : List PySem.Env) (s : Shared) (H : Hp) (E : XK), Bd (cxOf (L2.CX P w) P w K mg base N "law" (defScope st) f (.ref c0) A outer s H E) ⟨T, O, fun cls d _ H' => E cls d H', xc⟩ k →
      PSs (cxOf (L2.CX P w) P w K mg base N "law" (defScope st) f (.ref c0) A outer s H E) (defBody st) (tLaw ⟨T, O, fun cls d _ H' => E cls d H', xc⟩ P0 ma mb i))
    (hlaw : ∀ ns : List Int, ns.length ≤ 63 → ∃ e1 e', ma (some (.scr ns) :: List.replicate (N.length - 1) none) = .nx e1 ∧ i < e1.length ∧ mb (e1.set i (some lams3)) = .rt (.bl true) e') :
    FnOk P w K mg base (L2.CX P w) (k + 1) f (PySem.W.fnOf "law" "law" (defArgs st) (defBody st) (defScope st) .none kV doc pm an (.ref c0) ct) ["script"] (spLawT K P0) := by
  refine fn_of lk hcd Sc (fun vs H Q E h => ?_) fun A outer s H vs Q E hr h => ?_
  · obtain ⟨a, ns, rfl, _⟩ := h
    rfl
  · obtain ⟨a, ns, rfl, hS, hl, hP, q⟩ := h
    obtain ⟨e1, e', h1, h2, h3⟩ := hlaw ns hl
    refine ⟨_, hbody A outer s H E ⟨hr, takes_of rfl rfl rfl rfl, passes_of rfl⟩, ?_⟩
    have rl : RpL T (without H P0) [.scr ns] [.ref a] := .one (by simp only [Rp]; exact ⟨a, rfl, by rw [hK]; exact sql_without hS hP⟩)
    have rep := rep_start (G := ⟨T, O, fun cls d _ H' => E cls d H', xc⟩) (N := N) (B := without H P0) (H := H) (ds := [.scr ns]) (vs := [.ref a]) (fun b o e => (without_some e).2) rl hN (fun i hi => by
      have : i = 0 := by simpa using hi
      subst this
      exact hO)
    refine ⟨_, _, _, e1, .bl true, e', rep, hP, by show without H P0 P0 = none; unfold without; rw [if_pos rfl], h1, h2, h3, fun v B' H' x rp => ?_⟩
    have rp : v = .bl true := by simpa only [Rp] using rp
    rw [rp]
    exact q H'
end
end Fl

namespace Fl
open PySem PySem.Spec PyProof.Rows L2
def topS (i : Nat) : Stmt := PySem.Challenge.pw_staysons_k15_whole_shortest_results.main.body.getD i (.Pass ⟨0, 0, 0, 0⟩)
abbrev s_is_integer : Stmt := topS 7
abbrev N_is_integer : List Str := ["value", "low", "high"]
abbrev P_is_integer : List Str := ["value", "low", "high"]
abbrev O_is_integer : Nat → Bool := fun i => false
theorem sc_is_integer : FnScope N_is_integer P_is_integer (defScope s_is_integer) := ⟨rfl, rfl, rfl, by decide +kernel, rfl, by decide +kernel, by decide +kernel⟩
def m_is_integer : S := (sRet (vAnd (vIsi "int" (.val (vVar 0))) (vAnd (vNot (vIsi "bool" (.val (vVar 0)))) (vChain dLe dLe (vVar 1) (vVar 0) (vVar 2)))))
def F_is_integer : List D → FR := runF m_is_integer 0
abbrev s_after : Stmt := topS 8
abbrev N_after : List Str := ["standing", "letter", "stayed", "newcomer"]
abbrev P_after : List Str := ["standing", "letter"]
abbrev O_after : Nat → Bool := fun i => false
theorem sc_after : FnScope N_after P_after (defScope s_after) := ⟨rfl, rfl, rfl, by decide +kernel, rfl, by decide +kernel, by decide +kernel⟩
def m_after : S := (sSeq (sAsg (gT2 2 3) (vSl dSl (.val (vVar 0)) none (some (vC (.int 2)))))
  (sSeq (sIf (asB (vOp dEq (.val (vVar 1)) (.val (vC (.str "s"))))) (sRet (vOp dAdd (.val (vOp dAdd (.val (vTup (aCons (vVar 2) aNil))) (.val (vSl dSl (.val (vVar 0)) (some (vC (.int 2))) none)))) (.val (vTup (aCons (vVar 3) aNil))))) sNx)
  (sRet (vOp dAdd (.val (vOp dAdd (.val (vTup (aCons (vVar 3) aNil))) (.val (vSl dSl (.val (vVar 0)) (some (vC (.int 2))) none)))) (.val (vTup (aCons (vVar 2) aNil)))))))
def F_after : List D → FR := runF m_after 2
abbrev s_require_number : Stmt := topS 10
abbrev N_require_number : List Str := ["number", "low", "high"]
abbrev P_require_number : List Str := ["number", "low", "high"]
abbrev O_require_number : Nat → Bool := fun i => false
theorem sc_require_number : FnScope N_require_number P_require_number (defScope s_require_number) := ⟨rfl, rfl, rfl, by decide +kernel, rfl, by decide +kernel, by decide +kernel⟩
def m_require_number : S := (sIf (bNot (asB (vCall 3 F_is_integer (aCons (vVar 0) (aCons (vVar 1) (aCons (vVar 2) aNil)))))) (sRaise 2) sNx)
def F_require_number : List D → FR := runF m_require_number 0
abbrev s_are_players : Stmt := topS 12
abbrev N_are_players : List Str := ["players", "value", "player"]
abbrev P_are_players : List Str := ["players", "value"]
abbrev O_are_players : Nat → Bool := fun i => false
theorem sc_are_players : FnScope N_are_players P_are_players (defScope s_are_players) := ⟨rfl, rfl, rfl, by decide +kernel, rfl, by decide +kernel, by decide +kernel⟩
def m_are_players : S := (sRet (vAnd (vIsi "tuple" (.val (vVar 1))) (vB fAll [(.val (vLc (vIt itT (vVar 1)) (gN 2) tYesD (vCall 3 F_is_integer (aCons (vVar 2) (aCons (vC (.int 0)) (aCons (vOp dSub (.val (vVar 0)) (.val (vC (.int 1)))) aNil)))) ([(("player" : Str), 2)].map (·.2))))])))
def F_are_players : List D → FR := runF m_are_players 1
abbrev s_require_order : Stmt := topS 13
abbrev N_require_order : List Str := ["players", "standing"]
abbrev P_require_order : List Str := ["players", "standing"]
abbrev O_require_order : Nat → Bool := fun i => false
theorem sc_require_order : FnScope N_require_order P_require_order (defScope s_require_order) := ⟨rfl, rfl, rfl, by decide +kernel, rfl, by decide +kernel, by decide +kernel⟩
def m_require_order : S := (sIf (bOr (bNot (asB (vCall 2 F_are_players (aCons (vVar 0) (aCons (vVar 1) aNil))))) (asB (vOp dNe (.val (vB fSorted [(.val (vVar 1))])) (.val (vLstRg (vRg1 (vVar 0))))))) (sRaise 3) sNx)
def F_require_order : List D → FR := runF m_require_order 0
abbrev s_require_few : Stmt := topS 17
abbrev N_require_few : List Str := ["players"]
abbrev P_require_few : List Str := ["players"]
abbrev O_require_few : Nat → Bool := fun i => false
theorem sc_require_few : FnScope N_require_few P_require_few (defScope s_require_few) := ⟨rfl, rfl, rfl, by decide +kernel, rfl, by decide +kernel, by decide +kernel⟩
def m_require_few : S := (sIf (bNot (asB (vCall 3 F_is_integer (aCons (vVar 0) (aCons (vC (.int 3)) (aCons (vC (.int 6)) aNil)))))) (sRaise 1) sNx)
def F_require_few : List D → FR := runF m_require_few 0
abbrev s_count_ways : Stmt := topS 18
abbrev N_count_ways : List Str := ["players", "standing", "count", "known", "game", "later", "here", "letter", "there"]
abbrev P_count_ways : List Str := ["players", "standing", "count"]
abbrev O_count_ways : Nat → Bool := fun i => i == 3 || i == 5
theorem sc_count_ways : FnScope N_count_ways P_count_ways (defScope s_count_ways) := ⟨rfl, rfl, rfl, by decide +kernel, rfl, by decide +kernel, by decide +kernel⟩
def m_count_ways : S := (sSeq (sExpr (vCall 1 F_require_few (aCons (vVar 0) aNil)))
  (sSeq (sExpr (vCall 2 F_require_order (aCons (vVar 0) (aCons (vVar 1) aNil))))
  (sSeq (sExpr (vCall 3 F_require_number (aCons (vVar 2) (aCons (vC (.int 0)) (aCons (vC (.int 60)) aNil)))))
  (sSeq (sSet 3 (vDisp1 (vTupRg (vRg1 (vVar 0))) (vC (.int 1))))
  (sSeq (sFor (vRng1 (vVar 2)) (gN 4)
  (sSeq (sSet 5 (vC (.dct true [] [])))
  (sSeq (sForD 3 (gN 6)
  (sFor (vIt itT (vTup (aCons (vC (.str "s")) (aCons (vC (.str "n")) aNil)))) (gN 7)
  (sSeq (sSet 8 (vCall 2 F_after (aCons (vVar 6) (aCons (vVar 7) aNil))))
  (sDPut 5 (vVar 8) (vOp dAdd (.val (vGet2 (.own 5) (vVar 8) (vC (.int 0)))) (.val (vOp dDg (.val (vVar 3)) (.val (vVar 6)))))))))
  (sSet 3 (vMove 5)))))
  (sRet (vGet2 (.own 3) (vVar 1) (vC (.int 0)))))))))
def F_count_ways : List D → FR := runF m_count_ways 6
abbrev s_searched : Stmt := topS 19
abbrev N_searched : List Str := ["players", "standing", "start", "known", "layer", "later", "here", "letter", "there"]
abbrev P_searched : List Str := ["players", "standing"]
abbrev O_searched : Nat → Bool := fun i => i == 3 || i == 5
theorem sc_searched : FnScope N_searched P_searched (defScope s_searched) := ⟨rfl, rfl, rfl, by decide +kernel, rfl, by decide +kernel, by decide +kernel⟩
def m_searched : S := (sSeq (sSet 2 (vTupRg (vRg1 (vVar 0))))
  (sSeq (sPar [3, 4] [(true, (vDisp1 (vVar 2) (vC (.str "")))), (false, (vLst (aCons (vVar 2) aNil)))])
  (sSeq (sWhile 1000 (asB (vOp dIsNotIn (.val (vVar 1)) (.own 3)))
  (sSeq (sSet 5 (vLst aNil))
  (sSeq (sFor (vIt itL (vVar 4)) (gN 6)
  (sFor (vIt itT (vTup (aCons (vC (.str "s")) (aCons (vC (.str "n")) aNil)))) (gN 7)
  (sSeq (sSet 8 (vCall 2 F_after (aCons (vVar 6) (aCons (vVar 7) aNil))))
  (sIf (asB (vOp dIsNotIn (.val (vVar 8)) (.own 3))) (sSeq (sDPut 3 (vVar 8) (vOp dAdd (.val (vOp dDg (.own 3) (.val (vVar 6)))) (.val (vVar 7))))
  (sExpr (vAppend 5 (vVar 8)))) sNx))))
  (sSet 4 (vMove 5)))))
  (sRet (vOp dDg (.own 3) (.val (vVar 1)))))))
def F_searched : List D → FR := runF m_searched 7
abbrev s_fewest_games : Stmt := topS 20
abbrev N_fewest_games : List Str := ["players", "standing"]
abbrev P_fewest_games : List Str := ["players", "standing"]
abbrev O_fewest_games : Nat → Bool := fun i => false
theorem sc_fewest_games : FnScope N_fewest_games P_fewest_games (defScope s_fewest_games) := ⟨rfl, rfl, rfl, by decide +kernel, rfl, by decide +kernel, by decide +kernel⟩
def m_fewest_games : S := (sSeq (sExpr (vCall 1 F_require_few (aCons (vVar 0) aNil)))
  (sSeq (sExpr (vCall 2 F_require_order (aCons (vVar 0) (aCons (vVar 1) aNil))))
  (sRet (vB fLen [(.val (vCall 2 F_searched (aCons (vVar 0) (aCons (vVar 1) aNil))))]))))
def F_fewest_games : List D → FR := runF m_fewest_games 0
abbrev s_shortest_results : Stmt := topS 21
abbrev N_shortest_results : List Str := ["players", "standing"]
abbrev P_shortest_results : List Str := ["players", "standing"]
abbrev O_shortest_results : Nat → Bool := fun i => false
theorem sc_shortest_results : FnScope N_shortest_results P_shortest_results (defScope s_shortest_results) := ⟨rfl, rfl, rfl, by decide +kernel, rfl, by decide +kernel, by decide +kernel⟩
def m_shortest_results : S := (sSeq (sExpr (vCall 1 F_require_few (aCons (vVar 0) aNil)))
  (sSeq (sExpr (vCall 2 F_require_order (aCons (vVar 0) (aCons (vVar 1) aNil))))
  (sRet (vCall 2 F_searched (aCons (vVar 0) (aCons (vVar 1) aNil))))))
def F_shortest_results : List D → FR := runF m_shortest_results 0
abbrev s__law_bag : Stmt := topS 23
abbrev N__law_bag : List Str := ["script", "k", "cell", "seed"]
abbrev P__law_bag : List Str := ["script", "k"]
abbrev O__law_bag : Nat → Bool := fun i => false
theorem sc__law_bag : FnScope N__law_bag P__law_bag (defScope s__law_bag) := ⟨rfl, rfl, rfl, by decide +kernel, rfl, by decide +kernel, by decide +kernel⟩
def m__law_bag : S := (sSeq (sSet 2 (vC (.int 0)))
  (sSeq (sIf (asB (vOp dLt (.val (vVar 1)) (.val (vB fLen [(.val (vVar 0))])))) (sSet 2 (vOp dMod (.val (vOp dIx (.val (vVar 0)) (.val (vVar 1)))) (.val (vOp dPow (.val (vC (.int 10))) (.val (vC (.int 60))))))) sNx)
  (sSeq (sSet 3 (vOp dAdd (.val (vC (.int 1))) (.val (vOp dMod (.val (vOp dAdd (.val (vOp dAdd (.val (vOp dAdd (.val (vOp dMul (.val (vOp dMod (.val (vVar 2)) (.val (vC (.int 2147483629))))) (.val (vC (.int 16807))))) (.val (vOp dMul (.val (vOp dMul (.val (vC (.int 40009))) (.val (vVar 1)))) (.val (vVar 1)))))) (.val (vOp dMul (.val (vC (.int 7919))) (.val (vVar 1)))))) (.val (vC (.int 1009))))) (.val (vC (.int 2147483645)))))))
  (sSeq (sIf (asB (vOp dLt (.val (vVar 2)) (.val (vOp dPow (.val (vC (.int 10))) (.val (vC (.int 18))))))) (sRet (vLst (aCons (vC (.int 0)) (aCons (vVar 3) aNil)))) sNx)
  (sRet (vLst (aCons (vVar 2) (aCons (vVar 3) aNil))))))))
def F__law_bag : List D → FR := runFN m__law_bag 2
abbrev s__law_take : Stmt := topS 24
abbrev N__law_take : List Str := ["bag", "count", "found"]
abbrev P__law_take : List Str := ["bag", "count"]
abbrev O__law_take : Nat → Bool := fun i => i == 0
theorem sc__law_take : FnScope N__law_take P__law_take (defScope s__law_take) := ⟨rfl, rfl, rfl, by decide +kernel, rfl, by decide +kernel, by decide +kernel⟩
def m__law_take : S := (sSeq (sIf (asB (vOp dGt (.val (vOp dIx (.own 0) (.val (vC (.int 0))))) (.val (vC (.int 0))))) (sSeq (sSet 2 (vOp dMod (.val (vOp dIx (.own 0) (.val (vC (.int 0))))) (.val (vVar 1))))
  (sSeq (sSetIx 0 (vC (.int 0)) (vOp dFdiv (.val (vOp dIx (.own 0) (.val (vC (.int 0))))) (.val (vVar 1))))
  (sRet (vVar 2)))) sNx)
  (sSeq (sSetIx 0 (vC (.int 1)) (vOp dMod (.val (vOp dMul (.val (vOp dIx (.own 0) (.val (vC (.int 1))))) (.val (vC (.int 48271))))) (.val (vC (.int 2147483647)))))
  (sRet (vOp dMod (.val (vOp dFdiv (.val (vOp dMod (.val (vOp dMul (.val (vOp dFdiv (.val (vOp dIx (.own 0) (.val (vC (.int 1))))) (.val (vC (.int 13))))) (.val (vOp dAdd (.val (vOp dMod (.val (vOp dIx (.own 0) (.val (vC (.int 1))))) (.val (vC (.int 32749))))) (.val (vC (.int 17))))))) (.val (vC (.int 2147483629))))) (.val (vC (.int 32))))) (.val (vVar 1))))))
def F__law_take : List D → FR := runFB m__law_take 1
abbrev s__law_of : Stmt := topS 25
abbrev N__law_of : List Str := ["bag", "some"]
abbrev P__law_of : List Str := ["bag", "some"]
abbrev O__law_of : Nat → Bool := fun i => i == 0
theorem sc__law_of : FnScope N__law_of P__law_of (defScope s__law_of) := ⟨rfl, rfl, rfl, by decide +kernel, rfl, by decide +kernel, by decide +kernel⟩
def m__law_of : S := (sRet (vOp dIx (.val (vVar 1)) (.val (vCallB 2 F__law_take 0 (aCons (vB fLen [(.val (vVar 1))]) aNil)))))
def F__law_of : List D → FR := runFB m__law_of 0
abbrev s__law_played : Stmt := topS 26
abbrev N__law_played : List Str := ["many", "results", "stayed", "queue", "found", "letter", "newcomer"]
abbrev P__law_played : List Str := ["many", "results"]
abbrev O__law_played : Nat → Bool := fun i => i == 3 || i == 4
theorem sc__law_played : FnScope N__law_played P__law_played (defScope s__law_played) := ⟨rfl, rfl, rfl, by decide +kernel, rfl, by decide +kernel, by decide +kernel⟩
def m__law_played : S := (sSeq (sPar [2, 3, 4] [(false, (vC (.int 0))), (true, (vLstRg (vRg2 (vC (.int 1)) (vVar 0)))), (true, (vLst aNil))])
  (sSeq (sFor (vIt itS (vVar 1)) (gN 5)
  (sSeq (sSet 6 (vPopAt 3 (vC (.int 0))))
  (sSeq (sExpr (vAppend 4 (vTup (aCons (vVar 2) (aCons (vVar 6) aNil)))))
  (sSeq (sExpr (vAppend 3 (vIf (asB (vOp dEq (.val (vVar 5)) (.val (vC (.str "s"))))) (vVar 6) (vVar 2))))
  (sSet 2 (vIf (asB (vOp dEq (.val (vVar 5)) (.val (vC (.str "s"))))) (vVar 2) (vVar 6)))))))
  (sRet (vTup (aCons (vMove 4) (aCons (vB fTuple [(.val (vOp dAdd (.val (vLst (aCons (vVar 2) aNil))) (.own 3)))]) aNil))))))
def F__law_played : List D → FR := runF m__law_played 5
abbrev s__law_first : Stmt := topS 28
abbrev N__law_first : List Str := ["many", "start", "found", "layer", "count", "later", "standing", "one", "other", "there"]
abbrev P__law_first : List Str := ["many"]
abbrev O__law_first : Nat → Bool := fun i => i == 2 || i == 5
theorem sc__law_first : FnScope N__law_first P__law_first (defScope s__law_first) := ⟨rfl, rfl, rfl, by decide +kernel, rfl, by decide +kernel, by decide +kernel⟩
def m__law_first : S := (sSeq (sSet 1 (vTupRg (vRg1 (vVar 0))))
  (sSeq (sPar [2, 3, 4] [(true, (vDisp1 (vVar 1) (vC (.int 0)))), (false, (vLst (aCons (vVar 1) aNil))), (false, (vC (.int 0)))])
  (sSeq (sWhile 1000 (asB (vOp dNe (.val (vVar 3)) (.val (vLst aNil))))
  (sSeq (sPar [4, 5] [(false, (vOp dAdd (.val (vVar 4)) (.val (vC (.int 1))))), (true, (vLst aNil))])
  (sSeq (sFor (vIt itL (vVar 3)) (gN 6)
  (sFor (vIt itT (vTup (aCons (vTup (aCons (vC (.int 0)) (aCons (vC (.int 1)) aNil))) (aCons (vTup (aCons (vC (.int 1)) (aCons (vC (.int 0)) aNil))) aNil)))) (gT2 7 8)
  (sSeq (sSet 9 (vOp dAdd (.val (vOp dAdd (.val (vTup (aCons (vOp dIx (.val (vVar 6)) (.val (vVar 7))) aNil))) (.val (vSl dSl (.val (vVar 6)) (some (vC (.int 2))) none)))) (.val (vTup (aCons (vOp dIx (.val (vVar 6)) (.val (vVar 8))) aNil)))))
  (sIf (asB (vOp dIsNotIn (.val (vVar 9)) (.own 2))) (sSeq (sDPut 2 (vVar 9) (vVar 4))
  (sExpr (vAppend 5 (vVar 9)))) sNx))))
  (sSet 3 (vMove 5)))))
  (sRet (vMove 2)))))
def F__law_first : List D → FR := runFN m__law_first 9
def lm_0 : M := (vCall 2 F_fewest_games (aCons (vVar 0) (aCons (vC .non) aNil)))
def L_0 : List D → FR := runE lm_0 0
def lm_1 : M := (vCall 2 F_shortest_results (aCons (vVar 0) (aCons (vC .non) aNil)))
def L_1 : List D → FR := runE lm_1 0
def lm_2 : M := (vCall 3 F_count_ways (aCons (vVar 0) (aCons (vC .non) (aCons (vC .non) aNil))))
def L_2 : List D → FR := runE lm_2 0
def lamF : Nat → List D → FR
  | 0 => L_0
  | 1 => L_1
  | _ => L_2
abbrev lamSt (j : Nat) : Stmt := (defBody (topS 30)).getD (j + 1) (.Pass ⟨0, 0, 0, 0⟩)
abbrev lamE (j : Nat) : Expr := stLam (lamSt j)
abbrev lamQ : Str := (("law" : Str) ++ ".<locals>.") ++ "<lambda>"
def lamT : Nat → Addr → Addr → (Heap → Prop) × (Heap → Prop) := fun j f c => (LmP lamQ (lamA (lamE j)) (lamB (lamE j)) (lamSc (lamE j)) f c, CdP lamQ c)
theorem scl_0 : FnScope ["one"] ["one"] (lamSc (lamE 0)) := ⟨rfl, rfl, rfl, by decide +kernel, rfl, by decide +kernel, by decide +kernel⟩
theorem scl_1 : FnScope ["one"] ["one"] (lamSc (lamE 1)) := ⟨rfl, rfl, rfl, by decide +kernel, rfl, by decide +kernel, by decide +kernel⟩
theorem scl_2 : FnScope ["one"] ["one"] (lamSc (lamE 2)) := ⟨rfl, rfl, rfl, by decide +kernel, rfl, by decide +kernel, by decide +kernel⟩
abbrev s__law_error : Stmt := topS 29
abbrev N__law_error : List Str := ["call", "many", "e"]
abbrev P__law_error : List Str := ["call", "many"]
abbrev O__law_error : Nat → Bool := fun i => false
theorem sc__law_error : FnScope N__law_error P__law_error (defScope s__law_error) := ⟨rfl, rfl, rfl, by decide +kernel, rfl, by decide +kernel, by decide +kernel⟩
def m__law_error : S := (sSeq (sTryR 2 [1] (fun c => if tw c 1 then .str "players" else .str "other")
  (sExpr (vCallV 0 1 3 lamF (aCons (vVar 1) aNil))))
  (sRet (vC (.str "none"))))
def F__law_error : List D → FR := runF m__law_error 1
abbrev s_law : Stmt := topS 30
abbrev N_law : List Str := ["script", "k", "calls", "odd", "bag", "many", "first", "rows", "turn", "standing", "told", "text", "call"]
abbrev P_law : List Str := ["script"]
abbrev O_law : Nat → Bool := fun i => i == 2 || i == 4 || i == 6
theorem sc_law : FnScope N_law P_law (defScope s_law) := ⟨rfl, rfl, rfl, by decide +kernel, rfl, by decide +kernel, by decide +kernel⟩
def ma_law : S := (sFor (vRng1 (vOp dAdd (.val (vB fMin2 [(.val (vB fLen [(.val (vVar 0))])), (.val (vC (.int 3)))])) (.val (vC (.int 2))))) (gN 1)
  (sSeq (sSet 4 (vCall 2 F__law_bag (aCons (vVar 0) (aCons (vVar 1) aNil))))
  (sSeq (sSet 5 (vOp dIx (.val (vLst (aCons (vC (.int 3)) (aCons (vC (.int 4)) (aCons (vC (.int 5)) (aCons (vC (.int 6)) aNil)))))) (.val (vCallB 2 F__law_take 4 (aCons (vC (.int 4)) aNil)))))
  (sSeq (sSet 6 (vCall 1 F__law_first (aCons (vVar 5) aNil)))
  (sSeq (sSet 7 (vB fSortTD [(.own 6)]))
  (sSeq (sIf (asB (vOp dNe (.val (vB fLen [(.val (vVar 7))])) (.val (vOp dDg (.val (vDispI [(3, 6), (4, 24), (5, 120), (6, 720)])) (.val (vVar 5)))))) (sRet (vC (.bl false))) sNx)
  (sFor (vRng1 (vC (.int 6))) (gN 8)
  (sSeq (sSet 9 (vCallB 2 F__law_of 4 (aCons (vVar 7) aNil)))
  (sSeq (sPar [10, 11] [(false, (vCall 2 F_fewest_games (aCons (vVar 5) (aCons (vVar 9) aNil)))), (false, (vCall 2 F_shortest_results (aCons (vVar 5) (aCons (vVar 9) aNil))))])
  (sSeq (sIf (bOr (asB (vOp dNe (.val (vVar 10)) (.val (vOp dDg (.own 6) (.val (vVar 9)))))) (bOr (asB (vIsi "bool" (.val (vVar 10)))) (asB (vOp dNe (.val (vB fLen [(.val (vVar 11))])) (.val (vVar 10)))))) (sRet (vC (.bl false))) sNx)
  (sSeq (sIf (asB (vOp dNe (.val (vOp dIx (.val (vCall 2 F__law_played (aCons (vVar 5) (aCons (vVar 11) aNil)))) (.val (vC (.int 1))))) (.val (vVar 9)))) (sRet (vC (.bl false))) sNx)
  (sSeq (sIf (asB (vOp dLt (.val (vCall 3 F_count_ways (aCons (vVar 5) (aCons (vVar 9) (aCons (vB fMin2 [(.val (vC (.int 60))), (.val (vVar 10))]) aNil))))) (.val (vB fInt [(.val (vOp dLt (.val (vVar 10)) (.val (vC (.int 61)))))])))) (sRet (vC (.bl false))) sNx)
  (sIf (bAnd (asB (vOp dGt (.val (vVar 10)) (.val (vC (.int 0))))) (asB (vOp dNe (.val (vCall 3 F_count_ways (aCons (vVar 5) (aCons (vVar 9) (aCons (vB fMin2 [(.val (vC (.int 60))), (.val (vOp dSub (.val (vVar 10)) (.val (vC (.int 1)))))]) aNil))))) (.val (vC (.int 0)))))) (sRet (vC (.bl false))) sNx)))))))))))))
def mb_law : S := (sSeq (sFor (vIt itL (vLst (aCons (vC (.int 7)) (aCons (vC (.int 12)) (aCons (vC (.int 2)) (aCons (vC .non) (aCons (vC (.bl true)) aNil))))))) (gN 3)
  (sIf (asB (vOp dNe (.val (vLcO 2 (gN 12) tYesD (vCall 2 F__law_error (aCons (vVar 12) (aCons (vVar 3) aNil))) ([(("call" : Str), 12)].map (·.2)))) (.val (vOp dMul (.val (vLst (aCons (vC (.str "players")) aNil))) (.val (vC (.int 3))))))) (sRet (vC (.bl false))) sNx))
  (sSeq (sIf (bOr (asB (vOp dNe (.val (vCall 2 F_fewest_games (aCons (vC (.int 4)) (aCons (vTup (aCons (vC (.int 1)) (aCons (vC (.int 0)) (aCons (vC (.int 3)) (aCons (vC (.int 2)) aNil))))) aNil)))) (.val (vC (.int 4))))) (asB (vOp dNe (.val (vCall 2 F_fewest_games (aCons (vC (.int 4)) (aCons (vTup (aCons (vC (.int 0)) (aCons (vC (.int 1)) (aCons (vC (.int 2)) (aCons (vC (.int 3)) aNil))))) aNil)))) (.val (vC (.int 0)))))) (sRet (vC (.bl false))) sNx)
  (sRet (vOp dEq (.val (vCall 2 F_shortest_results (aCons (vC (.int 4)) (aCons (vTup (aCons (vC (.int 1)) (aCons (vC (.int 0)) (aCons (vC (.int 3)) (aCons (vC (.int 2)) aNil))))) aNil)))) (.val (vC (.str "snsn")))))))
end Fl

namespace Fl
open PySem PySem.Spec PyProof.Rows L2
section
variable {P : Program} {w : World} {K : PySem.W.Frag} {mg : Str → Option Value} {base : Heap} {fn : Nat → Addr → Addr → (Heap → Prop) × (Heap → Prop)} {cls : Nat → Addr} {flds : Nat → List Str} {xc : Nat → Value}
theorem ok_is_integer {f : Addr} {fd : FuncData} (Fd : Fun K "is_integer" "is_integer" s_is_integer f fd) (tx_n_bool : mg "bool" = none) (tx_n_int : mg "int" = none) (tx_n_isinstance : mg "isinstance" = none) :
    FnOk P w K mg base (L2.CX P w) 1 f fd P_is_integer (spF ⟨K, fn, cls, flds, NestedKey.hash w⟩ xc 3 F_is_integer) :=
  fn_lift (xc := xc) (k := 0) (O := O_is_integer) (N := N_is_integer) Fd sc_is_integer rfl (by decide) (by decide) fun cdv A outer s H E bd => (ls_one (ls_ret (le_and (le_isi rfl (po_val (le_var (pv 0) rfl)) tx_n_isinstance tx_n_int rfl rfl rfl rfl) (le_and (le_not (le_isi rfl (po_val (le_var (pv 0) rfl)) tx_n_isinstance tx_n_bool rfl rfl rfl rfl)) (le_one (le_chain op_le op_le od_rel od_rel (le_var (pv 1) rfl) (le_var (pv 0) rfl) (le_var (pv 2) rfl) rfl))))))
theorem ok_after {f : Addr} {fd : FuncData} (Fd : Fun K "after" "after" s_after f fd)  :
    FnOk P w K mg base (L2.CX P w) 1 f fd P_after (spF ⟨K, fn, cls, flds, NestedKey.hash w⟩ xc 2 F_after) :=
  fn_lift (xc := xc) (k := 0) (O := O_after) (N := N_after) Fd sc_after rfl (by decide) (by decide) fun cdv A outer s H E bd => (ls_cons (ls_asg (le_slice rfl (po_val (le_var (pv 0) rfl)) lp_none (lp_some le_int)) (lg_tup2 (i := 2) (j := 3) rfl sc_after.nd rfl rfl (Or.inl rfl) (Or.inl rfl) rfl rfl))
  (ls_cons (ls_if (lt_cmp (op_eqG (hu64 bd.hr)) od_eq (po_val (le_var (pv 1) rfl)) (po_val le_str) rfl) (ls_one (ls_ret (le_op op_addG od_add (po_val (le_op op_addG od_add (po_val (le_tup (la_cons (le_var (pv 2) rfl) la_nil))) (po_val (le_slice rfl (po_val (le_var (pv 0) rfl)) (lp_some le_int) lp_none)))) (po_val (le_tup (la_cons (le_var (pv 3) rfl) la_nil)))))) ls_nil)
  (ls_one (ls_ret (le_op op_addG od_add (po_val (le_op op_addG od_add (po_val (le_tup (la_cons (le_var (pv 3) rfl) la_nil))) (po_val (le_slice rfl (po_val (le_var (pv 0) rfl)) (lp_some le_int) lp_none)))) (po_val (le_tup (la_cons (le_var (pv 2) rfl) la_nil))))))))
theorem ok_require_number {f : Addr} {fd : FuncData} (Fd : Fun K "require_number" "require_number" s_require_number f fd) (tx_w_is_integer : FnW P w K mg base (spF ⟨K, fn, cls, flds, NestedKey.hash w⟩ xc 3 F_is_integer) "is_integer" 1) {C_InvalidNumber : Addr} (tx_x_InvalidNumber : Exc K mg "InvalidNumber" C_InvalidNumber) (hx_InvalidNumber : xc 2 = .ref C_InvalidNumber) :
    FnOk P w K mg base (L2.CX P w) 2 f fd P_require_number (spF ⟨K, fn, cls, flds, NestedKey.hash w⟩ xc 3 F_require_number) :=
  fn_lift (xc := xc) (k := 1) (O := O_require_number) (N := N_require_number) Fd sc_require_number rfl (by decide) (by decide) fun cdv A outer s H E bd => (ls_one (ls_if (lt_not (lt_val (le_call tx_w_is_integer (bd.hr.mono (j := 1) (by decide)) bd.tk (la_cons (le_var (pv 0) rfl) (la_cons (le_var (pv 1) rfl) (la_cons (le_var (pv 2) rfl) la_nil))) rfl))) (ls_one (ls_raise rfl bd.tk PySem.F.excBase_ValueError tx_x_InvalidNumber.ex tx_x_InvalidNumber.g tx_x_InvalidNumber.kp (raises_own tx_x_InvalidNumber.sb tx_x_InvalidNumber.ty) hx_InvalidNumber rfl)) ls_nil))
theorem ok_are_players {f : Addr} {fd : FuncData} (Fd : Fun K "are_players" "are_players" s_are_players f fd) (tx_n_all : mg "all" = none) (tx_n_isinstance : mg "isinstance" = none) (tx_n_tuple : mg "tuple" = none) (tx_w_is_integer : FnW P w K mg base (spF ⟨K, fn, cls, flds, NestedKey.hash w⟩ xc 3 F_is_integer) "is_integer" 1) :
    FnOk P w K mg base (L2.CX P w) 2 f fd P_are_players (spF ⟨K, fn, cls, flds, NestedKey.hash w⟩ xc 2 F_are_players) :=
  fn_lift (xc := xc) (k := 1) (O := O_are_players) (N := N_are_players) Fd sc_are_players rfl (by decide) (by decide) fun cdv A outer s H E bd => (ls_one (ls_ret (le_and (le_isi rfl (po_val (le_var (pv 1) rfl)) tx_n_isinstance tx_n_tuple rfl rfl rfl rfl) (le_one (le_callB (cr_all rfl) cd_all tx_n_all (by rfl) (lao_cons (po_val (le_of_f (lf_lc (own := [(("player" : Str), 2)]) (f := (gN 2)) (tt := tYesD) (te := (vCall 3 F_is_integer (aCons (vVar 2) (aCons (vC (.int 0)) (aCons (vOp dSub (.val (vVar 0)) (.val (vC (.int 1)))) aNil))))) rfl sc_are_players.nd (li_tup (le_var (pv 1) rfl) rfl) (blkOk_by (N := N_are_players) (sc := defScope s_are_players) (by decide +kernel)) (show ∀ v ∈ ([2] : List Nat), O_are_players v = false from by decide) (tg_name (i := 2) (by decide) rfl) (fun _ _ _ _ _ => pg_name (i := 2) sc_are_players.nd rfl (Or.inl rfl)) (fun _ _ _ _ _ => lts_nil) (fun _ _ _ _ _ => (le_call tx_w_is_integer (bd.hr.mono (j := 1) (by decide)) (takes_nox _) (la_cons (le_var (pv 2) rfl) (la_cons le_int (la_cons (le_op op_sub od_sub (po_val (le_var (pv 0) rfl)) (po_val le_int)) la_nil))) rfl))))) lao_nil) rfl)))))
theorem ok_require_order {f : Addr} {fd : FuncData} (Fd : Fun K "require_order" "require_order" s_require_order f fd) (tx_n_list : mg "list" = none) (tx_n_range : mg "range" = none) (tx_n_sorted : mg "sorted" = none) (tx_w_are_players : FnW P w K mg base (spF ⟨K, fn, cls, flds, NestedKey.hash w⟩ xc 2 F_are_players) "are_players" 2) {C_InvalidOrder : Addr} (tx_x_InvalidOrder : Exc K mg "InvalidOrder" C_InvalidOrder) (hx_InvalidOrder : xc 3 = .ref C_InvalidOrder) :
    FnOk P w K mg base (L2.CX P w) 3 f fd P_require_order (spF ⟨K, fn, cls, flds, NestedKey.hash w⟩ xc 2 F_require_order) :=
  fn_lift (xc := xc) (k := 2) (O := O_require_order) (N := N_require_order) Fd sc_require_order rfl (by decide) (by decide) fun cdv A outer s H E bd => (ls_one (ls_if (lt_pw (lw_or (lt_not (lt_val (le_call tx_w_are_players (bd.hr.mono (j := 2) (by decide)) bd.tk (la_cons (le_var (pv 0) rfl) (la_cons (le_var (pv 1) rfl) la_nil)) rfl))) (lw_or1 (lt_cmp (op_neG (hu64 bd.hr)) od_ne (po_val (le_of_f (lf_callB (cr_sortI (hu64 bd.hr)) cf_sorted tx_n_sorted (by rfl) (lao_cons (po_val (le_var (pv 1) rfl)) lao_nil) rfl))) (po_val (le_of_f (lf_listRg tx_n_list rfl (lrg_1 tx_n_range (le_var (pv 0) rfl) rfl) rfl))) rfl)))) (ls_one (ls_raise rfl bd.tk PySem.F.excBase_ValueError tx_x_InvalidOrder.ex tx_x_InvalidOrder.g tx_x_InvalidOrder.kp (raises_own tx_x_InvalidOrder.sb tx_x_InvalidOrder.ty) hx_InvalidOrder rfl)) ls_nil))
theorem ok_require_few {f : Addr} {fd : FuncData} (Fd : Fun K "require_few" "require_few" s_require_few f fd) (tx_g_FEWEST : ∃ t, mg "FEWEST" = some (.int 3 t)) (tx_g_SEARCHED : ∃ t, mg "SEARCHED" = some (.int 6 t)) (tx_w_is_integer : FnW P w K mg base (spF ⟨K, fn, cls, flds, NestedKey.hash w⟩ xc 3 F_is_integer) "is_integer" 1) {C_InvalidPlayers : Addr} (tx_x_InvalidPlayers : Exc K mg "InvalidPlayers" C_InvalidPlayers) (hx_InvalidPlayers : xc 1 = .ref C_InvalidPlayers) :
    FnOk P w K mg base (L2.CX P w) 2 f fd P_require_few (spF ⟨K, fn, cls, flds, NestedKey.hash w⟩ xc 1 F_require_few) :=
  fn_lift (xc := xc) (k := 1) (O := O_require_few) (N := N_require_few) Fd sc_require_few rfl (by decide) (by decide) fun cdv A outer s H E bd => (ls_one (ls_if (lt_not (lt_val (le_call tx_w_is_integer (bd.hr.mono (j := 1) (by decide)) bd.tk (la_cons (le_var (pv 0) rfl) (la_cons (le_gint tx_g_FEWEST rfl) (la_cons (le_gint tx_g_SEARCHED rfl) la_nil))) rfl))) (ls_one (ls_raise rfl bd.tk PySem.F.excBase_ValueError tx_x_InvalidPlayers.ex tx_x_InvalidPlayers.g tx_x_InvalidPlayers.kp (raises_own tx_x_InvalidPlayers.sb tx_x_InvalidPlayers.ty) hx_InvalidPlayers rfl)) ls_nil))
theorem ok_count_ways {f : Addr} {fd : FuncData} (Fd : Fun K "count_ways" "count_ways" s_count_ways f fd) (tx_g_COUNTED : ∃ t, mg "COUNTED" = some (.int 60 t)) (tx_n_range : mg "range" = none) (tx_n_tuple : mg "tuple" = none) (tx_w_after : FnW P w K mg base (spF ⟨K, fn, cls, flds, NestedKey.hash w⟩ xc 2 F_after) "after" 1) (tx_w_require_few : FnW P w K mg base (spF ⟨K, fn, cls, flds, NestedKey.hash w⟩ xc 1 F_require_few) "require_few" 2) (tx_w_require_number : FnW P w K mg base (spF ⟨K, fn, cls, flds, NestedKey.hash w⟩ xc 3 F_require_number) "require_number" 2) (tx_w_require_order : FnW P w K mg base (spF ⟨K, fn, cls, flds, NestedKey.hash w⟩ xc 2 F_require_order) "require_order" 3) :
    FnOk P w K mg base (L2.CX P w) 4 f fd P_count_ways (spF ⟨K, fn, cls, flds, NestedKey.hash w⟩ xc 3 F_count_ways) :=
  fn_lift (xc := xc) (k := 3) (O := O_count_ways) (N := N_count_ways) Fd sc_count_ways rfl (by decide) (by decide) fun cdv A outer s H E bd => (ls_cons (ls_expr (le_call tx_w_require_few (bd.hr.mono (j := 2) (by decide)) bd.tk (la_cons (le_var (pv 0) rfl) la_nil) rfl))
  (ls_cons (ls_expr (le_call tx_w_require_order (bd.hr.mono (j := 3) (by decide)) bd.tk (la_cons (le_var (pv 0) rfl) (la_cons (le_var (pv 1) rfl) la_nil)) rfl))
  (ls_cons (ls_expr (le_call tx_w_require_number (bd.hr.mono (j := 2) (by decide)) bd.tk (la_cons (le_var (pv 2) rfl) (la_cons le_int (la_cons (le_gint tx_g_COUNTED rfl) la_nil))) rfl))
  (ls_cons (ls_setO (i := 3) sc_count_ways.nd rfl (Or.inl rfl) rfl (by decide) (lf_disp1 (hu1 bd.hr) (le_tupRg tx_n_tuple rfl (lrg_1 tx_n_range (le_var (pv 0) rfl) rfl) rfl) le_int))
  (ls_cons (ls_for bd.po rfl (li_rng1 tx_n_range (le_var (pv 2) rfl) rfl) (lg_name (i := 4) sc_count_ways.nd rfl (Or.inl rfl) rfl)
  (ls_cons (ls_setO (i := 5) sc_count_ways.nd rfl (Or.inl rfl) rfl (by decide) lf_dnewT)
  (ls_cons (ls_forD (rel' := fun _ _ _ _ _ _ _ => True) (i := 3) bd.po rfl (pv 3) rfl (by decide) (lg_name (i := 6) sc_count_ways.nd rfl (Or.inl rfl) rfl)
  (ls_one (ls_for bd.po rfl (li_tup (le_tup (la_cons le_str (la_cons le_str la_nil))) rfl) (lg_name (i := 7) sc_count_ways.nd rfl (Or.inl rfl) rfl)
  (ls_cons (ls_set (i := 8) sc_count_ways.nd rfl (Or.inl rfl) rfl (le_call tx_w_after (bd.hr.mono (j := 1) (by decide)) takes0 (la_cons (le_var (pv 6) rfl) (la_cons (le_var (pv 7) rfl) la_nil)) rfl))
  (ls_one (ls_dput (i := 5) (hu1 bd.hr) (pv 5) rfl (le_var (pv 8) rfl) (le_op op_addG od_add (po_val (le_get2 (hu1 bd.hr) (po_own (pv 5) rfl) (le_var (pv 8) rfl) le_int ⟨rfl, rfl, rfl, rfl⟩)) (po_val (le_dg (hu1 bd.hr) (po_val (le_var (pv 3) rfl)) (po_val (le_var (pv 6) rfl)) (by intro _ _; rfl))))))))))
  (ls_one (ls_setO (i := 3) sc_count_ways.nd rfl (Or.inl rfl) rfl (by decide) (lf_move (pv 5) rfl))))))
  (ls_one (ls_ret (le_get2 (hu1 bd.hr) (po_own (pv 3) rfl) (le_var (pv 1) rfl) le_int ⟨rfl, rfl, rfl, rfl⟩))))))))
theorem ok_searched {f : Addr} {fd : FuncData} (Fd : Fun K "searched" "searched" s_searched f fd) (tx_n_range : mg "range" = none) (tx_n_tuple : mg "tuple" = none) (tx_w_after : FnW P w K mg base (spF ⟨K, fn, cls, flds, NestedKey.hash w⟩ xc 2 F_after) "after" 1) :
    FnOk P w K mg base (L2.CX P w) 2 f fd P_searched (spF ⟨K, fn, cls, flds, NestedKey.hash w⟩ xc 2 F_searched) :=
  fn_lift (xc := xc) (k := 1) (O := O_searched) (N := N_searched) Fd sc_searched rfl (by decide) (by decide) fun cdv A outer s H E bd => (ls_cons (ls_set (i := 2) sc_searched.nd rfl (Or.inl rfl) rfl (le_tupRg tx_n_tuple rfl (lrg_1 tx_n_range (le_var (pv 0) rfl) rfl) rfl))
  (ls_cons (ls_par2 (i := 3) (j := 4) rfl sc_searched.nd rfl rfl (by decide) rfl rfl (by repeat (first | exact trivial | refine ⟨rfl, by decide, ?_⟩)) (lx_new (lf_disp1 (hu1 bd.hr) (le_var (pv 2) rfl) le_str) (lx_val (le_of_f (lf_lst (la_cons (le_var (pv 2) rfl) la_nil))) lx_nil)) rfl)
  (ls_cons (ls_while (n := 1000) bd.po (lt_cmp (op_notInDct (hu1 bd.hr)) od_isNotIn (po_val (le_var (pv 1) rfl)) (po_own (pv 3) rfl) rfl)
  (ls_cons (ls_setO (i := 5) sc_searched.nd rfl (Or.inl rfl) rfl (by decide) (lf_lst la_nil))
  (ls_cons (ls_for bd.po rfl (li_list (le_var (pv 4) rfl) rfl) (lg_name (i := 6) sc_searched.nd rfl (Or.inl rfl) rfl)
  (ls_one (ls_for bd.po rfl (li_tup (le_tup (la_cons le_str (la_cons le_str la_nil))) rfl) (lg_name (i := 7) sc_searched.nd rfl (Or.inl rfl) rfl)
  (ls_cons (ls_set (i := 8) sc_searched.nd rfl (Or.inl rfl) rfl (le_call tx_w_after (bd.hr.mono (j := 1) (by decide)) bd.tk (la_cons (le_var (pv 6) rfl) (la_cons (le_var (pv 7) rfl) la_nil)) rfl))
  (ls_one (ls_if (lt_cmp (op_notInDct (hu1 bd.hr)) od_isNotIn (po_val (le_var (pv 8) rfl)) (po_own (pv 3) rfl) rfl) (ls_cons (ls_dput (i := 3) (hu1 bd.hr) (pv 3) rfl (le_var (pv 8) rfl) (le_op op_addG od_add (po_val (le_dg (hu1 bd.hr) (po_own (pv 3) rfl) (po_val (le_var (pv 6) rfl)) (by intro _ _; rfl))) (po_val (le_var (pv 7) rfl))))
  (ls_one (ls_expr (le_append (pv 5) rfl (le_var (pv 8) rfl))))) ls_nil))))))
  (ls_one (ls_set (i := 4) sc_searched.nd rfl (Or.inl rfl) rfl (le_of_f (lf_move (pv 5) rfl)))))))
  (ls_one (ls_ret (le_dg (hu1 bd.hr) (po_own (pv 3) rfl) (po_val (le_var (pv 1) rfl)) (by intro _ _; rfl)))))))
theorem ok_fewest_games {f : Addr} {fd : FuncData} (Fd : Fun K "fewest_games" "fewest_games" s_fewest_games f fd) (tx_n_len : mg "len" = none) (tx_w_require_few : FnW P w K mg base (spF ⟨K, fn, cls, flds, NestedKey.hash w⟩ xc 1 F_require_few) "require_few" 2) (tx_w_require_order : FnW P w K mg base (spF ⟨K, fn, cls, flds, NestedKey.hash w⟩ xc 2 F_require_order) "require_order" 3) (tx_w_searched : FnW P w K mg base (spF ⟨K, fn, cls, flds, NestedKey.hash w⟩ xc 2 F_searched) "searched" 2) :
    FnOk P w K mg base (L2.CX P w) 4 f fd P_fewest_games (spF ⟨K, fn, cls, flds, NestedKey.hash w⟩ xc 2 F_fewest_games) :=
  fn_lift (xc := xc) (k := 3) (O := O_fewest_games) (N := N_fewest_games) Fd sc_fewest_games rfl (by decide) (by decide) fun cdv A outer s H E bd => (ls_cons (ls_expr (le_call tx_w_require_few (bd.hr.mono (j := 2) (by decide)) bd.tk (la_cons (le_var (pv 0) rfl) la_nil) rfl))
  (ls_cons (ls_expr (le_call tx_w_require_order (bd.hr.mono (j := 3) (by decide)) bd.tk (la_cons (le_var (pv 0) rfl) (la_cons (le_var (pv 1) rfl) la_nil)) rfl))
  (ls_one (ls_ret (le_callB call_len cd_len tx_n_len (by rfl) (lao_cons (po_val (le_call tx_w_searched (bd.hr.mono (j := 2) (by decide)) bd.tk (la_cons (le_var (pv 0) rfl) (la_cons (le_var (pv 1) rfl) la_nil)) rfl)) lao_nil) rfl)))))
theorem ok_shortest_results {f : Addr} {fd : FuncData} (Fd : Fun K "shortest_results" "shortest_results" s_shortest_results f fd) (tx_w_require_few : FnW P w K mg base (spF ⟨K, fn, cls, flds, NestedKey.hash w⟩ xc 1 F_require_few) "require_few" 2) (tx_w_require_order : FnW P w K mg base (spF ⟨K, fn, cls, flds, NestedKey.hash w⟩ xc 2 F_require_order) "require_order" 3) (tx_w_searched : FnW P w K mg base (spF ⟨K, fn, cls, flds, NestedKey.hash w⟩ xc 2 F_searched) "searched" 2) :
    FnOk P w K mg base (L2.CX P w) 4 f fd P_shortest_results (spF ⟨K, fn, cls, flds, NestedKey.hash w⟩ xc 2 F_shortest_results) :=
  fn_lift (xc := xc) (k := 3) (O := O_shortest_results) (N := N_shortest_results) Fd sc_shortest_results rfl (by decide) (by decide) fun cdv A outer s H E bd => (ls_cons (ls_expr (le_call tx_w_require_few (bd.hr.mono (j := 2) (by decide)) bd.tk (la_cons (le_var (pv 0) rfl) la_nil) rfl))
  (ls_cons (ls_expr (le_call tx_w_require_order (bd.hr.mono (j := 3) (by decide)) bd.tk (la_cons (le_var (pv 0) rfl) (la_cons (le_var (pv 1) rfl) la_nil)) rfl))
  (ls_one (ls_ret (le_call tx_w_searched (bd.hr.mono (j := 2) (by decide)) bd.tk (la_cons (le_var (pv 0) rfl) (la_cons (le_var (pv 1) rfl) la_nil)) rfl)))))
theorem ok__law_bag {f : Addr} {fd : FuncData} (Fd : Fun K "_law_bag" "_law_bag" s__law_bag f fd) (tx_n_len : mg "len" = none) :
    FnOk P w K mg base (L2.CX P w) 1 f fd P__law_bag (spN ⟨K, fn, cls, flds, NestedKey.hash w⟩ xc 2 F__law_bag) :=
  fn_liftN (xc := xc) (k := 0) (O := O__law_bag) (N := N__law_bag) Fd sc__law_bag rfl (by decide) (by decide) fun cdv A outer s H E bd => (ls_cons (ls_set (i := 2) sc__law_bag.nd rfl (Or.inl rfl) rfl le_int)
  (ls_cons (ls_if (lt_cmp op_lt od_rel (po_val (le_var (pv 1) rfl)) (po_val (le_callB call_len cd_len tx_n_len (by rfl) (lao_cons (po_val (le_var (pv 0) rfl)) lao_nil) rfl)) rfl) (ls_one (ls_set (i := 2) sc__law_bag.nd rfl (Or.inl rfl) rfl (le_op op_mod od_mod (po_val (le_ix ix_seq od_ix (po_val (le_var (pv 0) rfl)) (po_val (le_var (pv 1) rfl)) (by intro _ _; rfl))) (po_val (le_op op_pow od_pow (po_val le_int) (po_val le_int)))))) ls_nil)
  (ls_cons (ls_set (i := 3) sc__law_bag.nd rfl (Or.inl rfl) rfl (le_op op_addG od_add (po_val le_int) (po_val (le_op op_mod od_mod (po_val (le_op op_addG od_add (po_val (le_op op_addG od_add (po_val (le_op op_addG od_add (po_val (le_op op_mulG od_mul (po_val (le_op op_mod od_mod (po_val (le_var (pv 2) rfl)) (po_val le_int))) (po_val le_int))) (po_val (le_op op_mulG od_mul (po_val (le_op op_mulG od_mul (po_val le_int) (po_val (le_var (pv 1) rfl)))) (po_val (le_var (pv 1) rfl)))))) (po_val (le_op op_mulG od_mul (po_val le_int) (po_val (le_var (pv 1) rfl)))))) (po_val le_int))) (po_val le_int)))))
  (ls_cons (ls_if (lt_cmp op_lt od_rel (po_val (le_var (pv 2) rfl)) (po_val (le_op op_pow od_pow (po_val le_int) (po_val le_int))) rfl) (ls_one (ls_retF (lf_lst (la_cons le_int (la_cons (le_var (pv 3) rfl) la_nil))))) ls_nil)
  (ls_one (ls_retF (lf_lst (la_cons (le_var (pv 2) rfl) (la_cons (le_var (pv 3) rfl) la_nil)))))))))
theorem ok__law_take {f : Addr} {fd : FuncData} (Fd : Fun K "_law_take" "_law_take" s__law_take f fd)  :
    FnOk P w K mg base (L2.CX P w) 1 f fd P__law_take (spB ⟨K, fn, cls, flds, NestedKey.hash w⟩ 2 F__law_take) :=
  fn_liftB (xc := fun _ => .none) (k := 0) (O := O__law_take) (N := N__law_take) Fd sc__law_take rfl (by decide) rfl (fun i h1 h2 => (show ∀ i < 2, 0 < i → O__law_take i = false from by decide) i h2 h1) fun cdv A outer s H E bd => (ls_cons (ls_if (lt_cmp op_gt od_rel (po_val (le_ix ix_seq od_ix (po_own (pv 0) rfl) (po_val le_int) (by intro _ _; rfl))) (po_val le_int) rfl) (ls_cons (ls_set (i := 2) sc__law_take.nd rfl (Or.inl rfl) rfl (le_op op_mod od_mod (po_val (le_ix ix_seq od_ix (po_own (pv 0) rfl) (po_val le_int) (by intro _ _; rfl))) (po_val (le_var (pv 1) rfl))))
  (ls_cons (ls_setIx (i := 0) (pv 0) rfl le_int (le_op op_fdiv od_fdiv (po_val (le_ix ix_seq od_ix (po_own (pv 0) rfl) (po_val le_int) (by intro _ _; rfl))) (po_val (le_var (pv 1) rfl))))
  (ls_one (ls_ret (le_var (pv 2) rfl))))) ls_nil)
  (ls_cons (ls_setIx (i := 0) (pv 0) rfl le_int (le_op op_mod od_mod (po_val (le_op op_mulG od_mul (po_val (le_ix ix_seq od_ix (po_own (pv 0) rfl) (po_val le_int) (by intro _ _; rfl))) (po_val le_int))) (po_val le_int)))
  (ls_one (ls_ret (le_op op_mod od_mod (po_val (le_op op_fdiv od_fdiv (po_val (le_op op_mod od_mod (po_val (le_op op_mulG od_mul (po_val (le_op op_fdiv od_fdiv (po_val (le_ix ix_seq od_ix (po_own (pv 0) rfl) (po_val le_int) (by intro _ _; rfl))) (po_val le_int))) (po_val (le_op op_addG od_add (po_val (le_op op_mod od_mod (po_val (le_ix ix_seq od_ix (po_own (pv 0) rfl) (po_val le_int) (by intro _ _; rfl))) (po_val le_int))) (po_val le_int))))) (po_val le_int))) (po_val le_int))) (po_val (le_var (pv 1) rfl)))))))
theorem ok__law_of {f : Addr} {fd : FuncData} (Fd : Fun K "_law_of" "_law_of" s__law_of f fd) (tx_n_len : mg "len" = none) (tx_w__law_take : FnW P w K mg base (spB ⟨K, fn, cls, flds, NestedKey.hash w⟩ 2 F__law_take) "_law_take" 1) :
    FnOk P w K mg base (L2.CX P w) 2 f fd P__law_of (spB ⟨K, fn, cls, flds, NestedKey.hash w⟩ 2 F__law_of) :=
  fn_liftB (xc := fun _ => .none) (k := 1) (O := O__law_of) (N := N__law_of) Fd sc__law_of rfl (by decide) rfl (fun i h1 h2 => (show ∀ i < 2, 0 < i → O__law_of i = false from by decide) i h2 h1) fun cdv A outer s H E bd => (ls_one (ls_ret (le_ix ix_seq od_ix (po_val (le_var (pv 1) rfl)) (po_val (le_callO tx_w__law_take (bd.hr.mono (j := 1) (by decide)) (pv 0) rfl (la_cons (le_callB call_len cd_len tx_n_len (by rfl) (lao_cons (po_val (le_var (pv 1) rfl)) lao_nil) rfl) la_nil) rfl)) (by intro _ _; rfl))))
theorem ok__law_played {f : Addr} {fd : FuncData} (Fd : Fun K "_law_played" "_law_played" s__law_played f fd) (tx_n_list : mg "list" = none) (tx_n_range : mg "range" = none) (tx_n_tuple : mg "tuple" = none) :
    FnOk P w K mg base (L2.CX P w) 1 f fd P__law_played (spF ⟨K, fn, cls, flds, NestedKey.hash w⟩ xc 2 F__law_played) :=
  fn_lift (xc := xc) (k := 0) (O := O__law_played) (N := N__law_played) Fd sc__law_played rfl (by decide) (by decide) fun cdv A outer s H E bd => (ls_cons (ls_par3 (i := 2) (j := 3) (l := 4) rfl sc__law_played.nd rfl rfl rfl (by decide) (by decide) (by decide) rfl rfl rfl (by repeat (first | exact trivial | refine ⟨rfl, by decide, ?_⟩)) (lx_val le_int (lx_new (lf_listRg tx_n_list rfl (lrg_2 tx_n_range le_int (le_var (pv 0) rfl) rfl) rfl) (lx_new (lf_lst la_nil) lx_nil))) rfl)
  (ls_cons (ls_for bd.po rfl (li_str (le_var (pv 1) rfl)) (lg_name (i := 5) sc__law_played.nd rfl (Or.inl rfl) rfl)
  (ls_cons (ls_set (i := 6) sc__law_played.nd rfl (Or.inl rfl) rfl (le_popAt (pv 3) rfl le_int))
  (ls_cons (ls_expr (le_append (pv 4) rfl (le_tup (la_cons (le_var (pv 2) rfl) (la_cons (le_var (pv 6) rfl) la_nil)))))
  (ls_cons (ls_expr (le_append (pv 3) rfl (le_if (lt_cmp (op_eqG (hu64 bd.hr)) od_eq (po_val (le_var (pv 5) rfl)) (po_val le_str) rfl) (le_var (pv 6) rfl) (le_var (pv 2) rfl))))
  (ls_one (ls_set (i := 2) sc__law_played.nd rfl (Or.inl rfl) rfl (le_if (lt_cmp (op_eqG (hu64 bd.hr)) od_eq (po_val (le_var (pv 5) rfl)) (po_val le_str) rfl) (le_var (pv 2) rfl) (le_var (pv 6) rfl))))))))
  (ls_one (ls_ret (le_tup (la_cons (le_of_f (lf_move (pv 4) rfl)) (la_cons (le_callT call_tuple_of cd_tuple tx_n_tuple (by rfl) (lao_cons (po_val (le_op op_addG od_add (po_val (le_of_f (lf_lst (la_cons (le_var (pv 2) rfl) la_nil)))) (po_own (pv 3) rfl))) lao_nil) rfl) la_nil)))))))
theorem ok__law_first {f : Addr} {fd : FuncData} (Fd : Fun K "_law_first" "_law_first" s__law_first f fd) (tx_n_range : mg "range" = none) (tx_n_tuple : mg "tuple" = none) :
    FnOk P w K mg base (L2.CX P w) 1 f fd P__law_first (spN ⟨K, fn, cls, flds, NestedKey.hash w⟩ xc 1 F__law_first) :=
  fn_liftN (xc := xc) (k := 0) (O := O__law_first) (N := N__law_first) Fd sc__law_first rfl (by decide) (by decide) fun cdv A outer s H E bd => (ls_cons (ls_set (i := 1) sc__law_first.nd rfl (Or.inl rfl) rfl (le_tupRg tx_n_tuple rfl (lrg_1 tx_n_range (le_var (pv 0) rfl) rfl) rfl))
  (ls_cons (ls_par3 (i := 2) (j := 3) (l := 4) rfl sc__law_first.nd rfl rfl rfl (by decide) (by decide) (by decide) rfl rfl rfl (by repeat (first | exact trivial | refine ⟨rfl, by decide, ?_⟩)) (lx_new (lf_disp1 (hu1 bd.hr) (le_var (pv 1) rfl) le_int) (lx_val (le_of_f (lf_lst (la_cons (le_var (pv 1) rfl) la_nil))) (lx_val le_int lx_nil))) rfl)
  (ls_cons (ls_while (n := 1000) bd.po (lt_cmp (op_neG (hu64 bd.hr)) od_ne (po_val (le_var (pv 3) rfl)) (po_val (le_of_f (lf_lst la_nil))) rfl)
  (ls_cons (ls_par2 (i := 4) (j := 5) rfl sc__law_first.nd rfl rfl (by decide) rfl rfl (by repeat (first | exact trivial | refine ⟨rfl, by decide, ?_⟩)) (lx_val (le_op op_addG od_add (po_val (le_var (pv 4) rfl)) (po_val le_int)) (lx_new (lf_lst la_nil) lx_nil)) rfl)
  (ls_cons (ls_for bd.po rfl (li_list (le_var (pv 3) rfl) rfl) (lg_name (i := 6) sc__law_first.nd rfl (Or.inl rfl) rfl)
  (ls_one (ls_for bd.po rfl (li_tup (le_tup (la_cons (le_tup (la_cons le_int (la_cons le_int la_nil))) (la_cons (le_tup (la_cons le_int (la_cons le_int la_nil))) la_nil))) rfl) (lg_tup2 (i := 7) (j := 8) rfl sc__law_first.nd rfl rfl (Or.inl rfl) (Or.inl rfl) rfl rfl)
  (ls_cons (ls_set (i := 9) sc__law_first.nd rfl (Or.inl rfl) rfl (le_op op_addG od_add (po_val (le_op op_addG od_add (po_val (le_tup (la_cons (le_ix ix_seq od_ix (po_val (le_var (pv 6) rfl)) (po_val (le_var (pv 7) rfl)) (by intro _ _; rfl)) la_nil))) (po_val (le_slice rfl (po_val (le_var (pv 6) rfl)) (lp_some le_int) lp_none)))) (po_val (le_tup (la_cons (le_ix ix_seq od_ix (po_val (le_var (pv 6) rfl)) (po_val (le_var (pv 8) rfl)) (by intro _ _; rfl)) la_nil)))))
  (ls_one (ls_if (lt_cmp (op_notInDct (hu1 bd.hr)) od_isNotIn (po_val (le_var (pv 9) rfl)) (po_own (pv 2) rfl) rfl) (ls_cons (ls_dput (i := 2) (hu1 bd.hr) (pv 2) rfl (le_var (pv 9) rfl) (le_var (pv 4) rfl))
  (ls_one (ls_expr (le_append (pv 5) rfl (le_var (pv 9) rfl))))) ls_nil))))))
  (ls_one (ls_set (i := 3) sc__law_first.nd rfl (Or.inl rfl) rfl (le_of_f (lf_move (pv 5) rfl)))))))
  (ls_one (ls_retF (lf_move (pv 2) rfl))))))
theorem lamw_0 (hfn : ∀ f c, fn 0 f c = lamT 0 f c) (tx_w_fewest_games : FnW P w K mg base (spF ⟨K, fn, cls, flds, NestedKey.hash w⟩ xc 2 F_fewest_games) "fewest_games" 4) : LamW P w K mg base ⟨K, fn, cls, flds, NestedKey.hash w⟩ xc 0 1 5 L_0 :=
  lam_lift (i := 0) (k := 4) (n := 1) (N := ["one"]) (O := fun _ => false) (m := lm_0) (fun f c h z => by rw [show (⟨K, fn, cls, flds, NestedKey.hash w⟩ : Tb).fn 0 f c = lamT 0 f c from hfn f c] at z; exact z) (fun f c h z => by rw [show (⟨K, fn, cls, flds, NestedKey.hash w⟩ : Tb).fn 0 f c = lamT 0 f c from hfn f c] at z; exact z) scl_0 rfl (by decide) (fun _ _ => rfl) (fun pm cv ctv us hl => match us, hl with | [_], _ => rfl) (fun f c A outer s H E bd => (le_call tx_w_fewest_games (bd.hr.mono (j := 4) (by decide)) bd.tk (la_cons (le_var (pv 0) rfl) (la_cons le_non la_nil)) rfl))
theorem lamw_1 (hfn : ∀ f c, fn 1 f c = lamT 1 f c) (tx_w_shortest_results : FnW P w K mg base (spF ⟨K, fn, cls, flds, NestedKey.hash w⟩ xc 2 F_shortest_results) "shortest_results" 4) : LamW P w K mg base ⟨K, fn, cls, flds, NestedKey.hash w⟩ xc 1 1 5 L_1 :=
  lam_lift (i := 1) (k := 4) (n := 1) (N := ["one"]) (O := fun _ => false) (m := lm_1) (fun f c h z => by rw [show (⟨K, fn, cls, flds, NestedKey.hash w⟩ : Tb).fn 1 f c = lamT 1 f c from hfn f c] at z; exact z) (fun f c h z => by rw [show (⟨K, fn, cls, flds, NestedKey.hash w⟩ : Tb).fn 1 f c = lamT 1 f c from hfn f c] at z; exact z) scl_1 rfl (by decide) (fun _ _ => rfl) (fun pm cv ctv us hl => match us, hl with | [_], _ => rfl) (fun f c A outer s H E bd => (le_call tx_w_shortest_results (bd.hr.mono (j := 4) (by decide)) bd.tk (la_cons (le_var (pv 0) rfl) (la_cons le_non la_nil)) rfl))
theorem lamw_2 (hfn : ∀ f c, fn 2 f c = lamT 2 f c) (tx_w_count_ways : FnW P w K mg base (spF ⟨K, fn, cls, flds, NestedKey.hash w⟩ xc 3 F_count_ways) "count_ways" 4) : LamW P w K mg base ⟨K, fn, cls, flds, NestedKey.hash w⟩ xc 2 1 5 L_2 :=
  lam_lift (i := 2) (k := 4) (n := 1) (N := ["one"]) (O := fun _ => false) (m := lm_2) (fun f c h z => by rw [show (⟨K, fn, cls, flds, NestedKey.hash w⟩ : Tb).fn 2 f c = lamT 2 f c from hfn f c] at z; exact z) (fun f c h z => by rw [show (⟨K, fn, cls, flds, NestedKey.hash w⟩ : Tb).fn 2 f c = lamT 2 f c from hfn f c] at z; exact z) scl_2 rfl (by decide) (fun _ _ => rfl) (fun pm cv ctv us hl => match us, hl with | [_], _ => rfl) (fun f c A outer s H E bd => (le_call tx_w_count_ways (bd.hr.mono (j := 4) (by decide)) bd.tk (la_cons (le_var (pv 0) rfl) (la_cons le_non (la_cons le_non la_nil))) rfl))
theorem ok__law_error {f : Addr} {fd : FuncData} (Fd : Fun K "_law_error" "_law_error" s__law_error f fd) {C_InvalidPlayers : Addr} (tx_c_InvalidPlayers : mg "InvalidPlayers" = some (.ref C_InvalidPlayers)) (tx_l_lam : ∀ j, j < 3 → LamW P w K mg base ⟨K, fn, cls, flds, NestedKey.hash w⟩ xc j 1 5 (lamF j)) (tx_n_isinstance : mg "isinstance" = none) {C_StayError : Addr} (tx_s_StayError : ExcS K mg "StayError" C_StayError) (tx_t__law_error : ∀ c ∈ ([1] : List Nat), ∃ D, xc c = .ref D ∧ ExcC K D ∧ PySem.W.exmOne K (xc c) (.ref C_StayError) = some true ∧ PySem.W.kitOne K (.ref D) (.ref C_InvalidPlayers) = some (tw c 1)) :
    FnOk P w K mg base (L2.CX P w) 6 f fd P__law_error (spF ⟨K, fn, cls, flds, NestedKey.hash w⟩ xc 2 F__law_error) :=
  fn_lift (xc := xc) (k := 5) (O := O__law_error) (N := N__law_error) Fd sc__law_error rfl (by decide) (by decide) fun cdv A outer s H E bd => (ls_cons (ls_tryR (i := 2) (v := (fun c => if tw c 1 then .str "players" else .str "other")) (sv := (fun c => if tw c 1 then .str "players" else .str "other")) rfl rfl sc__law_error.nd rfl rfl ⟨rfl, rfl, .inl tx_s_StayError.g⟩ bd.tk (fun c hc => (tx_t__law_error c hc).elim fun D h => h.2.2.1) (fun c hc B => by dsimp only; cases tw c 1 <;> exact str_rp _)
  (fun _ pn xe tk po => (ls_one (ls_expr (le_callV tx_l_lam (bd.hr.mono (j := 5) (by decide)) tk (pv 0) rfl (la_cons (le_var (pv 1) rfl) la_nil) rfl))))
  (fun c hc a oe pn hz hf => by
    obtain ⟨D, eD, hE, hx, k1⟩ := tx_t__law_error c hc
    have hz : Zc (.ref D) none oe := eD ▸ hz
    have hcs : c ∈ ([1] : List Nat) := hc
    simp only [List.mem_cons, List.not_mem_nil, or_false] at hcs
    exact kk_ret (kk_if (kk_isi hE hz hf tx_n_isinstance (pv 2) rfl tx_c_InvalidPlayers k1 rfl) kk_str kk_str)))
  (ls_one (ls_ret le_str)))
theorem body_law {f cd0 P0 : Addr} (TB : LamX.TabB base mg cd0 P0) (hfn : ∀ j f c, fn j f c = lamT j f c) (tx_n_bool : mg "bool" = none) (tx_n_int : mg "int" = none) (tx_n_isinstance : mg "isinstance" = none) (tx_n_len : mg "len" = none) (tx_n_min : mg "min" = none) (tx_n_range : mg "range" = none) (tx_n_sorted : mg "sorted" = none) (tx_w__law_bag : FnW P w K mg base (spN ⟨K, fn, cls, flds, NestedKey.hash w⟩ xc 2 F__law_bag) "_law_bag" 1) (tx_w__law_error : FnW P w K mg base (spF ⟨K, fn, cls, flds, NestedKey.hash w⟩ xc 2 F__law_error) "_law_error" 6) (tx_w__law_first : FnW P w K mg base (spN ⟨K, fn, cls, flds, NestedKey.hash w⟩ xc 1 F__law_first) "_law_first" 1) (tx_w__law_of : FnW P w K mg base (spB ⟨K, fn, cls, flds, NestedKey.hash w⟩ 2 F__law_of) "_law_of" 2) (tx_w__law_played : FnW P w K mg base (spF ⟨K, fn, cls, flds, NestedKey.hash w⟩ xc 2 F__law_played) "_law_played" 1) (tx_w__law_take : FnW P w K mg base (spB ⟨K, fn, cls, flds, NestedKey.hash w⟩ 2 F__law_take) "_law_take" 1) (tx_w_count_ways : FnW P w K mg base (spF ⟨K, fn, cls, flds, NestedKey.hash w⟩ xc 3 F_count_ways) "count_ways" 4) (tx_w_fewest_games : FnW P w K mg base (spF ⟨K, fn, cls, flds, NestedKey.hash w⟩ xc 2 F_fewest_games) "fewest_games" 4) (tx_w_shortest_results : FnW P w K mg base (spF ⟨K, fn, cls, flds, NestedKey.hash w⟩ xc 2 F_shortest_results) "shortest_results" 4) (A : Around) (outer : List PySem.Env) (s : Shared) (H : Hp) (E : XK) (bd : Bd (cxOf (L2.CX P w) P w K mg base N_law "law" (defScope s_law) f (.ref cd0) A outer s H E) ⟨⟨K, fn, cls, flds, NestedKey.hash w⟩, O_law, fun cls d _ H' => E cls d H', xc⟩ 6) : PSs (cxOf (L2.CX P w) P w K mg base N_law "law" (defScope s_law) f (.ref cd0) A outer s H E) (defBody s_law) (tLaw ⟨⟨K, fn, cls, flds, NestedKey.hash w⟩, O_law, fun cls d _ H' => E cls d H', xc⟩ P0 ma_law mb_law 2) :=
  ls_law3 (i := 2) (ls_for bd.po rfl (li_rng1 tx_n_range (le_op op_addG od_add (po_val (le_callB (call_min2 rfl) cd_min2 tx_n_min (by rfl) (lao_cons (po_val (le_callB call_len cd_len tx_n_len (by rfl) (lao_cons (po_val (le_var (pv 0) rfl)) lao_nil) rfl)) (lao_cons (po_val le_int) lao_nil)) rfl)) (po_val le_int)) rfl) (lg_name (i := 1) sc_law.nd rfl (Or.inl rfl) rfl)
  (ls_cons (ls_setO (i := 4) sc_law.nd rfl (Or.inl rfl) rfl (by decide) (lf_call tx_w__law_bag (bd.hr.mono (j := 1) (by decide)) bd.tk (la_cons (le_var (pv 0) rfl) (la_cons (le_var (pv 1) rfl) la_nil)) rfl))
  (ls_cons (ls_set (i := 5) sc_law.nd rfl (Or.inl rfl) rfl (le_ix ix_seq od_ix (po_val (le_of_f (lf_lst (la_cons le_int (la_cons le_int (la_cons le_int (la_cons le_int la_nil))))))) (po_val (le_callO tx_w__law_take (bd.hr.mono (j := 1) (by decide)) (pv 4) rfl (la_cons le_int la_nil) rfl)) (by intro _ _; rfl)))
  (ls_cons (ls_setO (i := 6) sc_law.nd rfl (Or.inl rfl) rfl (by decide) (lf_call tx_w__law_first (bd.hr.mono (j := 1) (by decide)) bd.tk (la_cons (le_var (pv 5) rfl) la_nil) rfl))
  (ls_cons (ls_set (i := 7) sc_law.nd rfl (Or.inl rfl) rfl (le_of_f (lf_sortD (hu64 bd.hr) rfl tx_n_sorted rfl (lao_cons (po_own (pv 6) rfl) lao_nil) rfl)))
  (ls_cons (ls_if (lt_cmp (op_neG (hu64 bd.hr)) od_ne (po_val (le_callB call_len cd_len tx_n_len (by rfl) (lao_cons (po_val (le_var (pv 7) rfl)) lao_nil) rfl)) (po_val (le_dg (hu1 bd.hr) (po_val (le_of_f (lf_dispI [(3, 6), (4, 24), (5, 120), (6, 720)] (pps_cons pe_int pe_int (pps_cons pe_int pe_int (pps_cons pe_int pe_int (pps_cons pe_int pe_int pps_nil)))) rfl rfl (by intro h; cases h) (by decide) (by decide) rfl))) (po_val (le_var (pv 5) rfl)) (by intro _ _; rfl))) rfl) (ls_one (ls_ret le_bl)) ls_nil)
  (ls_one (ls_for bd.po rfl (li_rng1 tx_n_range le_int rfl) (lg_name (i := 8) sc_law.nd rfl (Or.inl rfl) rfl)
  (ls_cons (ls_set (i := 9) sc_law.nd rfl (Or.inl rfl) rfl (le_callO tx_w__law_of (bd.hr.mono (j := 2) (by decide)) (pv 4) rfl (la_cons (le_var (pv 7) rfl) la_nil) rfl))
  (ls_cons (ls_par2 (i := 10) (j := 11) rfl sc_law.nd rfl rfl (by decide) rfl rfl (by repeat (first | exact trivial | refine ⟨rfl, by decide, ?_⟩)) (lx_val (le_call tx_w_fewest_games (bd.hr.mono (j := 4) (by decide)) bd.tk (la_cons (le_var (pv 5) rfl) (la_cons (le_var (pv 9) rfl) la_nil)) rfl) (lx_val (le_call tx_w_shortest_results (bd.hr.mono (j := 4) (by decide)) bd.tk (la_cons (le_var (pv 5) rfl) (la_cons (le_var (pv 9) rfl) la_nil)) rfl) lx_nil)) rfl)
  (ls_cons (ls_if (lt_pw (lw_or (lt_cmp (op_neG (hu64 bd.hr)) od_ne (po_val (le_var (pv 10) rfl)) (po_val (le_dg (hu1 bd.hr) (po_own (pv 6) rfl) (po_val (le_var (pv 9) rfl)) (by intro _ _; rfl))) rfl) (lw_or (lt_val (le_isi rfl (po_val (le_var (pv 10) rfl)) tx_n_isinstance tx_n_bool rfl rfl rfl rfl)) (lw_or1 (lt_cmp (op_neG (hu64 bd.hr)) od_ne (po_val (le_callB call_len cd_len tx_n_len (by rfl) (lao_cons (po_val (le_var (pv 11) rfl)) lao_nil) rfl)) (po_val (le_var (pv 10) rfl)) rfl))))) (ls_one (ls_ret le_bl)) ls_nil)
  (ls_cons (ls_if (lt_cmp (op_neG (hu64 bd.hr)) od_ne (po_val (le_ix ix_seq od_ix (po_val (le_call tx_w__law_played (bd.hr.mono (j := 1) (by decide)) bd.tk (la_cons (le_var (pv 5) rfl) (la_cons (le_var (pv 11) rfl) la_nil)) rfl)) (po_val le_int) (by intro _ _; rfl))) (po_val (le_var (pv 9) rfl)) rfl) (ls_one (ls_ret le_bl)) ls_nil)
  (ls_cons (ls_if (lt_cmp op_lt od_rel (po_val (le_call tx_w_count_ways (bd.hr.mono (j := 4) (by decide)) bd.tk (la_cons (le_var (pv 5) rfl) (la_cons (le_var (pv 9) rfl) (la_cons (le_callB (call_min2 rfl) cd_min2 tx_n_min (by rfl) (lao_cons (po_val le_int) (lao_cons (po_val (le_var (pv 10) rfl)) lao_nil)) rfl) la_nil))) rfl)) (po_val (le_callT call_int1 cd_int tx_n_int (by rfl) (lao_cons (po_val (le_cmp op_lt od_rel (po_val (le_var (pv 10) rfl)) (po_val le_int) rfl)) lao_nil) rfl)) rfl) (ls_one (ls_ret le_bl)) ls_nil)
  (ls_one (ls_if (lt_pw (lw_and (lt_cmp op_gt od_rel (po_val (le_var (pv 10) rfl)) (po_val le_int) rfl) (lw_and1 (lt_cmp (op_neG (hu64 bd.hr)) od_ne (po_val (le_call tx_w_count_ways (bd.hr.mono (j := 4) (by decide)) bd.tk (la_cons (le_var (pv 5) rfl) (la_cons (le_var (pv 9) rfl) (la_cons (le_callB (call_min2 rfl) cd_min2 tx_n_min (by rfl) (lao_cons (po_val le_int) (lao_cons (po_val (le_op op_sub od_sub (po_val (le_var (pv 10) rfl)) (po_val le_int))) lao_nil)) rfl) la_nil))) rfl)) (po_val le_int) rfl)))) (ls_one (ls_ret le_bl)) ls_nil)))))))))))))))
    (ls_lam1 (pe_lam TB rfl rfl rfl (by decide +kernel) rfl) (fun f c => hfn 0 f c) sc_law.nd rfl (Or.inl rfl) rfl (by decide))
    (ls_lam2 (pe_lam TB rfl rfl rfl (by decide +kernel) rfl) (fun f c => hfn 1 f c) (pv 2) rfl)
    (ls_lam2 (pe_lam TB rfl rfl rfl (by decide +kernel) rfl) (fun f c => hfn 2 f c) (pv 2) rfl)
    (ls_cons (ls_for bd.po rfl (li_list (le_of_f (lf_lst (la_cons le_int (la_cons le_int (la_cons le_int (la_cons le_non (la_cons le_bl la_nil))))))) rfl) (lg_name (i := 3) sc_law.nd rfl (Or.inr rfl) rfl)
  (ls_one (ls_if (lt_cmp (op_neG (hu64 bd.hr)) od_ne (po_val (le_of_f (lf_lcO (i := 2) (own := [(("call" : Str), 12)]) (f := (gN 12)) (tt := tYesD) (te := (vCall 2 F__law_error (aCons (vVar 12) (aCons (vVar 3) aNil)))) (pv 2) rfl (by decide) rfl rfl sc_law.nd (blkOk_by (N := N_law) (sc := defScope s_law) (by decide +kernel)) (show ∀ v ∈ ([12] : List Nat), O_law v = false from by decide) (tg_name (i := 12) (by decide) rfl) (fun _ _ _ _ _ => pg_name (i := 12) sc_law.nd rfl (Or.inl rfl)) (fun _ _ _ _ _ => lts_nil) (fun _ _ _ _ _ => (le_call tx_w__law_error (bd.hr.mono (j := 6) (by decide)) (takes_nox _) (la_cons (le_var (pv 12) rfl) (la_cons (le_var (pv 3) rfl) la_nil)) rfl))))) (po_val (le_op op_mulG od_mul (po_val (le_of_f (lf_lst (la_cons le_str la_nil)))) (po_val le_int))) rfl) (ls_one (ls_ret le_bl)) ls_nil)))
  (ls_cons (ls_if (lt_pw (lw_or (lt_cmp (op_neG (hu64 bd.hr)) od_ne (po_val (le_call tx_w_fewest_games (bd.hr.mono (j := 4) (by decide)) bd.tk (la_cons le_int (la_cons (le_tup (la_cons le_int (la_cons le_int (la_cons le_int (la_cons le_int la_nil))))) la_nil)) rfl)) (po_val le_int) rfl) (lw_or1 (lt_cmp (op_neG (hu64 bd.hr)) od_ne (po_val (le_call tx_w_fewest_games (bd.hr.mono (j := 4) (by decide)) bd.tk (la_cons le_int (la_cons (le_tup (la_cons le_int (la_cons le_int (la_cons le_int (la_cons le_int la_nil))))) la_nil)) rfl)) (po_val le_int) rfl)))) (ls_one (ls_ret le_bl)) ls_nil)
  (ls_one (ls_ret (le_cmp (op_eqG (hu64 bd.hr)) od_eq (po_val (le_call tx_w_shortest_results (bd.hr.mono (j := 4) (by decide)) bd.tk (la_cons le_int (la_cons (le_tup (la_cons le_int (la_cons le_int (la_cons le_int (la_cons le_int la_nil))))) la_nil)) rfl)) (po_val le_str) rfl))))) (fun _ => rfl) (fun _ _ => rfl)
end
end Fl

namespace Fl
open PySem PySem.Spec PyProof.Rows L2

theorem kb1 : kitB "int" "int" = some true := by decide +kernel
theorem kb2 : kitB "int" "bool" = some false := by decide +kernel
theorem kb3 : kitB "str" "str" = some true := by decide +kernel
theorem kb4 : kitB "tuple" "tuple" = some true := by decide +kernel
theorem q_is_integer (a lo hi : Int) (h : lo ≤ a) (h2 : a ≤ hi) : F_is_integer [.int a, .int lo, .int hi] = .ok (.bl true) (.int a) := by
  simp [F_is_integer, runF, m_is_integer, sRet, vAnd, vIsi, evO, rsO, vVar, R.bind, R.ofO, R.toS, tyD, kb1, kb2, vNot, vChain, dRel, h, h2, bagOf]
end Fl

namespace Fl
open PySem PySem.Spec PyProof.Rows L2

def bagD (x y : Int) : D := .lst [.int x, .int y]
theorem at0 {α : Type} (a b : α) : atI [a, b] 0 = some a := rfl
theorem at1 {α : Type} (a b : α) : atI [a, b] 1 = some b := rfl
theorem ix0 : ixN 2 0 = some 0 := rfl
theorem ix1 : ixN 2 1 = some 1 := rfl
theorem q_take (x y c : Int) (hx : 0 ≤ x) (hy : 0 ≤ y) (hc : 0 < c) (hc2 : c < 1073741824) : ∃ r x' y', F__law_take [bagD x y, .int c] = .ok (.int r) (bagD x' y') ∧ 0 ≤ r ∧ r < c ∧ 0 ≤ x' ∧ 0 ≤ y' := by
  by_cases h : 0 < x
  · refine ⟨x % c, x / c, y, ?_, Int.emod_nonneg _ (by omega), Int.emod_lt_of_pos _ hc, Int.ediv_nonneg hx (by omega), hy⟩
    simp [F__law_take, runFB, m__law_take, bagD, sSeq, sIf, asB, vOp, evO, rsO, R.bind, R.toS, R.ofO, dRel, dIx, at0, at1, vC, h, sSet, dMod, vVar, hc, sSetIx, ix0, dFdiv, hc2, sRet]
  · refine ⟨(y * 48271 % 2147483647) / 13 * ((y * 48271 % 2147483647) % 32749 + 17) % 2147483629 / 32 % c, x, y * 48271 % 2147483647, ?_, Int.emod_nonneg _ (by omega), Int.emod_lt_of_pos _ hc, hx, Int.emod_nonneg _ (by omega)⟩
    have b1 : -(2 ^ 64) < (y * 48271 % 2147483647) % 32749 + 17 ∧ (y * 48271 % 2147483647) % 32749 + 17 < 2 ^ 64 := by omega
    simp [F__law_take, runFB, m__law_take, bagD, sSeq, sIf, asB, vOp, evO, rsO, R.bind, R.toS, R.ofO, dRel, dIx, at0, at1, vC, h, sSet, dMod, vVar, hc, sSetIx, ix1, dFdiv, hc2, sRet, dMul, dAdd, sNx]
    simp at b1
    simp [b1, hc]
theorem len_lt {ns : List Int} {k : Int} (h0 : 0 ≤ k) (h : k < (ns.length : Nat)) : ∃ z, atI ns k = some z := by
  unfold atI ixN
  rw [if_pos h0, if_pos h]
  have : k.toNat < ns.length := by omega
  exact ⟨ns[k.toNat], by simp [List.getElem?_eq_getElem this]⟩
def sd (cell k : Int) : Int := 1 + (cell % 2147483629 * 16807 + 40009 * k * k + 7919 * k + 1009) % 2147483645
theorem q_bag (ns : List Int) (k : Int) (h0 : 0 ≤ k) (h1 : k < 1000) (hl : ns.length ≤ 1000) : ∃ x y b, F__law_bag [.scr ns, .int k] = .ok (bagD x y) b ∧ 0 ≤ x ∧ 0 ≤ y := by
  have b2 : -18446744073709551616 < k ∧ k < 18446744073709551616 := by omega
  have nn : ∀ cell : Int, 0 ≤ sd cell k := fun cell => by unfold sd; omega
  by_cases h : k < (ns.length : Nat)
  · obtain ⟨z, hz⟩ := len_lt h0 h
    by_cases hc : z % 1000000000000000000000000000000000000000000000000000000000000 < 1000000000000000000
    · refine ⟨0, sd (z % 1000000000000000000000000000000000000000000000000000000000000) k, .scr ns, ?_, by decide, nn _⟩
      simp [F__law_bag, runFN, m__law_bag, sSeq, sIf, asB, vOp, evO, rsO, R.bind, R.toS, R.ofO, dRel, vC, sSet, dMod, vVar, sNx, dPow, vB, evOs, rsOs, fLen, h, dIx, hz, hl, sRet, dMul, dAdd, vLst, aCons, aNil, b2, hc, bagD, sd, bagOf]
    · refine ⟨z % 1000000000000000000000000000000000000000000000000000000000000, sd (z % 1000000000000000000000000000000000000000000000000000000000000) k, .scr ns, ?_, Int.emod_nonneg _ (by decide), nn _⟩
      simp [F__law_bag, runFN, m__law_bag, sSeq, sIf, asB, vOp, evO, rsO, R.bind, R.toS, R.ofO, dRel, vC, sSet, dMod, vVar, sNx, dPow, vB, evOs, rsOs, fLen, h, dIx, hz, hl, sRet, dMul, dAdd, vLst, aCons, aNil, b2, hc, bagD, sd, bagOf]
  · refine ⟨0, sd 0 k, .scr ns, ?_, by decide, nn _⟩
    simp [F__law_bag, runFN, m__law_bag, sSeq, sIf, asB, vOp, evO, rsO, R.bind, R.toS, R.ofO, dRel, vC, sSet, dMod, vVar, sNx, dPow, vB, evOs, rsOs, fLen, h, dIx, hl, sRet, dMul, dAdd, vLst, aCons, aNil, b2, bagD, sd, bagOf]
end Fl

namespace Fl
open PySem PySem.Spec PyProof.Rows L2

/-! texts of s and n -/
def sg (b : Bool) : Nat := if b then 115 else 110
def txt (bs : List Bool) : Str := ⟨(bs.map sg).toArray⟩
theorem txt_app (bs cs : List Bool) : txt bs ++ txt cs = txt (bs ++ cs) := by
  show Str.mk ((bs.map sg).toArray ++ (cs.map sg).toArray) = _
  unfold txt
  simp
theorem txt_len (bs : List Bool) : (txt bs).length = bs.length := by
  show (bs.map sg).toArray.size = _
  simp
theorem txt_nil : Str.ofString "" = txt [] := by decide +kernel
theorem txt_s : Str.ofString "s" = txt [true] := by decide +kernel
theorem txt_n : Str.ofString "n" = txt [false] := by decide +kernel
theorem txt_inj {bs cs : List Bool} : txt bs = txt cs ↔ bs = cs := by
  constructor
  · intro h
    have h : (bs.map sg).toArray = (cs.map sg).toArray := congrArg Str.cps h
    have h : bs.map sg = cs.map sg := by simpa using h
    exact (List.map_inj_right (fun a b q => by revert q; cases a <;> cases b <;> simp [sg])).mp h
  · rintro rfl; rfl
theorem txt_beq (bs cs : List Bool) : (txt bs == txt cs) = (bs == cs) := by
  by_cases h : bs = cs
  · subst h; simp
  · have : txt bs ≠ txt cs := fun q => h (txt_inj.mp q)
    rw [beq_eq_false_iff_ne.mpr h, beq_eq_false_iff_ne.mpr this]
theorem itS_txt (bs : List Bool) : itS (.str (txt bs)) = some (bs.map fun b => .str (txt [b])) := by
  show some (((bs.map sg).toArray.toList).map fun c => D.str ⟨#[c]⟩) = _
  simp only [List.map_map]
  rfl
theorem pk {x y : Str} {i : Int} (h1 : decide (x.length ≤ 1000000) = true) (h : (atI x.cps.toList i).map (fun c => Str.mk #[c]) = some y) : dIx (.str x) (.int i) = some (.str y) := by
  have h1 : x.length ≤ 1000000 := of_decide_eq_true h1
  show (if x.length ≤ 1000000 then (atI x.cps.toList i).map fun c => D.str ⟨#[c]⟩ else none) = _
  rw [if_pos h1]
  cases q : atI x.cps.toList i with
  | none => rw [q] at h; cases h
  | some c => rw [q] at h; cases h; rfl
theorem pick (way r : Int) (h : 0 ≤ way) (h2 : way < 3) (c : Int) (hc : atI [D.int 2, D.int 4, D.int 4] way = some (.int c)) (h3 : 0 ≤ r) (h4 : r < c) : ∃ z b, atI [D.str "sn", D.str "sssn", D.str "nnns"] way = some (.str z) ∧ dIx (.str z) (.int r) = some (.str (txt [b])) := by
  have hw : way = 0 ∨ way = 1 ∨ way = 2 := by omega
  rcases hw with rfl | rfl | rfl
  · have : c = 2 := by cases hc; rfl
    subst this
    have : r = 0 ∨ r = 1 := by omega
    rcases this with rfl | rfl
    · exact ⟨_, true, rfl, pk (by decide +kernel) (by decide +kernel)⟩
    · exact ⟨_, false, rfl, pk (by decide +kernel) (by decide +kernel)⟩
  · have : c = 4 := by cases hc; rfl
    subst this
    have : r = 0 ∨ r = 1 ∨ r = 2 ∨ r = 3 := by omega
    rcases this with rfl | rfl | rfl | rfl
    · exact ⟨_, true, rfl, pk (by decide +kernel) (by decide +kernel)⟩
    · exact ⟨_, true, rfl, pk (by decide +kernel) (by decide +kernel)⟩
    · exact ⟨_, true, rfl, pk (by decide +kernel) (by decide +kernel)⟩
    · exact ⟨_, false, rfl, pk (by decide +kernel) (by decide +kernel)⟩
  · have : c = 4 := by cases hc; rfl
    subst this
    have : r = 0 ∨ r = 1 ∨ r = 2 ∨ r = 3 := by omega
    rcases this with rfl | rfl | rfl | rfl
    · exact ⟨_, false, rfl, pk (by decide +kernel) (by decide +kernel)⟩
    · exact ⟨_, false, rfl, pk (by decide +kernel) (by decide +kernel)⟩
    · exact ⟨_, false, rfl, pk (by decide +kernel) (by decide +kernel)⟩
    · exact ⟨_, true, rfl, pk (by decide +kernel) (by decide +kernel)⟩
def bodyR : S := sSet 4 (vOp dAdd (.val (vVar 4)) (.val (vOp dIx (.val (vOp dIx (.val (vLst (aCons (vC (.str "sn")) (aCons (vC (.str "sssn")) (aCons (vC (.str "nnns")) aNil))))) (.val (vVar 3)))) (.val (vCallB 2 F__law_take 0 (aCons (vOp dIx (.val (vLst (aCons (vC (.int 2)) (aCons (vC (.int 4)) (aCons (vC (.int 4)) aNil))))) (.val (vVar 3))) aNil))))))
theorem way_at {way : Int} (h : 0 ≤ way) (h2 : way < 3) : ∃ c, atI [D.int 2, D.int 4, D.int 4] way = some (.int c) ∧ 0 < c ∧ c < 1073741824 := by
  have hw : way = 0 ∨ way = 1 ∨ way = 2 := by omega
  rcases hw with rfl | rfl | rfl
  · exact ⟨2, rfl, by decide, by decide⟩
  · exact ⟨4, rfl, by decide, by decide⟩
  · exact ⟨4, rfl, by decide, by decide⟩
theorem turn_R (x y most size way : Int) (bs : List Bool) (o : Option D) (hx : 0 ≤ x) (hy : 0 ≤ y) (h : 0 ≤ way) (h2 : way < 3) (hb : bs.length ≤ 1000) :
    ∃ x' y' b, bodyR [some (bagD x y), some (.int most), some (.int size), some (.int way), some (.str (txt bs)), o] = .nx [some (bagD x' y'), some (.int most), some (.int size), some (.int way), some (.str (txt (bs ++ [b]))), o] ∧ 0 ≤ x' ∧ 0 ≤ y' := by
  obtain ⟨c, hc, hc1, hc2⟩ := way_at h h2
  obtain ⟨r, x', y', e1, r1, r2, r3, r4⟩ := q_take x y c hx hy hc1 hc2
  obtain ⟨z, b, e2, e3⟩ := pick way r h h2 c hc r1 r2
  refine ⟨x', y', b, ?_, r3, r4⟩
  have hl : (txt bs).length + (txt [b]).length ≤ 1000000 := by rw [txt_len, txt_len]; simp; omega
  have e2' : dIx (.lst [D.str "sn", D.str "sssn", D.str "nnns"]) (.int way) = some (.str z) := e2
  have hc' : dIx (.lst [D.int 2, D.int 4, D.int 4]) (.int way) = some (.int c) := hc
  simp [bodyR, sSet, vOp, evO, rsO, vVar, R.bind, R.toS, R.ofO, vLst, aCons, aNil, vC, e2', hc', vCallB, e1, e3, dAdd, hl, txt_app]
theorem loop_R (most size way : Int) (h : 0 ≤ way) (h2 : way < 3) : ∀ (ds : List D) (x y : Int) (bs : List Bool) (o : Option D), 0 ≤ x → 0 ≤ y → bs.length + ds.length ≤ 1000 →
    ∃ x' y' cs o', forL (gN 5) bodyR ds [some (bagD x y), some (.int most), some (.int size), some (.int way), some (.str (txt bs)), o] = .nx [some (bagD x' y'), some (.int most), some (.int size), some (.int way), some (.str (txt cs)), o'] ∧ cs.length = bs.length + ds.length ∧ 0 ≤ x' ∧ 0 ≤ y'
  | [], x, y, bs, o, hx, hy, hl => ⟨x, y, bs, o, rfl, rfl, hx, hy⟩
  | d :: ds, x, y, bs, o, hx, hy, hl => by
    rw [List.length_cons] at hl
    obtain ⟨x', y', b, e, h3, h4⟩ := turn_R x y most size way bs (some d) hx hy h h2 (by omega)
    obtain ⟨x2, y2, cs, o2, e2, l2, h5, h6⟩ := loop_R most size way h h2 ds x' y' (bs ++ [b]) (some d) h3 h4 (by simp; omega)
    refine ⟨x2, y2, cs, o2, ?_, by rw [l2]; simp; omega, h5, h6⟩
    simp [forL, gN, e, e2]
end Fl

namespace Fl
open PySem PySem.Spec PyProof.Rows L2

/-! ## statements that go on -/
def Nx (s : S) (e : Env) (Q : Env → Prop) : Prop := ∃ e', s e = .nx e' ∧ Q e'
theorem nx_seq {a b : S} {e : Env} {Q : Env → Prop} (h : Nx a e fun e1 => Nx b e1 Q) : Nx (sSeq a b) e Q := by
  obtain ⟨e1, h1, e2, h2, h3⟩ := h
  exact ⟨e2, by simp only [sSeq, h1, h2], h3⟩
theorem nx_mono {a : S} {e : Env} {Q Q' : Env → Prop} (h : Nx a e Q) (i : ∀ e, Q e → Q' e) : Nx a e Q' := by
  obtain ⟨e1, h1, h2⟩ := h
  exact ⟨e1, h1, i _ h2⟩
theorem nx_forL {f : D → Env → Option Env} {b : S} (I : Env → Prop) : ∀ (ds : List D), (∀ d ∈ ds, ∀ e, I e → ∃ e1, f d e = some e1 ∧ Nx b e1 I) → ∀ e, I e → ∃ e', forL f b ds e = .nx e' ∧ I e'
  | [], _, e, h => ⟨e, rfl, h⟩
  | d :: ds, hs, e, h => by
    obtain ⟨e1, h1, e2, h2, h3⟩ := hs d (.head _) e h
    obtain ⟨e', h4, h5⟩ := nx_forL I ds (fun d' hd => hs d' (.tail _ hd)) e2 h3
    exact ⟨e', by rw [forL, h1]; simp only [h2, h4], h5⟩
/-- a loop with what has been walked -/
theorem nx_forW {α : Type} {f : D → Env → Option Env} {b : S} (g : α → D) (I : List α → Env → Prop) : ∀ (as done : List α), (∀ pre a post, done ++ as = pre ++ a :: post → ∀ e, I pre e → ∃ e1, f (g a) e = some e1 ∧ Nx b e1 (I (pre ++ [a]))) → ∀ e, I done e → ∃ e', forL f b (as.map g) e = .nx e' ∧ I (done ++ as) e'
  | [], done, _, e, h => ⟨e, rfl, by simpa using h⟩
  | a :: as, done, hs, e, h => by
    obtain ⟨e1, h1, e2, h2, h3⟩ := hs done a as rfl e h
    obtain ⟨e', h4, h5⟩ := nx_forW g I as (done ++ [a]) (fun pre a' post hp => hs pre a' post (by simpa using hp)) e2 h3
    exact ⟨e', by rw [List.map_cons, forL, h1]; simp only [h2, h4], by simpa using h5⟩
theorem nx_while {t : Env → R Bool} {b : S} (I : Nat → Env → Prop) (n : Nat) : ∀ m, m < n → (∀ m, ∀ e, I (m + 1) e → ∃ e1, t e = .ok true e1 ∧ Nx b e1 (I m)) → (∀ e, I 0 e → ∃ e1, t e = .ok false e1 ∧ I 0 e1) → ∀ e, I m e → ∃ e', whileN t b n e = .nx e' ∧ I 0 e' := by
  induction n with
  | zero => intro m hm; omega
  | succ n ih =>
    intro m hm hs h0 e h
    cases m with
    | zero =>
      obtain ⟨e1, h1, h2⟩ := h0 e h
      exact ⟨e1, by rw [whileN, h1]; rfl, h2⟩
    | succ m =>
      obtain ⟨e1, h1, e2, h2, h3⟩ := hs m e h
      obtain ⟨e', h4, h5⟩ := ih m (by omega) hs h0 e2 h3
      exact ⟨e', by rw [whileN, h1]; simp only [R.toS, if_true, h2, h4], h5⟩
theorem nx_for {it : Env → R (List D)} {f : D → Env → Option Env} {b : S} {e e1 : Env} {ds : List D} {Q : Env → Prop} (I : Env → Prop) (hit : it e = .ok ds e1) (h0 : I e1)
    (hs : ∀ d ∈ ds, ∀ e, I e → ∃ e1, f d e = some e1 ∧ Nx b e1 I) (hq : ∀ e, I e → Q e) : Nx (sFor it f b) e Q := by
  obtain ⟨e', h1, h2⟩ := nx_forL I ds hs e1 h0
  exact ⟨e', by simp only [sFor, hit, R.toS, h1], hq _ h2⟩
theorem sb0 (a b : Int) : dSub (.int a) (.int b) = some (.int (a - b)) := rfl
theorem ad0 (a b : Int) : dAdd (.int a) (.int b) = some (.int (a + b)) := rfl
end Fl

namespace Fl
open PySem PySem.Spec PyProof.Rows L2

/-! comprehensions whose turns leave the slots as they were -/
theorem lc_run {α : Type} {f : D → Env → Option Env} {tt : Env → R Bool} {te : M} {vs : List Nat} {e0 : Env} (h : α → D) (keep : α → Bool) (g : α → D) : ∀ as : List α,
    (∀ a ∈ as, ∃ e1 e2 e3, f (h a) e0 = some e1 ∧ tt e1 = .ok (keep a) e2 ∧ wipeE e2 vs = e0 ∧ (keep a = true → te e2 = .ok (g a) e3 ∧ wipeE e3 vs = e0)) → lcL f tt te vs (as.map h) e0 = .ok ((as.filter keep).map g) e0
  | [], _ => rfl
  | a :: as, hs => by
    obtain ⟨e1, e2, e3, h1, h2, h3, h4⟩ := hs a (.head _)
    have ih := lc_run h keep g as fun b hb => hs b (.tail _ hb)
    rw [List.map_cons, lcL, h1]
    simp only [h2, R.bind_ok]
    cases hk : keep a with
    | false => simp only [Bool.false_eq_true, if_false, h3, ih, List.filter_cons, hk]
    | true =>
      obtain ⟨h5, h6⟩ := h4 hk
      simp only [if_true, h5, R.bind_ok, h6, ih, List.filter_cons, hk, List.map_cons]
theorem lc_all {α : Type} {f : D → Env → Option Env} {te : M} {vs : List Nat} {e0 : Env} (h : α → D) (g : α → D) (as : List α) (hs : ∀ a ∈ as, ∃ e1 e3, f (h a) e0 = some e1 ∧ wipeE e1 vs = e0 ∧ te e1 = .ok (g a) e3 ∧ wipeE e3 vs = e0) :
    lcL f tYesD te vs (as.map h) e0 = .ok (as.map g) e0 := by
  have := lc_run (tt := tYesD) (te := te) (f := f) (vs := vs) (e0 := e0) h (fun _ => true) g as fun a ha => by
    obtain ⟨e1, e3, h1, h2, h3, h4⟩ := hs a ha
    exact ⟨e1, e1, e3, h1, rfl, h2, fun _ => ⟨h3, h4⟩⟩
  rw [this, List.filter_eq_self.mpr (fun _ _ => rfl)]

theorem flat_letters : List.all [D.str (Str.ofString "s"), D.str (Str.ofString "n")] flatDD = true := rfl
theorem in_letters (b : Bool) : dIn (.str (txt [b])) (.tup [D.str (Str.ofString "s"), D.str (Str.ofString "n")]) = some (.bl true) := by
  cases b
  · simp [dIn, inD, flatDD, eqD, txt_s, txt_n]
  · simp [dIn, inD, flatDD, eqD, txt_s, txt_n]
theorem mapM_bl {α : Type} (as : List α) : (as.map fun _ => D.bl true).mapM blOf = some (as.map fun _ => true) := by
  induction as with
  | nil => rfl
  | cons a as ih => simp [List.mapM_cons, ih, blOf]
theorem mapM_bl2 {α : Type} (as : List α) : as.mapM (blOf ∘ fun _ => D.bl true) = some (as.map fun _ => true) := by
  induction as with
  | nil => rfl
  | cons a as ih => simp [List.mapM_cons, ih, blOf]
theorem all_tr {α : Type} (as : List α) : (as.map fun _ => true).all id = true := by
  rw [List.all_map]; exact List.all_eq_true.mpr fun _ _ => rfl
/-! the queue -/
def stp (b : Bool) : List Int → List Int
  | x :: y :: r => if b then x :: (r ++ [y]) else y :: (r ++ [x])
  | l => l
def runS : List Bool → List Int → List Int
  | [], l => l
  | b :: bs, l => runS bs (stp b l)
def hdP : List Int → Int × Int
  | x :: y :: _ => (x, y)
  | _ => (0, 0)
def prs : List Bool → List Int → List (Int × Int)
  | [], _ => []
  | b :: bs, l => hdP l :: prs bs (stp b l)
def pD (p : Int × Int) : D := .tup [.int p.1, .int p.2]
theorem cut2 {α : Type} (a b : D) (r : List D) : cutD (a :: b :: r) none (some 2) = [a, b] := by
  simp [cutD, HT.sIx]
theorem cut2r (a b : D) (r : List D) : cutD (a :: b :: r) (some 2) none = r := by
  simp [cutD, HT.sIx]
theorem stp_len (b : Bool) (l : List Int) : (stp b l).length = l.length := by
  match l with
  | [] => rfl
  | [_] => rfl
  | x :: y :: r => cases b <;> simp [stp]
def rg (a b : Int) : List Int := (List.range (b - a).toNat).map fun i => a + (i : Nat)
theorem rgD_rg (a b : Int) : rgD a b = (rg a b).map D.int := by simp [rgD, rg]
theorem rg_len (a b : Int) : (rg a b).length = (b - a).toNat := by simp [rg]
end Fl

namespace Fl
open PySem PySem.Spec PyProof.Rows L2

theorem q_after (x y : Int) (r : List Int) (b : Bool) (hr : r.length ≤ 1000) : F_after [.tup ((x :: y :: r).map D.int), .str (txt [b])] = .ok (.tup ((stp b (x :: y :: r)).map D.int)) (.tup ((x :: y :: r).map D.int)) := by
  have c1 : cutD (D.int x :: D.int y :: r.map D.int) none (some 2) = [D.int x, D.int y] := by simp [cutD, HT.sIx]
  have c2 : cutD (D.int x :: D.int y :: r.map D.int) (some 2) none = r.map D.int := by simp [cutD, HT.sIx, List.take_of_length_le]
  have h1 : 1 + r.length ≤ 1000000 := by omega
  have h2 : r.length + 1 + 1 ≤ 1000000 := by omega
  cases b with
  | true =>
    have e : (txt [true] == Str.ofString "s") = true := by rw [txt_s]; simp
    simp [F_after, runF, m_after, sSeq, sAsg, vSl, evO, rsO, vVar, R.bind, R.toS, R.ofO, vPart, dSl, vC, c1, c2, gT2, sIf, asB, vOp, dEq, e, sRet, vTup, aCons, aNil, dAdd, h1, h2, stp, bagOf]
  | false =>
    have e : (txt [false] == Str.ofString "s") = false := by rw [txt_s, txt_beq]; rfl
    simp [F_after, runF, m_after, sSeq, sAsg, vSl, evO, rsO, vVar, R.bind, R.toS, R.ofO, vPart, dSl, vC, c1, c2, gT2, sIf, asB, vOp, dEq, e, sRet, vTup, aCons, aNil, dAdd, h1, h2, stp, bagOf, sNx]
end Fl

namespace Fl
open PySem PySem.Spec PyProof.Rows L2

theorem prs_len : ∀ (bs : List Bool) (l : List Int), (prs bs l).length = bs.length
  | [], _ => rfl
  | b :: bs, l => by simp [prs, prs_len bs]
theorem zsD_eq : ∀ (ps : List (Int × Int)) (bs : List Bool), ((ps.map pD).zip (bs.map fun b => D.str (txt [b]))).map pairD = (ps.zip bs).map fun q => D.tup [pD q.1, .str (txt [q.2])]
  | [], bs => by simp
  | p :: ps, [] => by simp
  | p :: ps, b :: bs => by simp [pairD, zsD_eq ps bs]
theorem zs_txt (ps : List (Int × Int)) (bs : List Bool) : zsD (ps.map pD) (txt bs) = (ps.zip bs).map fun q => D.tup [pD q.1, .str (txt [q.2])] := by
  have h : ((txt bs).cps.toList.map fun c => D.str ⟨#[c]⟩) = bs.map fun b => D.str (txt [b]) := by
    have := itS_txt bs
    simpa [itS] using this
  unfold zsD
  rw [h, zsD_eq]
def lsr (ps : List (Int × Int)) (bs : List Bool) : List D := (ps.zip bs).map fun q => D.int (if q.2 then q.1.2 else q.1.1)
end Fl

namespace Fl
open PySem PySem.Spec PyProof.Rows L2

theorem runS_len : ∀ (bs : List Bool) (l : List Int), (runS bs l).length = l.length
  | [], _ => rfl
  | b :: bs, l => by rw [runS, runS_len bs, stp_len]
theorem rg_cons {a b : Int} (h : a < b) : rg a b = a :: rg (a + 1) b := by
  unfold rg
  obtain ⟨k, hk⟩ : ∃ k, (b - a).toNat = k + 1 := ⟨(b - a).toNat - 1, by omega⟩
  have hk2 : (b - (a + 1)).toNat = k := by omega
  rw [hk, hk2, List.range_succ_eq_map, List.map_cons, List.map_map]
  congr 1
  · simp
  · refine List.map_congr_left fun i _ => ?_
    simp only [Function.comp]
    omega
end Fl

namespace Fl
open PySem PySem.Spec PyProof.Rows L2

/-! ## like and like -/
mutual
theorem eqD_self : ∀ (d : D) (n : Nat), pyOk n d = true → eqD d d = true
  | .non, _, _ => by simp [eqD]
  | .bl _, _, _ => by simp [eqD]
  | .int _, _, _ => by simp [eqD]
  | .str _, _, _ => by simp [eqD]
  | .tup xs, n, h => by
    cases n with
    | zero => simp [pyOk] at h
    | succ n => rw [pyOk] at h; rw [eqD]; exact eqL_self xs n h
  | .lst xs, n, h => by
    cases n with
    | zero => simp [pyOk] at h
    | succ n => rw [pyOk] at h; rw [eqD]; exact eqL_self xs n h
  | .scr _, n, h => by cases n <;> simp [pyOk] at h
  | .ptp xs, n, h => by
    cases n with
    | zero => simp [pyOk] at h
    | succ n => rw [pyOk] at h; rw [eqD]; exact eqL_self xs n h
  | .exc _, n, h => by cases n <;> simp [pyOk] at h
  | .dcn _ _, n, h => by cases n <;> simp [pyOk] at h
  | .dct _ _ _, n, h => by cases n <;> simp [pyOk] at h
  | .fn _, n, h => by cases n <;> simp [pyOk] at h
  | .ins _ _, n, h => by cases n <;> simp [pyOk] at h
theorem eqL_self : ∀ (ds : List D) (n : Nat), pyOkL n ds = true → eqL ds ds = true
  | [], _, _ => by simp [eqL]
  | d :: ds, n, h => by
    rw [pyOkL, Bool.and_eq_true] at h
    rw [eqL, eqD_self d n h.1, eqL_self ds n h.2, Bool.and_true]
end
theorem dNe_lst {xs ys : List D} (h : pyOkL 59 xs = true) (e : xs = ys) : dNe (.lst xs) (.lst ys) = some (.bl false) := by
  subst e
  have h2 : pyOk 60 (.lst xs) = true := by rw [pyOk]; exact h
  simp [dNe, h2, eqD_self _ _ h2]
theorem dNe_tup {xs ys : List D} (h : pyOkL 59 xs = true) (e : xs = ys) : dNe (.tup xs) (.tup ys) = some (.bl false) := by
  subst e
  have h2 : pyOk 60 (.tup xs) = true := by rw [pyOk]; exact h
  simp [dNe, h2, eqD_self _ _ h2]
theorem dEq_lst {xs ys : List D} (h : pyOkL 59 xs = true) (e : xs = ys) : dEq (.lst xs) (.lst ys) = some (.bl true) := by
  subst e
  have h2 : pyOk 60 (.lst xs) = true := by rw [pyOk]; exact h
  simp [dEq, h2, eqD_self _ _ h2]
theorem dEq_tup {xs ys : List D} (h : pyOkL 59 xs = true) (e : xs = ys) : dEq (.tup xs) (.tup ys) = some (.bl true) := by
  subst e
  have h2 : pyOk 60 (.tup xs) = true := by rw [pyOk]; exact h
  simp [dEq, h2, eqD_self _ _ h2]
theorem okL_map {α : Type} {g : α → D} {n : Nat} : ∀ {as : List α}, (∀ a ∈ as, pyOk n (g a) = true) → pyOkL n (as.map g) = true
  | [], _ => by simp [pyOkL]
  | a :: as, h => by
    rw [List.map_cons, pyOkL, h a (.head _), okL_map fun b hb => h b (.tail _ hb)]
    rfl
theorem ok_int (n : Nat) (i : Int) : pyOk n (.int i) = true := by cases n <;> simp [pyOk]
theorem ok_ints (n : Nat) (l : List Int) : pyOkL n (l.map D.int) = true := okL_map fun a _ => ok_int n a
theorem ok_pD (n : Nat) (p : Int × Int) : pyOk (n + 1) (pD p) = true := by
  simp [pD, pyOk, pyOkL, ok_int]
theorem ok_pDs (n : Nat) (ps : List (Int × Int)) : pyOkL (n + 1) (ps.map pD) = true := okL_map fun a _ => ok_pD n a
theorem ok_lsr (n : Nat) (ps : List (Int × Int)) (bs : List Bool) : pyOkL n (lsr ps bs) = true := okL_map fun a _ => ok_int n _
theorem ints_int (l : List Int) : (l.map D.int).mapM intOf = some l := by
  induction l with
  | nil => rfl
  | cons a l ih => simp [List.mapM_cons, intOf, ih]

/-! ## the standing is a turned row -/
theorem stp_perm (b : Bool) (l : List Int) : (stp b l).Perm l := by
  match l with
  | [] => exact .refl _
  | [_] => exact .refl _
  | x :: y :: r =>
    cases b with
    | true => exact .cons x (List.perm_append_singleton y r)
    | false =>
      show (y :: (r ++ [x])).Perm (x :: y :: r)
      exact (List.Perm.cons y (List.perm_append_singleton x r)).trans (.swap x y r)
theorem runS_perm : ∀ (bs : List Bool) (l : List Int), (runS bs l).Perm l
  | [], _ => .refl _
  | b :: bs, l => (runS_perm bs _).trans (stp_perm b l)
theorem rg_lt (a b : Int) : (rg a b).Pairwise (· < ·) := by
  unfold rg
  rw [List.pairwise_map]
  exact List.pairwise_lt_range.imp fun h => by omega
theorem rg_nodup (a b : Int) : (rg a b).Nodup := (rg_lt a b).imp fun h => by omega
theorem isort_run (bs : List Bool) (n : Int) : isort (runS bs (rg 0 n)) = rg 0 n :=
  sorted_one ((isort_perm _).trans (runS_perm bs _)) (isort_sorted _) ((rg_lt 0 n).imp fun h => by omega)
theorem prs_ne : ∀ (bs : List Bool) (l : List Int), l.Nodup → 2 ≤ l.length → ∀ p ∈ prs bs l, p.1 ≠ p.2
  | [], _, _, _, p, hp => by cases hp
  | b :: bs, l, hn, hl, p, hp => by
    rcases List.mem_cons.mp hp with rfl | hp
    · match l, hn, hl with
      | x :: y :: r, hn, _ =>
        have := (List.nodup_cons.mp hn).1
        intro e
        have e : x = y := e
        subst e
        exact this (.head _)
    · exact prs_ne bs _ ((stp_perm b l).nodup_iff.mpr hn) (by rw [stp_len]; exact hl) p hp
end Fl

namespace Fl
open PySem PySem.Spec PyProof.Rows L2

theorem cut_dr (xs : List D) (t : Int) (h : 0 ≤ t) : cutD xs (some t) none = xs.drop t.toNat := by
  have e : HT.sIx xs.length 0 (some t) = min t.toNat xs.length := by
    show (if t < 0 then (t + (xs.length : Int)).toNat else min t.toNat xs.length) = _
    rw [if_neg (by omega)]
  unfold cutD
  rw [e]
  show (xs.drop (min t.toNat xs.length)).take (xs.length - min t.toNat xs.length) = _
  rw [List.take_of_length_le (by simp)]
  by_cases q : t.toNat ≤ xs.length
  · rw [Nat.min_eq_left q]
  · rw [Nat.min_eq_right (by omega), List.drop_of_length_le (Nat.le_refl _), List.drop_of_length_le (by omega)]
theorem cut_tk (xs : List D) (t : Int) (h : 0 ≤ t) : cutD xs none (some t) = xs.take t.toNat := by
  have e : HT.sIx xs.length xs.length (some t) = min t.toNat xs.length := by
    show (if t < 0 then (t + (xs.length : Int)).toNat else min t.toNat xs.length) = _
    rw [if_neg (by omega)]
  unfold cutD
  rw [e]
  show (xs.drop 0).take (min t.toNat xs.length - 0) = _
  rw [List.drop_zero, Nat.sub_zero]
  by_cases q : t.toNat ≤ xs.length
  · rw [Nat.min_eq_left q]
  · rw [Nat.min_eq_right (by omega), List.take_of_length_le (Nat.le_refl _), List.take_of_length_le (by omega)]
theorem cut_txt (bs : List Bool) (k : Int) (h : 0 ≤ k) : cutS (txt bs) none (some k) = txt (bs.take k.toNat) := by
  unfold cutS
  have e1 : HT.sIx (txt bs).length 0 none = 0 := rfl
  have e2 : HT.sIx (txt bs).length (txt bs).length (some k) = min k.toNat bs.length := by
    show (if k < 0 then (k + ((txt bs).length : Int)).toNat else min k.toNat (txt bs).length) = _
    rw [if_neg (by omega), txt_len]
  rw [e1, e2]
  show Str.mk (((bs.map sg).toArray.toList.drop 0).take (min k.toNat bs.length - 0)).toArray = Str.mk ((bs.take k.toNat).map sg).toArray
  simp only [List.drop_zero, Nat.sub_zero, List.map_take]
  by_cases q : k.toNat ≤ bs.length
  · rw [Nat.min_eq_left q]
  · rw [Nat.min_eq_right (by omega), List.take_of_length_le (by simp), List.take_of_length_le (by simp; omega)]
theorem eqL_ints : ∀ A B : List Int, eqL (A.map D.int) (B.map D.int) = decide (A = B)
  | [], [] => by simp [eqL]
  | [], _ :: _ => by simp [eqL]
  | _ :: _, [] => by simp [eqL]
  | a :: A, b :: B => by
    have ih := eqL_ints A B
    simp only [List.map_cons, eqL, eqD, ih, List.cons.injEq]
    by_cases h : a = b
    · simp [h]
    · simp [h]
theorem ne_tups (A B : List Int) : dNe (.tup (A.map D.int)) (.tup (B.map D.int)) = some (.bl (!decide (A = B))) := by
  have h1 : pyOk 60 (.tup (A.map D.int)) = true := by rw [pyOk]; exact ok_ints 59 A
  have h2 : pyOk 60 (.tup (B.map D.int)) = true := by rw [pyOk]; exact ok_ints 59 B
  have h3 : eqD (.tup (A.map D.int)) (.tup (B.map D.int)) = decide (A = B) := by rw [eqD]; exact eqL_ints A B
  simp [dNe, h1, h2, h3]
theorem eq_tups (A B : List Int) : dEq (.tup (A.map D.int)) (.tup (B.map D.int)) = some (.bl (decide (A = B))) := by
  have h1 : pyOk 60 (.tup (A.map D.int)) = true := by rw [pyOk]; exact ok_ints 59 A
  have h2 : pyOk 60 (.tup (B.map D.int)) = true := by rw [pyOk]; exact ok_ints 59 B
  have h3 : eqD (.tup (A.map D.int)) (.tup (B.map D.int)) = decide (A = B) := by rw [eqD]; exact eqL_ints A B
  simp [dEq, h1, h2, h3]
end Fl

namespace Fl
open PySem PySem.Spec PyProof.Rows L2

theorem q_are_players (n : Int) (l : List Int) (h : ∀ x ∈ l, 0 ≤ x ∧ x < n) (hl : l.length ≤ 1000000) : ∃ b, F_are_players [.int n, .tup (l.map D.int)] = .ok (.bl true) b := by
  have key : lcL (gN 2) tYesD (vCall 3 F_is_integer (aCons (vVar 2) (aCons (vC (.int 0)) (aCons (vOp dSub (.val (vVar 0)) (.val (vC (.int 1)))) aNil)))) [2] (l.map D.int) [some (.int n), some (.tup (l.map D.int)), none] = .ok (l.map fun _ => D.bl true) [some (.int n), some (.tup (l.map D.int)), none] := by
    refine lc_all _ _ _ fun x hx => ⟨[some (.int n), some (.tup (l.map D.int)), some (.int x)], [some (.int n), some (.tup (l.map D.int)), some (.int x)], rfl, rfl, ?_, rfl⟩
    obtain ⟨h0, h1⟩ := h x hx
    simp [vCall, aCons, aNil, vVar, vC, R.bind, R.ofO, vOp, evO, rsO, dSub, q_is_integer x 0 (n - 1) h0 (by omega)]
  refine ⟨.int n, ?_⟩
  simp [F_are_players, runF, m_are_players, sRet, vAnd, vIsi, evO, rsO, vVar, R.bind, R.toS, R.ofO, tyD, kb4, vB, evOs, rsOs, vLc, vIt, itT, hl, wipeE, key, restE, fAll, mapM_bl2, bagOf]
end Fl

namespace Fl
open PySem PySem.Spec PyProof.Rows L2

/-! ## dicts with keys that are tuples of ints -/
theorem ints_key : ∀ ns : List Int, (ns.map D.int).mapM keyD = some (ns.map Sum.inl)
  | [] => rfl
  | n :: ns => by simp [List.mapM_cons, keyD, ints_key ns]
theorem keyT_tup (ns : List Int) : keyT (tupD ns) = some (ns.map Sum.inl) := ints_key ns
theorem inl_inj : ∀ {a b : List Int}, a.map (Sum.inl : Int → Key) = b.map Sum.inl → a = b
  | [], [], _ => rfl
  | [], _ :: _, h => by simp at h
  | _ :: _, [], h => by simp at h
  | x :: a, y :: b, h => by
    simp only [List.map_cons, List.cons.injEq] at h
    rw [inl_inj h.2, Sum.inl.inj h.1]
theorem keyT_iff {a b : List Int} : keyT (tupD a) = keyT (tupD b) ↔ a = b := by
  rw [keyT_tup, keyT_tup]
  exact ⟨fun h => inl_inj (Option.some.inj h), fun h => by rw [h]⟩
section
variable {α : Type} (f : α → List Int) (g : α → D) (key : List Int)
theorem dFind_map : ∀ as : List α, dFind keyT (tupD key) (as.map fun a => tupD (f a)) (as.map g) = (as.find? fun a => decide (f a = key)).map g
  | [] => rfl
  | a :: as => by
    have ih := dFind_map as
    rw [List.map_cons, List.map_cons, dFind, List.find?_cons]
    by_cases h : f a = key
    · rw [if_pos (keyT_iff.mpr h), decide_eq_true h]; rfl
    · rw [if_neg (fun z => h (keyT_iff.mp z)), decide_eq_false h]; exact ih
theorem dHas_map (as : List α) : dHas keyT (tupD key) (as.map fun a => tupD (f a)) = as.any fun a => decide (f a = key) := by
  unfold dHas
  rw [List.any_map]
  congr 1
  funext a
  exact decide_eq_decide.mpr keyT_iff
theorem dGot_map (as : List α) : dGot (.dct true (as.map fun a => tupD (f a)) (as.map g)) (tupD key) = some ((as.find? fun a => decide (f a = key)).map g) := by
  simp only [dGot, dFind_map]
  rw [if_pos (by rw [keyT_tup]; rfl)]
theorem dPut_new (as : List α) (v : D) (hn : ∀ a ∈ as, f a ≠ key) (hl : as.length < 1000000) :
    dPut (.dct true (as.map fun a => tupD (f a)) (as.map g)) (tupD key) v = some (.dct true ((as.map fun a => tupD (f a)) ++ [tupD key]) (as.map g ++ [v])) := by
  have h1 : (keyT (tupD key)).isSome = true ∧ (as.map fun a => tupD (f a)).length < 1000000 := ⟨by rw [keyT_tup]; rfl, by simpa using hl⟩
  have h2 : ¬ dHas keyT (tupD key) (as.map fun a => tupD (f a)) = true := by
    rw [dHas_map, List.any_eq_true]
    rintro ⟨a, ha, hd⟩
    exact hn a ha (of_decide_eq_true hd)
  simp only [dPut, if_pos h1, if_neg h2]
end
theorem tupI_map (nss : List (List Int)) : (nss.map tupD).mapM tupI = some nss := by
  induction nss with
  | nil => rfl
  | cons ns nss ih =>
    have h : tupI (tupD ns) = some ns := ints_int ns
    rw [List.map_cons, List.mapM_cons, h, ih]
    rfl
end Fl

namespace Fl
open PySem PySem.Spec PyProof.Rows L2

/-! ## all results of a length -/
def allB : Nat → List (List Bool)
  | 0 => [[]]
  | c + 1 => (allB c).flatMap fun t => [t ++ [false], t ++ [true]]
def tD (bs : List Bool) : D := .str (txt bs)
theorem allB_len : ∀ (c : Nat) (bs : List Bool), bs ∈ allB c → bs.length = c
  | 0, bs, h => by
    have : bs = [] := by simpa [allB] using h
    subst this; rfl
  | c + 1, bs, h => by
    obtain ⟨t, h1, h2⟩ := List.mem_flatMap.mp h
    have := allB_len c t h1
    rcases List.mem_cons.mp h2 with rfl | h2
    · simp [this]
    · rcases List.mem_cons.mp h2 with rfl | h2
      · simp [this]
      · cases h2
theorem allB_mem : ∀ (c : Nat) (bs : List Bool), bs.length = c → bs ∈ allB c
  | 0, bs, h => by
    have : bs = [] := List.length_eq_zero_iff.mp h
    subst this; simp [allB]
  | c + 1, bs, h => by
    have hne : bs ≠ [] := fun z => by subst z; simp at h
    have e := List.dropLast_concat_getLast hne
    refine List.mem_flatMap.mpr ⟨bs.dropLast, allB_mem c _ (by simp [h]), ?_⟩
    rw [← e]
    cases bs.getLast hne <;> simp
theorem allB_size : ∀ c : Nat, (allB c).length = 2 ^ c
  | 0 => rfl
  | c + 1 => by
    have : ∀ l : List (List Bool), (l.flatMap fun t => [t ++ [false], t ++ [true]]).length = 2 * l.length := fun l => by
      induction l with
      | nil => rfl
      | cons a l ih => rw [List.flatMap_cons, List.length_append, ih]; simp; omega
    rw [allB, this, allB_size c, Nat.pow_succ]; omega
theorem allB_nodup : ∀ c : Nat, (allB c).Nodup
  | 0 => by simp [allB]
  | c + 1 => by
    have key : ∀ l : List (List Bool), l.Nodup → (l.flatMap fun t => [t ++ [false], t ++ [true]]).Nodup := fun l => by
      induction l with
      | nil => intro _; exact List.nodup_nil
      | cons a l ih =>
        intro h
        obtain ⟨h1, h2⟩ := List.nodup_cons.mp h
        rw [List.flatMap_cons]
        refine List.nodup_append.mpr ⟨by simp, ih h2, fun x hx y hy e => ?_⟩
        subst e
        obtain ⟨t, ht, hy⟩ := List.mem_flatMap.mp hy
        have hta : t ≠ a := fun z => h1 (z ▸ ht)
        have : x.dropLast = a := by
          rcases List.mem_cons.mp hx with rfl | hx
          · simp
          · rcases List.mem_cons.mp hx with rfl | hx
            · simp
            · cases hx
        have : x.dropLast = t := by
          rcases List.mem_cons.mp hy with rfl | hy
          · simp
          · rcases List.mem_cons.mp hy with rfl | hy
            · simp
            · cases hy
        exact hta (by rw [← this]; assumption)
    exact key _ (allB_nodup c)
end Fl

namespace Fl
open PySem PySem.Spec PyProof.Rows L2

def bodyQ : S := (sSeq (sSet 6 (vPopAt 3 (vC (.int 0))))
  (sSeq (sExpr (vAppend 4 (vTup (aCons (vVar 2) (aCons (vVar 6) aNil)))))
  (sSeq (sExpr (vAppend 3 (vIf (asB (vOp dEq (.val (vVar 5)) (.val (vC (.str "s"))))) (vVar 6) (vVar 2))))
  (sSet 2 (vIf (asB (vOp dEq (.val (vVar 5)) (.val (vC (.str "s"))))) (vVar 2) (vVar 6))))))
theorem ixz (k : Nat) : ixN (k + 1) 0 = some 0 := by simp [ixN]
theorem loop_Q (n : Int) (t : D) : ∀ (bs : List Bool) (x : Int) (q : List Int) (ps : List (Int × Int)) (o o6 : Option D), 1 ≤ q.length → q.length ≤ 1000 → ps.length + bs.length ≤ 1000 →
    ∃ o' o6' x' q', runS bs (x :: q) = x' :: q' ∧ forL (gN 5) bodyQ (bs.map fun b => D.str (txt [b])) [some (.int n), some t, some (.int x), some (.lst (q.map D.int)), some (.lst (ps.map pD)), o, o6] = .nx [some (.int n), some t, some (.int x'), some (.lst (q'.map D.int)), some (.lst ((ps ++ prs bs (x :: q)).map pD)), o', o6']
  | [], x, q, ps, o, o6, _, _, _ => ⟨o, o6, x, q, rfl, by simp [forL, prs]⟩
  | b :: bs, x, q, ps, o, o6, h2, h3, h4 => by
    rw [List.length_cons] at h4
    match q, h2, h3 with
    | y :: r, h2, h3 =>
      have hr : r.length ≤ 1000000 := by simp at h3; omega
      have hr' : r.length ≤ 999 := by simp at h3; omega
      have hp : ps.length ≤ 1000000 := by omega
      cases b with
      | true =>
        have e : (txt [true] == Str.ofString "s") = true := by rw [txt_s]; simp
        obtain ⟨o', o6', x', q', e1, e2⟩ := loop_Q n t bs x (r ++ [y]) (ps ++ [(x, y)]) (some (.str (txt [true]))) (some (.int y)) (by simp) (by simp; omega) (by simp; omega)
        refine ⟨o', o6', x', q', e1, ?_⟩
        have st : bodyQ [some (.int n), some t, some (.int x), some (.lst ((y :: r).map D.int)), some (.lst (ps.map pD)), some (.str (txt [true])), o6] = .nx [some (.int n), some t, some (.int x), some (.lst ((r ++ [y]).map D.int)), some (.lst ((ps ++ [(x, y)]).map pD)), some (.str (txt [true])), some (.int y)] := by
          simp [bodyQ, sSeq, sSet, vPopAt, vC, R.bind, R.toS, R.ofO, ixz, sExpr, vAppend, vTup, aCons, aNil, vVar, hp, hr, vIf, asB, vOp, evO, rsO, dEq, e, pD]
        simp only [List.map_cons] at st
        simp only [List.map_cons, forL, gN, List.set_cons_succ, List.set_cons_zero, st, e2, prs, hdP, stp]
        simp
      | false =>
        have e : (txt [false] == Str.ofString "s") = false := by rw [txt_s, txt_beq]; rfl
        obtain ⟨o', o6', x', q', e1, e2⟩ := loop_Q n t bs y (r ++ [x]) (ps ++ [(x, y)]) (some (.str (txt [false]))) (some (.int y)) (by simp) (by simp; omega) (by simp; omega)
        refine ⟨o', o6', x', q', e1, ?_⟩
        have st : bodyQ [some (.int n), some t, some (.int x), some (.lst ((y :: r).map D.int)), some (.lst (ps.map pD)), some (.str (txt [false])), o6] = .nx [some (.int n), some t, some (.int y), some (.lst ((r ++ [x]).map D.int)), some (.lst ((ps ++ [(x, y)]).map pD)), some (.str (txt [false])), some (.int y)] := by
          simp [bodyQ, sSeq, sSet, vPopAt, vC, R.bind, R.toS, R.ofO, ixz, sExpr, vAppend, vTup, aCons, aNil, vVar, hp, hr, vIf, asB, vOp, evO, rsO, dEq, e, pD]
        simp only [List.map_cons] at st
        simp only [List.map_cons, forL, gN, List.set_cons_succ, List.set_cons_zero, st, e2, prs, hdP, stp]
        simp
theorem q_played (n : Int) (bs : List Bool) (h : 3 ≤ n) (h2 : n ≤ 12) (hl : bs.length ≤ 200) : ∃ b, F__law_played [.int n, .str (txt bs)] = .ok (.tup [.lst ((prs bs (rg 0 n)).map pD), .tup ((runS bs (rg 0 n)).map D.int)]) b := by
  have e0 : rg 0 n = 0 :: rg 1 n := rg_cons (by omega)
  obtain ⟨o, o6, x', q', e1, e2⟩ := loop_Q n (.str (txt bs)) bs 0 (rg 1 n) [] none none (by rw [rg_len]; omega) (by rw [rg_len]; omega) (by simp; omega)
  have hm : m__law_played = sSeq (sPar [2, 3, 4] [(false, (vC (.int 0))), (true, (vLstRg (vRg2 (vC (.int 1)) (vVar 0)))), (true, (vLst aNil))]) (sSeq (sFor (vIt itS (vVar 1)) (gN 5) bodyQ)
    (sRet (vTup (aCons (vMove 4) (aCons (vB fTuple [(.val (vOp dAdd (.val (vLst (aCons (vVar 2) aNil))) (.own 3)))]) aNil))))) := rfl
  have hg : rgOk 1 n = true := by simp [rgOk]; omega
  have hq : 1 + q'.length ≤ 1000000 := by
    have := congrArg List.length e1
    rw [runS_len, List.length_cons, List.length_cons, rg_len] at this
    omega
  rw [e0]
  refine ⟨.int n, ?_⟩
  simp only [List.map_nil, List.nil_append] at e2
  simp [F__law_played, runF, hm, sSeq, sPar, evX, setsE, vLstRg, vRg2, vVar, vC, R.bind, R.toS, R.ofO, hg, vLst, aNil, aCons, sFor, vIt, itS_txt, rgD_rg, e2, sRet, vTup, vMove, vB, evOs, rsOs, evO, rsO, vOp, dAdd, hq, fTuple, e1, bagOf]
end Fl

namespace Fl
open PySem PySem.Spec PyProof.Rows L2

/-! ## all orders -/
def ntin (row : List Int) (p : Int) : Bool := !(row.any fun z => z == p)
def grow (N : Nat) (row : List Int) : List (List Int) := ((rg 0 (N : Int)).filter (ntin row)).map fun p => row ++ [p]
def ordP (N : Nat) : Nat → List (List Int)
  | 0 => [[]]
  | k + 1 => (ordP N k).flatMap (grow N)
theorem ordP_len (N : Nat) : ∀ (k : Nat) (l : List Int), l ∈ ordP N k → l.length = k
  | 0, l, h => by
    have : l = [] := by simpa [ordP] using h
    subst this; rfl
  | k + 1, l, h => by
    obtain ⟨row, h1, h2⟩ := List.mem_flatMap.mp h
    obtain ⟨p, _, rfl⟩ := List.mem_map.mp h2
    simp [ordP_len N k row h1]
theorem ntin_iff {row : List Int} {p : Int} : ntin row p = true ↔ p ∉ row := by
  unfold ntin
  simp only [Bool.not_eq_true', List.any_eq_false, beq_iff_eq]
  exact ⟨fun h z => h p z rfl, fun h x hx e => h (e ▸ hx)⟩
theorem ordP_mem (N : Nat) : ∀ (k : Nat) (l : List Int), l.length = k → l.Nodup → (∀ x ∈ l, x ∈ rg 0 (N : Int)) → l ∈ ordP N k
  | 0, l, h, _, _ => by
    have : l = [] := List.length_eq_zero_iff.mp h
    subst this; simp [ordP]
  | k + 1, l, h, hn, hm => by
    have hne : l ≠ [] := fun z => by subst z; simp at h
    have e := List.dropLast_concat_getLast hne
    rw [← e] at hn hm ⊢
    have hnd := List.nodup_append.mp hn
    refine List.mem_flatMap.mpr ⟨l.dropLast, ordP_mem N k _ (by simp [h]) hnd.1 (fun x hx => hm x (List.mem_append_left _ hx)), ?_⟩
    refine List.mem_map.mpr ⟨l.getLast hne, List.mem_filter.mpr ⟨hm _ (by simp), ?_⟩, rfl⟩
    exact ntin_iff.mpr fun z => hnd.2.2 _ z _ (.head _) rfl
theorem ordP_sound (N : Nat) : ∀ (k : Nat) (l : List Int), l ∈ ordP N k → l.Nodup ∧ ∀ x ∈ l, x ∈ rg 0 (N : Int)
  | 0, l, h => by
    have : l = [] := by simpa [ordP] using h
    subst this; simp
  | k + 1, l, h => by
    obtain ⟨row, h1, h2⟩ := List.mem_flatMap.mp h
    obtain ⟨p, h3, rfl⟩ := List.mem_map.mp h2
    obtain ⟨h4, h5⟩ := List.mem_filter.mp h3
    obtain ⟨i1, i2⟩ := ordP_sound N k row h1
    refine ⟨List.nodup_append.mpr ⟨i1, by simp, fun a ha b hb e => ?_⟩, fun x hx => ?_⟩
    · subst e
      have : a = p := by simpa using hb
      subst this
      exact ntin_iff.mp h5 ha
    · rcases List.mem_append.mp hx with q | q
      · exact i2 x q
      · have : x = p := by simpa using q
        subst this; exact h4
theorem ordP_nodup (N : Nat) : ∀ k : Nat, (ordP N k).Nodup
  | 0 => by simp [ordP]
  | k + 1 => by
    have key : ∀ L : List (List Int), L.Nodup → (L.flatMap (grow N)).Nodup := fun L => by
      induction L with
      | nil => intro _; exact List.nodup_nil
      | cons a L ih =>
        intro h
        obtain ⟨h1, h2⟩ := List.nodup_cons.mp h
        rw [List.flatMap_cons]
        refine List.nodup_append.mpr ⟨?_, ih h2, fun x hx y hy e => ?_⟩
        · unfold grow
          have hr : ((rg 0 (N : Int)).filter (ntin a)).Nodup := (rg_nodup 0 (N : Int)).filter _
          exact List.Pairwise.map _ (fun p q hpq z => hpq (by simpa using z)) hr
        · subst e
          obtain ⟨t, ht, hy⟩ := List.mem_flatMap.mp hy
          obtain ⟨p, _, rfl⟩ := List.mem_map.mp hx
          obtain ⟨q, _, hq⟩ := List.mem_map.mp hy
          have : t = a := by
            have := congrArg List.dropLast hq
            simpa using this
          exact h1 (this ▸ ht)
    exact key _ (ordP_nodup N k)

theorem nodup_perm {α : Type} [DecidableEq α] : ∀ (l m : List α), l.Nodup → (∀ x ∈ l, x ∈ m) → m.length = l.length → l.Perm m
  | [], m, _, _, h => by
    have : m = [] := List.length_eq_zero_iff.mp h
    subst this; exact .refl _
  | x :: l, m, hn, h, hl => by
    obtain ⟨h1, h2⟩ := List.nodup_cons.mp hn
    have hx := h x (.head _)
    have ih := nodup_perm l (m.erase x) h2 (fun y hy => (List.mem_erase_of_ne (by rintro rfl; exact h1 hy)).mpr (h y (.tail _ hy))) (by rw [List.length_erase_of_mem hx, hl]; simp)
    exact (ih.cons x).trans (List.perm_cons_erase hx).symm
theorem ordP_perm (N : Nat) (l : List Int) (h : l ∈ ordP N N) : l.Perm (rg 0 (N : Int)) := by
  obtain ⟨h1, h2⟩ := ordP_sound N N l h
  have h3 := ordP_len N N l h
  exact nodup_perm l _ h1 h2 (by rw [rg_len, h3]; omega)
theorem perm_ordP (N : Nat) (l : List Int) (h : l.Perm (rg 0 (N : Int))) : l ∈ ordP N N :=
  ordP_mem N N l (by rw [h.length_eq, rg_len]; omega) (h.nodup_iff.mpr (rg_nodup _ _)) fun x hx => h.mem_iff.mp hx
theorem ordP_size (N : Nat) (h : N ≤ 6) : ∀ k, k ≤ N → (ordP N k).length ≤ 720 := by
  have : ∀ N ∈ List.range 7, ∀ k ∈ List.range 7, k ≤ N → (ordP N k).length ≤ 720 := by decide +kernel
  exact fun k hk => this N (List.mem_range.mpr (by omega)) k (List.mem_range.mpr (by omega)) hk
end Fl

namespace Fl
open PySem PySem.Spec PyProof.Rows L2

theorem find_noneA {α : Type} {p : α → Bool} {l : List α} (h : ∀ a ∈ l, p a = false) : l.find? p = none := by
  rw [List.find?_eq_none]
  intro a ha
  rw [h a ha]; simp
/-! ## dicts that count -/
abbrev As := List (List Int × Int)
def KA (as : As) : D := .dct true (as.map fun a => tupD a.1) (as.map fun a => D.int a.2)
def look (as : As) (key : List Int) : Int := ((as.find? fun a => decide (a.1 = key)).map (·.2)).getD 0
def setK (as : As) (key : List Int) (x : Int) : As := if (as.any fun a => decide (a.1 = key)) = true then as.map (fun a => (a.1, if a.1 = key then x else a.2)) else as ++ [(key, x)]
def Sm (as : As) (φ : List Int → Int) : Int := (as.map fun a => a.2 * φ a.1).sum
def KN (as : As) : Prop := (as.map (·.1)).Nodup
theorem look_nil (key : List Int) : look [] key = 0 := rfl
theorem look_pos {a : List Int × Int} {as : As} {key : List Int} (h : a.1 = key) : look (a :: as) key = a.2 := by
  unfold look; rw [List.find?_cons, decide_eq_true h]; rfl
theorem look_neg {a : List Int × Int} {as : As} {key : List Int} (h : a.1 ≠ key) : look (a :: as) key = look as key := by
  unfold look; rw [List.find?_cons, decide_eq_false h]
theorem get_KA (as : As) (key : List Int) : (dGot (KA as) (tupD key)).map (fun g => g.getD (.int 0)) = some (.int (look as key)) := by
  have := dGot_map (fun a : List Int × Int => a.1) (fun a => D.int a.2) key as
  unfold KA
  rw [this]
  show some _ = _
  unfold look
  cases as.find? fun a => decide (a.1 = key) <;> rfl
theorem dg_KA : ∀ (as : As) (a : List Int × Int), KN as → a ∈ as → dDg (KA as) (tupD a.1) = some (.int a.2) := by
  intro as a hn ha
  have := dGot_map (fun a : List Int × Int => a.1) (fun a => D.int a.2) a.1 as
  unfold dDg KA
  rw [this]
  have key : ∀ as : As, KN as → a ∈ as → as.find? (fun b => decide (b.1 = a.1)) = some a := by
    intro as
    induction as with
    | nil => intro _ h; cases h
    | cons b as ih =>
      intro hn h
      obtain ⟨h1, h2⟩ := List.nodup_cons.mp (show (b.1 :: as.map (·.1)).Nodup from hn)
      rw [List.find?_cons]
      rcases List.mem_cons.mp h with rfl | h
      · rw [decide_eq_true rfl]
      · rw [decide_eq_false (by intro e; exact h1 (e ▸ List.mem_map.mpr ⟨a, h, rfl⟩))]
        exact ih h2 h
  rw [key as hn ha]; rfl
theorem repl_KA (key : List Int) (x : Int) : ∀ as : As, dRepl keyT (tupD key) (.int x) (as.map fun a => tupD a.1) (as.map fun a => D.int a.2) = as.map fun a => D.int (if a.1 = key then x else a.2)
  | [] => rfl
  | a :: as => by
    have ih := repl_KA key x as
    rw [List.map_cons, List.map_cons, List.map_cons, dRepl, ih]
    congr 1
    by_cases h : a.1 = key
    · rw [if_pos (keyT_iff.mpr h), if_pos h]
    · rw [if_neg (fun z => h (keyT_iff.mp z)), if_neg h]
theorem put_KA (as : As) (key : List Int) (x : Int) (hl : as.length < 1000000) : dPut (KA as) (tupD key) (.int x) = some (KA (setK as key x)) := by
  have h1 : (keyT (tupD key)).isSome = true ∧ (as.map fun a => tupD a.1).length < 1000000 := ⟨by rw [keyT_tup]; rfl, by simpa using hl⟩
  have h2 := dHas_map (fun a : List Int × Int => a.1) key as
  unfold KA setK
  simp only [dPut, if_pos h1, h2]
  by_cases c : (as.any fun a => decide (a.1 = key)) = true
  · rw [if_pos c, if_pos c, repl_KA, List.map_map, List.map_map]
    rfl
  · rw [if_neg c, if_neg c]
    simp
theorem keys_set (as : As) (key : List Int) (x : Int) : ∀ h ∈ (setK as key x).map (·.1), h ∈ as.map (·.1) ∨ h = key := by
  intro h hh
  unfold setK at hh
  split at hh
  · rw [List.map_map] at hh
    exact .inl hh
  · rw [List.map_append] at hh
    rcases List.mem_append.mp hh with z | z
    · exact .inl z
    · exact .inr (by simpa using z)
theorem KN.set {as : As} (h : KN as) (key : List Int) (x : Int) : KN (setK as key x) := by
  unfold KN setK
  split
  · rw [List.map_map]; exact h
  · rename_i c
    rw [List.map_append]
    refine List.nodup_append.mpr ⟨h, by simp, fun a ha b hb e => ?_⟩
    subst e
    have hk : a = key := by simpa using hb
    subst hk
    obtain ⟨q, hq, rfl⟩ := List.mem_map.mp ha
    exact c (List.any_eq_true.mpr ⟨q, hq, decide_eq_true rfl⟩)
theorem Sm_cons (a : List Int × Int) (as : As) (φ : List Int → Int) : Sm (a :: as) φ = a.2 * φ a.1 + Sm as φ := rfl
theorem Sm_set : ∀ (as : As) (key : List Int) (v : Int) (φ : List Int → Int), KN as → Sm (setK as key (look as key + v)) φ = Sm as φ + v * φ key
  | [], key, v, φ, _ => by
    show (0 + v) * φ key + 0 = 0 + v * φ key
    rw [Int.zero_add]; omega
  | a :: as, key, v, φ, hn => by
    obtain ⟨h1, h2⟩ := List.nodup_cons.mp (show (a.1 :: as.map (·.1)).Nodup from hn)
    by_cases h : a.1 = key
    · have e : setK (a :: as) key (look (a :: as) key + v) = (a.1, a.2 + v) :: as := by
        rw [look_pos h]
        unfold setK
        rw [if_pos (List.any_eq_true.mpr ⟨a, .head _, decide_eq_true h⟩), List.map_cons, if_pos h]
        congr 1
        have : as.map (fun b => (b.1, if b.1 = key then a.2 + v else b.2)) = as.map id := List.map_congr_left fun b hb => by
          rw [if_neg (by intro e; exact h1 (h ▸ e ▸ List.mem_map.mpr ⟨b, hb, rfl⟩))]; rfl
        rw [this, List.map_id]
      rw [e, Sm_cons, Sm_cons, Int.add_mul, h]; omega
    · have ih := Sm_set as key v φ h2
      have e : setK (a :: as) key (look (a :: as) key + v) = a :: setK as key (look as key + v) := by
        rw [look_neg h]
        unfold setK
        by_cases c : (as.any fun a => decide (a.1 = key)) = true
        · rw [if_pos c, if_pos (by rw [List.any_cons, c, Bool.or_true]), List.map_cons, if_neg h]
        · rw [if_neg c, if_neg (by rw [List.any_cons, decide_eq_false h, Bool.false_or]; exact c)]; rfl
      rw [e, Sm_cons, Sm_cons, ih]; omega
theorem look_Sm (key : List Int) : ∀ as : As, KN as → look as key = Sm as fun h => if h = key then 1 else 0
  | [], _ => rfl
  | a :: as, hn => by
    obtain ⟨h1, h2⟩ := List.nodup_cons.mp (show (a.1 :: as.map (·.1)).Nodup from hn)
    have ih := look_Sm key as h2
    rw [Sm_cons]
    by_cases h : a.1 = key
    · rw [look_pos h, if_pos h, ← ih]
      have : look as key = 0 := by
        unfold look
        rw [find_noneA fun b hb => decide_eq_false (by intro e; exact h1 (h ▸ e ▸ List.mem_map.mpr ⟨b, hb, rfl⟩))]; rfl
      rw [this]; omega
    · rw [look_neg h, if_neg h, ih]; omega
theorem Sm_add (as : As) (φ ψ : List Int → Int) : Sm as (fun h => φ h + ψ h) = Sm as φ + Sm as ψ := by
  induction as with
  | nil => rfl
  | cons a as ih => rw [Sm_cons, Sm_cons, Sm_cons, ih, Int.mul_add]; omega
/-- the sum over all results of a length -/
def Sg (N c : Nat) (φ : List Int → Int) : Int := ((allB c).map fun bs => φ (runS bs (rg 0 (N : Int)))).sum
theorem runS_snoc (b : Bool) : ∀ (bs : List Bool) (l : List Int), runS (bs ++ [b]) l = stp b (runS bs l)
  | [], l => rfl
  | c :: bs, l => by rw [List.cons_append, runS, runS, runS_snoc b bs]
theorem Sg_succ (N c : Nat) (φ : List Int → Int) : Sg N (c + 1) φ = Sg N c fun h => φ (stp false h) + φ (stp true h) := by
  unfold Sg
  rw [allB]
  induction allB c with
  | nil => rfl
  | cons a l ih =>
    rw [List.flatMap_cons, List.map_append, List.sum_append, ih, List.map_cons, List.sum_cons]
    congr 1
    simp [runS_snoc]
theorem Sg_zero (N : Nat) (φ : List Int → Int) : Sg N 0 φ = φ (rg 0 (N : Int)) := by
  unfold Sg
  simp [allB, runS]
/-- how many results lead to an order -/
def ways (N c : Nat) (st : List Int) : Int := Sg N c fun h => if h = st then 1 else 0
end Fl

namespace Fl
open PySem PySem.Spec PyProof.Rows L2

theorem rg_mem {a b x : Int} (h : x ∈ rg a b) : a ≤ x ∧ x < b := by
  obtain ⟨i, hi, rfl⟩ := List.mem_map.mp h
  have := List.mem_range.mp hi
  omega
theorem mem_rg {a b x : Int} (h : a ≤ x) (h2 : x < b) : x ∈ rg a b := by
  refine List.mem_map.mpr ⟨(x - a).toNat, List.mem_range.mpr (by omega), by omega⟩
theorem q_require_number (k lo hi : Int) (h : lo ≤ k) (h2 : k ≤ hi) : ∃ b, F_require_number [.int k, .int lo, .int hi] = .ok .non b :=
  ⟨.int k, by simp [F_require_number, runF, m_require_number, sIf, bNot, asB, vCall, aCons, aNil, vVar, R.bind, R.toS, q_is_integer k lo hi h h2, sNx, bagOf]⟩
theorem q_require_few (k : Int) (h : 3 ≤ k) (h2 : k ≤ 6) : ∃ b, F_require_few [.int k] = .ok .non b :=
  ⟨.int k, by simp [F_require_few, runF, m_require_few, sIf, bNot, asB, vCall, aCons, aNil, vVar, vC, R.bind, R.toS, q_is_integer k 3 6 h h2, sNx, bagOf]⟩
theorem q_require_order (n : Int) (l : List Int) (h : 3 ≤ n) (h2 : n ≤ 12) (hp : l.Perm (rg 0 n)) : ∃ b, F_require_order [.int n, .tup (l.map D.int)] = .ok .non b := by
  have hl : l.length = n.toNat := by rw [hp.length_eq, rg_len]; omega
  obtain ⟨b, e⟩ := q_are_players n l (fun x hx => rg_mem (hp.mem_iff.mp hx)) (by omega)
  have so : fSorted [.tup (l.map D.int)] = some (.lst ((rg 0 n).map D.int)) := by
    simp only [fSorted, ints_int, Option.map_some]
    rw [sorted_one ((isort_perm l).trans hp) (isort_sorted l) ((rg_lt 0 n).imp fun h => by omega)]
  have hg : rgOk 0 n = true := by simp [rgOk]; omega
  have ne := dNe_lst (ok_ints 59 (rg 0 n)) rfl
  refine ⟨.int n, ?_⟩
  rw [← rgD_rg] at so ne
  simp [F_require_order, runF, m_require_order, sIf, bOr, bNot, asB, vCall, aCons, aNil, vVar, vC, R.bind, R.toS, R.ofO, e, vOp, evO, rsO, vB, evOs, rsOs, so, vLstRg, vRg1, hg, ne, sNx, bagOf]
theorem q_afterT (h : List Int) (b : Bool) (h3 : 2 ≤ h.length) (h4 : h.length ≤ 1000) : ∃ c, F_after [tupD h, .str (txt [b])] = .ok (tupD (stp b h)) c := by
  match h, h3, h4 with
  | x :: y :: r, _, h4 => exact ⟨_, q_after x y r b (by simp at h4; omega)⟩
theorem vget_KA (la : As) (key : List Int) (e : Env) (i : Nat) (mk : M) (e2 : Env) (h : e[i]? = some (some (KA la))) (hk : mk e = .ok (tupD key) e) : vGet2 (.own i) mk (vC (.int 0)) e = .ok (.int (look la key)) e := by
  have := get_KA la key
  cases hg : dGot (KA la) (tupD key) with
  | none => rw [hg] at this; cases this
  | some g =>
    rw [hg] at this
    have : g.getD (.int 0) = .int (look la key) := Option.some.inj this
    simp [vGet2, evO, rsO, h, isDct, KA, R.bind, hk, vC, R.ofO]
    have hg' : dGot (D.dct true (la.map fun a => tupD a.1) (la.map fun a => D.int a.2)) (tupD key) = some g := hg
    rw [hg']
    simp [this]
structure KOk (N : Nat) (as : As) : Prop where
  nd : KN as
  mem : ∀ h ∈ as.map (·.1), h ∈ ordP N N
theorem KOk.size {N : Nat} {as : As} (hN : N ≤ 6) (k : KOk N as) : as.length ≤ 720 := by
  have := nodup_len (as.map (fun a : List Int × Int => a.1)) (ordP N N) k.nd k.mem
  rw [List.length_map] at this
  exact Nat.le_trans this (ordP_size N hN N (Nat.le_refl _))
theorem KOk.set {N : Nat} {as : As} (k : KOk N as) {key : List Int} (hk : key ∈ ordP N N) (x : Int) : KOk N (setK as key x) :=
  ⟨k.nd.set key x, fun h hh => (keys_set as key x h hh).elim (k.mem h) fun e => e ▸ hk⟩
theorem stp_ord {N : Nat} {h : List Int} (b : Bool) (hh : h ∈ ordP N N) : stp b h ∈ ordP N N := perm_ordP N _ ((stp_perm b h).trans (ordP_perm N h hh))
def addW (la : As) (h : List Int) (v : Int) : As := setK la h (look la h + v)
theorem Sm_addW (la : As) (h : List Int) (v : Int) (φ : List Int → Int) (k : KN la) : Sm (addW la h v) φ = Sm la φ + v * φ h := Sm_set la h v φ k
def bodyC1 : S := (sSeq (sSet 8 (vCall 2 F_after (aCons (vVar 6) (aCons (vVar 7) aNil))))
  (sDPut 5 (vVar 8) (vOp dAdd (.val (vGet2 (.own 5) (vVar 8) (vC (.int 0)))) (.val (vOp dDg (.val (vVar 3)) (.val (vVar 6)))))))
theorem turn_C1 (N : Nat) (hN : 3 ≤ N) (hN2 : N ≤ 6) (v0 v1 v2 v4 o8 : Option D) (as la : As) (a : List Int × Int) (b : Bool) (ka : KOk N as) (ha : a ∈ as) (kl : KOk N la) :
    bodyC1 [v0, v1, v2, some (KA as), v4, some (KA la), some (tupD a.1), some (.str (txt [b])), o8] = .nx [v0, v1, v2, some (KA as), v4, some (KA (addW la (stp b a.1) a.2)), some (tupD a.1), some (.str (txt [b])), some (tupD (stp b a.1))] := by
  have hm : a.1 ∈ ordP N N := ka.mem _ (List.mem_map.mpr ⟨a, ha, rfl⟩)
  have hl := ordP_len N N a.1 hm
  obtain ⟨c, qa⟩ := q_afterT a.1 b (by omega) (by omega)
  have dg := dg_KA as a ka.nd ha
  have pt := put_KA la (stp b a.1) (look la (stp b a.1) + a.2) (by have := kl.size hN2; omega)
  have vg := vget_KA la (stp b a.1) [v0, v1, v2, some (KA as), v4, some (KA la), some (tupD a.1), some (.str (txt [b])), some (tupD (stp b a.1))] 5 (vVar 8) [] rfl rfl
  have pt' : dPut (KA la) (tupD (stp b a.1)) (.int (look la (stp b a.1) + a.2)) = some (KA (addW la (stp b a.1) a.2)) := pt
  generalize KA (addW la (stp b a.1) a.2) = K3 at *
  generalize KA as = K1 at *
  generalize KA la = K2 at *
  generalize tupD (stp b a.1) = T2 at *
  generalize tupD a.1 = T1 at *
  simp [bodyC1, sSeq, sSet, vCall, aCons, aNil, vVar, R.bind, R.toS, R.ofO, qa, sDPut, vOp, evO, rsO, dg, dAdd] at vg ⊢
  rw [vg]
  simp [dg, pt']
def bodyC2 : S := (sFor (vIt itT (vTup (aCons (vC (.str "s")) (aCons (vC (.str "n")) aNil)))) (gN 7) bodyC1)
structure IC (N : Nat) (v0 v1 v2 v4 : Option D) (as pre : As) (e : Env) : Prop where
  hh : ∃ la o6 o7 o8, e = [v0, v1, v2, some (KA as), v4, some (KA la), o6, o7, o8] ∧ KOk N la ∧ ∀ φ, Sm la φ = Sm pre fun h => φ (stp true h) + φ (stp false h)
theorem Sm_snoc (pre : As) (a : List Int × Int) (φ : List Int → Int) : Sm (pre ++ [a]) φ = Sm pre φ + a.2 * φ a.1 := by
  unfold Sm
  simp
theorem turn_C2 (N : Nat) (hN : 3 ≤ N) (hN2 : N ≤ 6) (v0 v1 v2 v4 : Option D) (as : As) (ka : KOk N as) (pre : As) (a : List Int × Int) (ha : a ∈ as) (e : Env) (I : IC N v0 v1 v2 v4 as pre e) :
    ∃ e1, gN 6 (tupD a.1) e = some e1 ∧ Nx bodyC2 e1 (IC N v0 v1 v2 v4 as (pre ++ [a])) := by
  obtain ⟨la, o6, o7, o8, rfl, kl, hs⟩ := I
  have hm : a.1 ∈ ordP N N := ka.mem _ (List.mem_map.mpr ⟨a, ha, rfl⟩)
  refine ⟨_, rfl, ?_⟩
  have k1 : KOk N (addW la (stp true a.1) a.2) := kl.set (stp_ord true hm) _
  have k2 : KOk N (addW (addW la (stp true a.1) a.2) (stp false a.1) a.2) := k1.set (stp_ord false hm) _
  have t1 := turn_C1 N hN hN2 v0 v1 v2 v4 o8 as la a true ka ha kl
  have t2 := turn_C1 N hN hN2 v0 v1 v2 v4 (some (tupD (stp true a.1))) as (addW la (stp true a.1) a.2) a false ka ha k1
  refine ⟨[v0, v1, v2, some (KA as), v4, some (KA (addW (addW la (stp true a.1) a.2) (stp false a.1) a.2)), some (tupD a.1), some (.str (txt [false])), some (tupD (stp false a.1))], ?_, ⟨_, _, _, _, rfl, k2, fun φ => ?_⟩⟩
  · rw [← txt_s] at t1
    rw [← txt_n] at t2
    rw [← txt_n]
    generalize KA (addW (addW la (stp true a.1) a.2) (stp false a.1) a.2) = K3 at *
    generalize KA (addW la (stp true a.1) a.2) = K2 at *
    generalize KA as = K1 at *
    generalize KA la = K0 at *
    generalize tupD (stp true a.1) = T2 at *
    generalize tupD (stp false a.1) = T3 at *
    generalize tupD a.1 = T1 at *
    simp [bodyC2, sFor, vIt, vTup, aCons, aNil, vC, R.bind, R.toS, R.ofO, itT, forL, gN, t1, t2]
  · rw [Sm_addW _ _ _ _ k1.nd, Sm_addW _ _ _ _ kl.nd, hs φ, Sm_snoc, Int.mul_add]; omega
def bodyC3 : S := (sSeq (sSet 5 (vC (.dct true [] []))) (sSeq (sForD 3 (gN 6) bodyC2) (sSet 3 (vMove 5))))
structure IG (N : Nat) (v0 v1 v2 : Option D) (g : Nat) (e : Env) : Prop where
  hh : ∃ as o4 o5 o6 o7 o8, e = [v0, v1, v2, some (KA as), o4, o5, o6, o7, o8] ∧ KOk N as ∧ ∀ φ, Sm as φ = Sg N g φ
theorem turn_C3 (N : Nat) (hN : 3 ≤ N) (hN2 : N ≤ 6) (v0 v1 v2 : Option D) (g : Nat) (d : D) (e : Env) (I : IG N v0 v1 v2 g e) : ∃ e1, gN 4 d e = some e1 ∧ Nx bodyC3 e1 (IG N v0 v1 v2 (g + 1)) := by
  obtain ⟨as, o4, o5, o6, o7, o8, rfl, ka, hs⟩ := I
  refine ⟨_, rfl, ?_⟩
  obtain ⟨e', h1, h2⟩ := nx_forW (f := gN 6) (b := bodyC2) (fun a : List Int × Int => tupD a.1) (IC N v0 v1 v2 (some d) as) as [] (fun pre a post hp e he => turn_C2 N hN hN2 v0 v1 v2 (some d) as ka pre a (by rw [List.nil_append] at hp; rw [hp]; simp) e he)
    [v0, v1, v2, some (KA as), some d, some (KA []), o6, o7, o8] ⟨[], o6, o7, o8, rfl, ⟨List.nodup_nil, fun h hh => by cases hh⟩, fun φ => rfl⟩
  obtain ⟨la, p6, p7, p8, rfl, kl, hl⟩ := h2
  rw [List.nil_append] at hl
  refine ⟨[v0, v1, v2, some (KA la), some d, none, p6, p7, p8], ?_, ⟨la, some d, none, p6, p7, p8, rfl, kl, fun φ => ?_⟩⟩
  · have e0 : KA [] = .dct true [] [] := rfl
    rw [e0] at h1
    have ks : KA as = .dct true (as.map fun a => tupD a.1) (as.map fun a => D.int a.2) := rfl
    rw [ks] at h1 ⊢
    simp [bodyC3, sSeq, sSet, vC, R.toS, sForD, h1, vMove]
  · rw [hl φ, hs, Sg_succ]
    congr 1
    funext h
    omega
theorem loop_C (N : Nat) (hN : 3 ≤ N) (hN2 : N ≤ 6) (v0 v1 v2 : Option D) : ∀ (ds : List D) (g : Nat) (e : Env), IG N v0 v1 v2 g e → ∃ e', forL (gN 4) bodyC3 ds e = .nx e' ∧ IG N v0 v1 v2 (g + ds.length) e'
  | [], g, e, h => ⟨e, rfl, h⟩
  | d :: ds, g, e, h => by
    obtain ⟨e1, h1, e2, h2, h3⟩ := turn_C3 N hN hN2 v0 v1 v2 g d e h
    obtain ⟨e', h4, h5⟩ := loop_C N hN hN2 v0 v1 v2 ds (g + 1) e2 h3
    refine ⟨e', by rw [forL, h1]; simp only [h2, h4], ?_⟩
    rw [List.length_cons, show g + (ds.length + 1) = g + 1 + ds.length by omega]
    exact h5
theorem q_count_ways (N : Nat) (st : List Int) (c : Nat) (hN : 3 ≤ N) (hN2 : N ≤ 6) (hp : st.Perm (rg 0 (N : Int))) (hc : c ≤ 60) : ∃ b, F_count_ways [.int (N : Int), tupD st, .int (c : Int)] = .ok (.int (ways N c st)) b := by
  obtain ⟨b1, e1⟩ := q_require_few (N : Int) (by omega) (by omega)
  obtain ⟨b2, e2⟩ := q_require_order (N : Int) st (by omega) (by omega) hp
  obtain ⟨b3, e3⟩ := q_require_number (c : Int) 0 60 (by omega) (by omega)
  have e2' : F_require_order [.int (N : Int), tupD st] = .ok .non b2 := e2
  have hg : rgOk 0 (N : Int) = true := by simp [rgOk]; omega
  have k0 : KOk N [(rg 0 (N : Int), 1)] := ⟨by unfold KN; simp, fun h hh => by
    have : h = rg 0 (N : Int) := by simpa using hh
    subst this
    exact perm_ordP N _ (.refl _)⟩
  obtain ⟨e', h1, as, o4, o5, o6, o7, o8, rfl, ka, hs⟩ := loop_C N hN hN2 (some (.int (N : Int))) (some (tupD st)) (some (.int (c : Int))) (rgD 0 (c : Int)) 0 [some (.int (N : Int)), some (tupD st), some (.int (c : Int)), some (KA [(rg 0 (N : Int), 1)]), none, none, none, none, none]
    ⟨_, none, none, none, none, none, rfl, k0, fun φ => by rw [Sg_zero]; simp [Sm]⟩
  have hl : 0 + (rgD 0 (c : Int)).length = c := by rw [rgD_length]; omega
  rw [hl] at hs
  have vg := vget_KA as st [some (.int (N : Int)), some (tupD st), some (.int (c : Int)), some (KA as), o4, o5, o6, o7, o8] 3 (vVar 1) [] rfl rfl
  have lk : look as st = ways N c st := by rw [look_Sm st as ka.nd, hs]; rfl
  rw [lk] at vg
  have hb : (c : Int) ≤ 100000000 ∧ -100000000 ≤ (c : Int) := by omega
  have hm : m_count_ways = (sSeq (sExpr (vCall 1 F_require_few (aCons (vVar 0) aNil))) (sSeq (sExpr (vCall 2 F_require_order (aCons (vVar 0) (aCons (vVar 1) aNil))))
    (sSeq (sExpr (vCall 3 F_require_number (aCons (vVar 2) (aCons (vC (.int 0)) (aCons (vC (.int 60)) aNil)))))
    (sSeq (sSet 3 (vDisp1 (vTupRg (vRg1 (vVar 0))) (vC (.int 1)))) (sSeq (sFor (vRng1 (vVar 2)) (gN 4) bodyC3) (sRet (vGet2 (.own 3) (vVar 1) (vC (.int 0))))))))) := rfl
  have kt : (keyT (.tup ((rg 0 (N : Int)).map D.int))).isSome = true := by
    have := keyT_tup (rg 0 (N : Int))
    unfold tupD at this
    rw [this]; rfl
  have kd : D.dct true [.tup ((rg 0 (N : Int)).map D.int)] [.int 1] = KA [(rg 0 (N : Int), 1)] := rfl
  refine ⟨.int (N : Int), ?_⟩
  generalize KA [(rg 0 (N : Int), 1)] = K0 at *
  generalize KA as = K1 at *
  generalize tupD st = TS at *
  simp [F_count_ways, runF, hm, sSeq, sExpr, vCall, aCons, aNil, vVar, vC, R.bind, R.toS, e1, e2', e3, sSet, vDisp1, vTupRg, vRg1, hg, rgD_rg, kt, kd, sFor, vRng1, hb]
  rw [← rgD_rg, h1]
  simp [vg, sRet, R.toS, bagOf]
end Fl

namespace Fl
open PySem PySem.Spec PyProof.Rows L2

/-! ## the search in breadth: orders and the results that lead there -/
abbrev Ent := List (List Int × List Bool)
def hasE (as : Ent) (h : List Int) : Bool := as.any fun a => decide (a.1 = h)
def pth (as : Ent) (h : List Int) : List Bool := ((as.find? fun a => decide (a.1 = h)).map (·.2)).getD []
def ins1 (h : List Int) (s : Ent × List (List Int)) (b : Bool) : Ent × List (List Int) := if hasE s.1 (stp b h) = true then s else (s.1 ++ [(stp b h, pth s.1 h ++ [b])], s.2 ++ [stp b h])
def exp2 (s : Ent × List (List Int)) (h : List Int) : Ent × List (List Int) := ins1 h (ins1 h s true) false
def layS (s : Ent × List (List Int)) : Ent × List (List Int) := s.2.foldl exp2 (s.1, [])
def bfs (N : Nat) : Nat → Ent × List (List Int)
  | 0 => ([(rg 0 (N : Int), [])], [rg 0 (N : Int)])
  | d + 1 => layS (bfs N d)
theorem hasE_iff {as : Ent} {h : List Int} : hasE as h = true ↔ ∃ p, (h, p) ∈ as := by
  unfold hasE
  rw [List.any_eq_true]
  constructor
  · rintro ⟨⟨k, p⟩, hm, hd⟩
    have : k = h := of_decide_eq_true hd
    exact ⟨p, this ▸ hm⟩
  · rintro ⟨p, hm⟩
    exact ⟨(h, p), hm, decide_eq_true rfl⟩
theorem hasE_app {as new : Ent} {h : List Int} (x : hasE as h = true) : hasE (as ++ new) h = true := by
  obtain ⟨p, hp⟩ := hasE_iff.mp x
  exact hasE_iff.mpr ⟨p, List.mem_append_left _ hp⟩
theorem pth_app {as new : Ent} {h : List Int} (x : hasE as h = true) : pth (as ++ new) h = pth as h := by
  unfold pth
  rw [List.find?_append]
  cases q : as.find? fun a => decide (a.1 = h) with
  | some a => rfl
  | none =>
    obtain ⟨p, hp⟩ := hasE_iff.mp x
    have := List.find?_eq_none.mp q _ hp
    simp at this
theorem pth_mem {as : Ent} {h : List Int} (x : hasE as h = true) : (h, pth as h) ∈ as := by
  unfold pth
  cases q : as.find? fun a => decide (a.1 = h) with
  | some a =>
    have h1 := List.mem_of_find?_eq_some q
    have h2 := List.find?_some q
    have : a.1 = h := of_decide_eq_true h2
    obtain ⟨k, p⟩ := a
    subst this
    exact h1
  | none =>
    obtain ⟨p, hp⟩ := hasE_iff.mp x
    have := List.find?_eq_none.mp q _ hp
    simp at this
structure MI (N d : Nat) (as0 : Ent) (s : Ent × List (List Int)) : Prop where
  ex : ∃ new : Ent, s.1 = as0 ++ new ∧ s.2 = new.map (·.1) ∧ ∀ a ∈ new, a.2.length = d + 1
  ord : ∀ a ∈ s.1, a.1 ∈ ordP N N
  nd : (s.1.map (·.1)).Nodup
  run : ∀ a ∈ s.1, runS a.2 (rg 0 (N : Int)) = a.1
theorem MI.ins {N d : Nat} {as0 : Ent} {s : Ent × List (List Int)} {h : List Int} {b : Bool} (m : MI N d as0 s) (h0 : hasE as0 h = true) (h1 : (pth as0 h).length = d) : MI N d as0 (ins1 h s b) ∧ hasE (ins1 h s b).1 (stp b h) = true ∧ ∀ x, hasE s.1 x = true → hasE (ins1 h s b).1 x = true := by
  unfold ins1
  by_cases c : hasE s.1 (stp b h) = true
  · rw [if_pos c]
    exact ⟨m, c, fun x hx => hx⟩
  · rw [if_neg c]
    obtain ⟨new, e1, e2, e3⟩ := m.ex
    have hs : hasE s.1 h = true := by rw [e1]; exact hasE_app h0
    have ep : pth s.1 h = pth as0 h := by rw [e1]; exact pth_app h0
    have hm := pth_mem hs
    have ho := m.ord _ hm
    refine ⟨⟨⟨new ++ [(stp b h, pth s.1 h ++ [b])], by rw [e1, List.append_assoc], by rw [List.map_append, e2]; rfl, fun a ha => ?_⟩, fun a ha => ?_, ?_, fun a ha => ?_⟩, hasE_iff.mpr ⟨pth s.1 h ++ [b], by simp⟩, fun x hx => hasE_app hx⟩
    · rcases List.mem_append.mp ha with z | z
      · exact e3 a z
      · rw [List.mem_singleton.mp z, List.length_append, ep, h1]
        rfl
    · rcases List.mem_append.mp ha with z | z
      · exact m.ord a z
      · rw [List.mem_singleton.mp z]
        exact stp_ord b ho
    · rw [List.map_append]
      refine List.nodup_append.mpr ⟨m.nd, by simp, fun x hx y hy => ?_⟩
      have : y = stp b h := by simpa using hy
      subst this
      rintro rfl
      obtain ⟨a, ha, e⟩ := List.mem_map.mp hx
      obtain ⟨k, p⟩ := a
      have e : k = stp b h := e
      subst e
      exact c (hasE_iff.mpr ⟨p, ha⟩)
    · rcases List.mem_append.mp ha with z | z
      · exact m.run a z
      · rw [List.mem_singleton.mp z]
        show runS (pth s.1 h ++ [b]) _ = stp b h
        rw [runS_snoc, m.run _ hm]
theorem MI.exp {N d : Nat} {as0 : Ent} {s : Ent × List (List Int)} {h : List Int} (m : MI N d as0 s) (h0 : hasE as0 h = true) (h1 : (pth as0 h).length = d) : MI N d as0 (exp2 s h) ∧ (∀ b, hasE (exp2 s h).1 (stp b h) = true) ∧ ∀ x, hasE s.1 x = true → hasE (exp2 s h).1 x = true := by
  obtain ⟨a1, a2, a3⟩ := m.ins (b := true) h0 h1
  obtain ⟨b1, b2, b3⟩ := a1.ins (b := false) h0 h1
  refine ⟨b1, fun b => ?_, fun x hx => b3 x (a3 x hx)⟩
  cases b
  · exact b2
  · exact b3 _ a2
theorem MI.fold {N d : Nat} {as0 : Ent} : ∀ (L : List (List Int)) (s : Ent × List (List Int)), MI N d as0 s → (∀ h ∈ L, hasE as0 h = true ∧ (pth as0 h).length = d) →
    MI N d as0 (L.foldl exp2 s) ∧ (∀ h ∈ L, ∀ b, hasE (L.foldl exp2 s).1 (stp b h) = true) ∧ ∀ x, hasE s.1 x = true → hasE (L.foldl exp2 s).1 x = true
  | [], s, m, _ => ⟨m, fun h hh => (by cases hh), fun x hx => hx⟩
  | h :: L, s, m, hL => by
    obtain ⟨h0, h1⟩ := hL h (.head _)
    obtain ⟨a1, a2, a3⟩ := m.exp h0 h1
    obtain ⟨b1, b2, b3⟩ := MI.fold L (exp2 s h) a1 fun x hx => hL x (.tail _ hx)
    refine ⟨b1, fun x hx b => ?_, fun x hx => b3 x (a3 x hx)⟩
    rcases List.mem_cons.mp hx with rfl | hx
    · exact b3 _ (a2 b)
    · exact b2 x hx b
structure BI (N d : Nat) (s : Ent × List (List Int)) : Prop where
  ord : ∀ a ∈ s.1, a.1 ∈ ordP N N
  nd : (s.1.map (·.1)).Nodup
  run : ∀ a ∈ s.1, runS a.2 (rg 0 (N : Int)) = a.1
  len : ∀ a ∈ s.1, a.2.length ≤ d
  lay : ∀ h ∈ s.2, hasE s.1 h = true ∧ (pth s.1 h).length = d
  done : ∀ a ∈ s.1, a.1 ∈ s.2 ∨ ∀ b, hasE s.1 (stp b a.1) = true
theorem pth_nd {as : Ent} {a : List Int × List Bool} (nd : (as.map (·.1)).Nodup) (ha : a ∈ as) : pth as a.1 = a.2 := by
  have hm := pth_mem (hasE_iff.mpr ⟨a.2, ha⟩)
  induction as with
  | nil => cases ha
  | cons c as ih =>
    rw [List.map_cons] at nd
    obtain ⟨n1, n2⟩ := List.nodup_cons.mp nd
    unfold pth
    rw [List.find?_cons]
    by_cases e : c.1 = a.1
    · rw [decide_eq_true e]
      rcases List.mem_cons.mp ha with rfl | ha
      · rfl
      · exact absurd (List.mem_map.mpr ⟨a, ha, e.symm⟩) n1
    · rw [decide_eq_false e]
      rcases List.mem_cons.mp ha with rfl | ha
      · exact absurd rfl e
      · exact ih n2 ha (pth_mem (hasE_iff.mpr ⟨a.2, ha⟩))
theorem BI.next {N d : Nat} {s : Ent × List (List Int)} (B : BI N d s) : BI N (d + 1) (layS s) ∧ ∃ new : Ent, (layS s).1 = s.1 ++ new ∧ (layS s).2 = new.map (·.1) ∧ ∀ a ∈ new, a.2.length = d + 1 := by
  have m0 : MI N d s.1 (s.1, []) := ⟨⟨[], by simp, rfl, fun a ha => by cases ha⟩, B.ord, B.nd, B.run⟩
  obtain ⟨m, k1, k2⟩ := MI.fold s.2 (s.1, []) m0 B.lay
  obtain ⟨new, e1, e2, e3⟩ := m.ex
  have e1 : (layS s).1 = s.1 ++ new := e1
  refine ⟨⟨m.ord, m.nd, m.run, fun a ha => ?_, fun h hh => ?_, fun a ha => ?_⟩, new, e1, e2, e3⟩
  · rw [e1] at ha
    rcases List.mem_append.mp ha with z | z
    · exact Nat.le_succ_of_le (B.len a z)
    · exact Nat.le_of_eq (e3 a z)
  · have hh : h ∈ new.map (·.1) := by rw [← e2]; exact hh
    obtain ⟨a, ha, rfl⟩ := List.mem_map.mp hh
    have hm : a ∈ (layS s).1 := by rw [e1]; exact List.mem_append_right _ ha
    exact ⟨hasE_iff.mpr ⟨a.2, hm⟩, by rw [show pth (layS s).1 a.1 = a.2 from pth_nd m.nd hm]; exact e3 a ha⟩
  · have ha : a ∈ (layS s).1 := ha
    rw [e1] at ha
    rcases List.mem_append.mp ha with z | z
    · rcases B.done a z with q | q
      · exact .inr fun b => k1 a.1 q b
      · exact .inr fun b => k2 _ (q b)
    · refine .inl ?_
      show a.1 ∈ (layS s).2
      rw [show (layS s).2 = new.map (·.1) from e2]
      exact List.mem_map.mpr ⟨a, z, rfl⟩
theorem bfs_BI (N : Nat) : ∀ d, BI N d (bfs N d)
  | 0 => by
    have h0 : ∀ a ∈ (bfs N 0).1, a = (rg 0 (N : Int), []) := fun a ha => by simpa [bfs] using ha
    refine ⟨fun a ha => ?_, by simp [bfs], fun a ha => ?_, fun a ha => ?_, fun h hh => ?_, fun a ha => ?_⟩
    · rw [h0 a ha]; exact perm_ordP N _ (.refl _)
    · rw [h0 a ha]; rfl
    · rw [h0 a ha]; exact Nat.le_refl _
    · have : h = rg 0 (N : Int) := by simpa [bfs] using hh
      subst this
      simp [bfs, hasE, pth]
    · rw [h0 a ha]
      exact .inl (by simp [bfs])
  | d + 1 => (bfs_BI N d).next.1
end Fl

namespace Fl
open PySem PySem.Spec PyProof.Rows L2

theorem bfs_next (N d : Nat) : ∃ new : Ent, (bfs N (d + 1)).1 = (bfs N d).1 ++ new ∧ (bfs N (d + 1)).2 = new.map (·.1) ∧ ∀ a ∈ new, a.2.length = d + 1 := (bfs_BI N d).next.2
theorem bfs_has (N d : Nat) {h : List Int} (x : hasE (bfs N d).1 h = true) : ∀ k, hasE (bfs N (d + k)).1 h = true ∧ pth (bfs N (d + k)).1 h = pth (bfs N d).1 h
  | 0 => ⟨x, rfl⟩
  | k + 1 => by
    obtain ⟨i1, i2⟩ := bfs_has N d x k
    obtain ⟨new, e, _⟩ := bfs_next N (d + k)
    rw [show d + (k + 1) = d + k + 1 from rfl, e]
    exact ⟨hasE_app i1, by rw [pth_app i1, i2]⟩
theorem bfs_step (N d : Nat) {h : List Int} (x : hasE (bfs N d).1 h = true) (b : Bool) : hasE (bfs N (d + 1)).1 (stp b h) = true := by
  have B := bfs_BI N d
  have m0 : MI N d (bfs N d).1 ((bfs N d).1, []) := ⟨⟨[], by simp, rfl, fun a ha => by cases ha⟩, B.ord, B.nd, B.run⟩
  obtain ⟨_, k1, k2⟩ := MI.fold (bfs N d).2 ((bfs N d).1, []) m0 B.lay
  rcases B.done _ (pth_mem x) with q | q
  · exact k1 h q b
  · exact k2 _ (q b)
theorem bfs_all (N : Nat) : ∀ (k : Nat) (bs : List Bool), bs.length = k → hasE (bfs N k).1 (runS bs (rg 0 (N : Int))) = true := by
  intro k
  induction k with
  | zero =>
    intro bs h
    have : bs = [] := List.eq_nil_of_length_eq_zero h
    subst this
    simp [bfs, hasE, runS]
  | succ k ih =>
    intro bs h
    have hne : bs ≠ [] := fun e => by rw [e] at h; cases h
    obtain ⟨cs, b, rfl⟩ : ∃ cs b, bs = cs ++ [b] := ⟨bs.dropLast, bs.getLast hne, (List.dropLast_concat_getLast hne).symm⟩
    have hl : cs.length = k := by simpa using h
    rw [runS_snoc]
    exact bfs_step N k (ih cs hl) b
/-- a shorter text leads elsewhere -/
theorem bfs_min (N D : Nat) {st : List Int} (x : hasE (bfs N D).1 st = true) (bs : List Bool) (h : bs.length < (pth (bfs N D).1 st).length) : runS bs (rg 0 (N : Int)) ≠ st := by
  rintro rfl
  have hl : (pth (bfs N D).1 (runS bs (rg 0 (N : Int)))).length ≤ D := (bfs_BI N D).len _ (pth_mem x)
  have z := bfs_all N bs.length bs rfl
  obtain ⟨_, e⟩ := bfs_has N bs.length z (D - bs.length)
  rw [show bs.length + (D - bs.length) = D by omega] at e
  have hl2 := (bfs_BI N bs.length).len _ (pth_mem z)
  rw [e] at h
  have hl2 : (pth (bfs N bs.length).1 (runS bs (rg 0 (N : Int)))).length ≤ bs.length := hl2
  omega
theorem bfs_keys (N d : Nat) (hN : N ≤ 6) : (bfs N d).1.length ≤ 720 := by
  have B := bfs_BI N d
  have := nodup_len ((bfs N d).1.map (·.1)) (ordP N N) B.nd fun x hx => by
    obtain ⟨a, ha, rfl⟩ := List.mem_map.mp hx
    exact B.ord a ha
  rw [List.length_map] at this
  exact Nat.le_trans this (ordP_size N hN N (Nat.le_refl _))
theorem bfs_grow (N : Nat) : ∀ d, (∀ e, e ≤ d → (bfs N e).2 ≠ []) → d + 1 ≤ (bfs N d).1.length
  | 0, _ => by simp [bfs]
  | d + 1, h => by
    have ih := bfs_grow N d fun e he => h e (by omega)
    obtain ⟨new, e1, e2, _⟩ := bfs_next N d
    have := h (d + 1) (Nat.le_refl _)
    rw [e2] at this
    have hn : 0 < new.length := List.length_pos_iff.mpr fun z => this (by rw [z]; rfl)
    rw [e1, List.length_append]
    omega
theorem bfs_end (N : Nat) (hN : N ≤ 6) : ∃ T, T ≤ 720 ∧ (bfs N T).2 = [] ∧ ∀ d, d < T → (bfs N d).2 ≠ [] := by
  have : ∃ T, T ≤ 720 ∧ (bfs N T).2 = [] := by
    refine Classical.byContradiction fun z => ?_
    have h : ∀ e, e ≤ 720 → (bfs N e).2 ≠ [] := fun e he q => z ⟨e, he, q⟩
    have h1 := bfs_grow N 720 h
    have h2 := bfs_keys N 720 hN
    omega
  obtain ⟨T, h1, h2⟩ := this
  have key : ∀ T, (bfs N T).2 = [] → ∃ T', T' ≤ T ∧ (bfs N T').2 = [] ∧ ∀ d, d < T' → (bfs N d).2 ≠ [] := by
    intro T
    induction T using Nat.strongRecOn with
    | _ T ih =>
      intro h
      by_cases q : ∃ d, d < T ∧ (bfs N d).2 = []
      · obtain ⟨d, hd, e⟩ := q
        obtain ⟨T', a, b, c⟩ := ih d hd e
        exact ⟨T', by omega, b, c⟩
      · exact ⟨T, Nat.le_refl _, h, fun d hd e => q ⟨d, hd, e⟩⟩
  obtain ⟨T', a, b, c⟩ := key T h2
  exact ⟨T', by omega, b, c⟩
/-! ## all orders are there at the end -/
section
variable {R : List Int → Prop} (hc : ∀ l b, R l → R (stp b l))
include hc
theorem R_rot : ∀ (a b : List Int), 2 ≤ a.length + b.length → R (a ++ b) → R (b ++ a)
  | [], b, _, h => by simpa using h
  | [x], [], hl, _ => by simp at hl
  | [x], y :: r, _, h => by
    have := hc _ false h
    simpa [stp] using this
  | x :: y :: a, b, hl, h => by
    have h1 := hc _ false h
    have h2 : R ((y :: a) ++ (b ++ [x])) := by simpa [stp] using h1
    have := R_rot (y :: a) (b ++ [x]) (by simp at hl ⊢; omega) h2
    simpa using this
theorem R_tail (x : Int) : ∀ (a b : List Int), R (x :: (a ++ b)) → R (x :: (b ++ a))
  | [], b, h => by simpa using h
  | y :: a, b, h => by
    have h1 := hc _ true h
    have h2 : R (x :: (a ++ (b ++ [y]))) := by simpa [stp] using h1
    have := R_tail x a (b ++ [y]) h2
    simpa using this
theorem R_swap (x y : Int) (pre post : List Int) (h : R (pre ++ x :: y :: post)) : R (pre ++ y :: x :: post) := by
  have h1 := R_rot hc pre (x :: y :: post) (by simp only [List.length_cons]; omega) h
  have h2 : R (x :: y :: (post ++ pre)) := by simpa using h1
  have h3 : R (y :: ((post ++ pre) ++ [x])) := by simpa [stp] using hc _ false h2
  have h4 := R_tail hc y (post ++ pre) [x] h3
  have h5 : R ((y :: x :: post) ++ pre) := by simpa using h4
  exact R_rot hc (y :: x :: post) pre (by simp only [List.length_cons]; omega) h5
theorem R_perm {l m : List Int} (p : l.Perm m) : ∀ pre, R (pre ++ l) → R (pre ++ m) := by
  induction p with
  | nil => intro pre h; exact h
  | cons x _ ih =>
    intro pre h
    have := ih (pre ++ [x]) (by simpa using h)
    simpa using this
  | swap x y l =>
    intro pre h
    exact R_swap hc _ _ pre l h
  | trans _ _ i1 i2 => intro pre h; exact i2 pre (i1 pre h)
end
theorem bfs_full (N T : Nat) (h : (bfs N T).2 = []) {st : List Int} (hst : st ∈ ordP N N) : hasE (bfs N T).1 st = true := by
  have B := bfs_BI N T
  have hc : ∀ l b, hasE (bfs N T).1 l = true → hasE (bfs N T).1 (stp b l) = true := fun l b x => by
    rcases B.done _ (pth_mem x) with q | q
    · rw [h] at q; cases q
    · exact q b
  have h0 := (bfs_has N 0 (h := rg 0 (N : Int)) (by simp [bfs, hasE]) T).1
  rw [Nat.zero_add] at h0
  have := R_perm (R := fun l => hasE (bfs N T).1 l = true) hc (ordP_perm N st hst).symm [] h0
  exact this
def fct (N : Nat) : Nat := if N = 3 then 6 else if N = 4 then 24 else if N = 5 then 120 else 720
theorem ord_size (N : Nat) (h : 3 ≤ N) (h2 : N ≤ 6) : (ordP N N).length = fct N := by
  have : N = 3 ∨ N = 4 ∨ N = 5 ∨ N = 6 := by omega
  rcases this with rfl | rfl | rfl | rfl <;> decide +kernel
theorem bfs_size (N T : Nat) (h3 : 3 ≤ N) (h6 : N ≤ 6) (h : (bfs N T).2 = []) : (bfs N T).1.length = fct N := by
  have B := bfs_BI N T
  have h1 := nodup_len ((bfs N T).1.map (·.1)) (ordP N N) B.nd fun x hx => by
    obtain ⟨a, ha, rfl⟩ := List.mem_map.mp hx
    exact B.ord a ha
  have h2 := nodup_len (ordP N N) ((bfs N T).1.map (·.1)) (ordP_nodup N N) fun x hx => by
    obtain ⟨p, hp⟩ := hasE_iff.mp (bfs_full N T h hx)
    exact List.mem_map.mpr ⟨(x, p), hp, rfl⟩
  rw [List.length_map] at h1 h2
  have := ord_size N h3 h6
  omega
end Fl

namespace Fl
open PySem PySem.Spec PyProof.Rows L2

def B_searched_1 : S := (sSeq (sSet 8 (vCall 2 F_after (aCons (vVar 6) (aCons (vVar 7) aNil))))
  (sIf (asB (vOp dIsNotIn (.val (vVar 8)) (.own 3))) (sSeq (sDPut 3 (vVar 8) (vOp dAdd (.val (vOp dDg (.own 3) (.val (vVar 6)))) (.val (vVar 7))))
  (sExpr (vAppend 5 (vVar 8)))) sNx))
def B_searched_2 : S := (sFor (vIt itT (vTup (aCons (vC (.str "s")) (aCons (vC (.str "n")) aNil)))) (gN 7) B_searched_1)
def B_searched_3 : S := (sSeq (sSet 5 (vLst aNil))
  (sSeq (sFor (vIt itL (vVar 4)) (gN 6) B_searched_2)
  (sSet 4 (vMove 5))))
def T_searched : S := (sSeq (sPar [3, 4] [(true, (vDisp1 (vVar 2) (vC (.str "")))), (false, (vLst (aCons (vVar 2) aNil)))])
  (sSeq (sWhile 1000 (asB (vOp dIsNotIn (.val (vVar 1)) (.own 3))) B_searched_3)
  (sRet (vOp dDg (.own 3) (.val (vVar 1))))))
theorem m_searched_eq : m_searched = (sSeq (sSet 2 (vTupRg (vRg1 (vVar 0)))) T_searched) := rfl
def B__law_first_1 : S := (sSeq (sSet 9 (vOp dAdd (.val (vOp dAdd (.val (vTup (aCons (vOp dIx (.val (vVar 6)) (.val (vVar 7))) aNil))) (.val (vSl dSl (.val (vVar 6)) (some (vC (.int 2))) none)))) (.val (vTup (aCons (vOp dIx (.val (vVar 6)) (.val (vVar 8))) aNil)))))
  (sIf (asB (vOp dIsNotIn (.val (vVar 9)) (.own 2))) (sSeq (sDPut 2 (vVar 9) (vVar 4))
  (sExpr (vAppend 5 (vVar 9)))) sNx))
def B__law_first_2 : S := (sFor (vIt itT (vTup (aCons (vTup (aCons (vC (.int 0)) (aCons (vC (.int 1)) aNil))) (aCons (vTup (aCons (vC (.int 1)) (aCons (vC (.int 0)) aNil))) aNil)))) (gT2 7 8) B__law_first_1)
def B__law_first_3 : S := (sSeq (sPar [4, 5] [(false, (vOp dAdd (.val (vVar 4)) (.val (vC (.int 1))))), (true, (vLst aNil))])
  (sSeq (sFor (vIt itL (vVar 3)) (gN 6) B__law_first_2)
  (sSet 3 (vMove 5))))
def T__law_first : S := (sSeq (sPar [2, 3, 4] [(true, (vDisp1 (vVar 1) (vC (.int 0)))), (false, (vLst (aCons (vVar 1) aNil))), (false, (vC (.int 0)))])
  (sSeq (sWhile 1000 (asB (vOp dNe (.val (vVar 3)) (.val (vLst aNil)))) B__law_first_3)
  (sRet (vMove 2))))
theorem m__law_first_eq : m__law_first = (sSeq (sSet 1 (vTupRg (vRg1 (vVar 0)))) T__law_first) := rfl
def B_ma_law_1 : S := (sSeq (sSet 9 (vCallB 2 F__law_of 4 (aCons (vVar 7) aNil)))
  (sSeq (sPar [10, 11] [(false, (vCall 2 F_fewest_games (aCons (vVar 5) (aCons (vVar 9) aNil)))), (false, (vCall 2 F_shortest_results (aCons (vVar 5) (aCons (vVar 9) aNil))))])
  (sSeq (sIf (bOr (asB (vOp dNe (.val (vVar 10)) (.val (vOp dDg (.own 6) (.val (vVar 9)))))) (bOr (asB (vIsi "bool" (.val (vVar 10)))) (asB (vOp dNe (.val (vB fLen [(.val (vVar 11))])) (.val (vVar 10)))))) (sRet (vC (.bl false))) sNx)
  (sSeq (sIf (asB (vOp dNe (.val (vOp dIx (.val (vCall 2 F__law_played (aCons (vVar 5) (aCons (vVar 11) aNil)))) (.val (vC (.int 1))))) (.val (vVar 9)))) (sRet (vC (.bl false))) sNx)
  (sSeq (sIf (asB (vOp dLt (.val (vCall 3 F_count_ways (aCons (vVar 5) (aCons (vVar 9) (aCons (vB fMin2 [(.val (vC (.int 60))), (.val (vVar 10))]) aNil))))) (.val (vB fInt [(.val (vOp dLt (.val (vVar 10)) (.val (vC (.int 61)))))])))) (sRet (vC (.bl false))) sNx)
  (sIf (bAnd (asB (vOp dGt (.val (vVar 10)) (.val (vC (.int 0))))) (asB (vOp dNe (.val (vCall 3 F_count_ways (aCons (vVar 5) (aCons (vVar 9) (aCons (vB fMin2 [(.val (vC (.int 60))), (.val (vOp dSub (.val (vVar 10)) (.val (vC (.int 1)))))]) aNil))))) (.val (vC (.int 0)))))) (sRet (vC (.bl false))) sNx))))))
def B_ma_law_2 : S := (sSeq (sSet 4 (vCall 2 F__law_bag (aCons (vVar 0) (aCons (vVar 1) aNil))))
  (sSeq (sSet 5 (vOp dIx (.val (vLst (aCons (vC (.int 3)) (aCons (vC (.int 4)) (aCons (vC (.int 5)) (aCons (vC (.int 6)) aNil)))))) (.val (vCallB 2 F__law_take 4 (aCons (vC (.int 4)) aNil)))))
  (sSeq (sSet 6 (vCall 1 F__law_first (aCons (vVar 5) aNil)))
  (sSeq (sSet 7 (vB fSortTD [(.own 6)]))
  (sSeq (sIf (asB (vOp dNe (.val (vB fLen [(.val (vVar 7))])) (.val (vOp dDg (.val (vDispI [(3, 6), (4, 24), (5, 120), (6, 720)])) (.val (vVar 5)))))) (sRet (vC (.bl false))) sNx)
  (sFor (vRng1 (vC (.int 6))) (gN 8) B_ma_law_1))))))
theorem m_ma_law_eq : ma_law = (sFor (vRng1 (vOp dAdd (.val (vB fMin2 [(.val (vB fLen [(.val (vVar 0))])), (.val (vC (.int 3)))])) (.val (vC (.int 2))))) (gN 1) B_ma_law_2) := rfl
def B_mb_law_1 : S := (sIf (asB (vOp dNe (.val (vLcO 2 (gN 12) tYesD (vCall 2 F__law_error (aCons (vVar 12) (aCons (vVar 3) aNil))) ([(("call" : Str), 12)].map (·.2)))) (.val (vOp dMul (.val (vLst (aCons (vC (.str "players")) aNil))) (.val (vC (.int 3))))))) (sRet (vC (.bl false))) sNx)
def T_mb_law : S := (sSeq (sIf (bOr (asB (vOp dNe (.val (vCall 2 F_fewest_games (aCons (vC (.int 4)) (aCons (vTup (aCons (vC (.int 1)) (aCons (vC (.int 0)) (aCons (vC (.int 3)) (aCons (vC (.int 2)) aNil))))) aNil)))) (.val (vC (.int 4))))) (asB (vOp dNe (.val (vCall 2 F_fewest_games (aCons (vC (.int 4)) (aCons (vTup (aCons (vC (.int 0)) (aCons (vC (.int 1)) (aCons (vC (.int 2)) (aCons (vC (.int 3)) aNil))))) aNil)))) (.val (vC (.int 0)))))) (sRet (vC (.bl false))) sNx)
  (sRet (vOp dEq (.val (vCall 2 F_shortest_results (aCons (vC (.int 4)) (aCons (vTup (aCons (vC (.int 1)) (aCons (vC (.int 0)) (aCons (vC (.int 3)) (aCons (vC (.int 2)) aNil))))) aNil)))) (.val (vC (.str "snsn"))))))
theorem m_mb_law_eq : mb_law = (sSeq (sFor (vIt itL (vLst (aCons (vC (.int 7)) (aCons (vC (.int 12)) (aCons (vC (.int 2)) (aCons (vC .non) (aCons (vC (.bl true)) aNil))))))) (gN 3) B_mb_law_1) T_mb_law) := rfl
end Fl

namespace Fl
open PySem PySem.Spec PyProof.Rows L2

def KG (g : List Int × List Bool → D) (as : Ent) : D := .dct true (as.map fun a => tupD a.1) (as.map g)
def gS (a : List Int × List Bool) : D := .str (txt a.2)
def gI (a : List Int × List Bool) : D := .int (a.2.length : Int)
theorem notIn_KG (g : List Int × List Bool → D) (as : Ent) (h : List Int) : dIsNotIn (tupD h) (KG g as) = some (.bl (!hasE as h)) := by
  have e := dGot_map (fun a : List Int × List Bool => a.1) g h as
  have e : dGot (KG g as) (tupD h) = some ((as.find? fun a => decide (a.1 = h)).map g) := e
  unfold dIsNotIn
  rw [e]
  show some (D.bl _) = _
  congr 3
  unfold hasE
  rw [Option.isSome_map]
  cases q : as.find? fun a => decide (a.1 = h) with
  | none =>
    have := List.find?_eq_none.mp q
    symm
    simpa using this
  | some a =>
    have h1 := List.mem_of_find?_eq_some q
    have h2 := List.find?_some q
    symm
    show _ = true
    rw [List.any_eq_true]
    exact ⟨a, h1, h2⟩
theorem dg_KG {g : List Int × List Bool → D} {as : Ent} {h : List Int} (x : hasE as h = true) : dDg (KG g as) (tupD h) = some (g (h, pth as h)) := by
  have e := dGot_map (fun a : List Int × List Bool => a.1) g h as
  have e : dGot (KG g as) (tupD h) = some ((as.find? fun a => decide (a.1 = h)).map g) := e
  unfold dDg
  rw [e]
  unfold pth
  cases q : as.find? fun a => decide (a.1 = h) with
  | none =>
    obtain ⟨p, hp⟩ := hasE_iff.mp x
    have := List.find?_eq_none.mp q _ hp
    simp at this
  | some a =>
    have h2 := List.find?_some q
    have : a.1 = h := of_decide_eq_true h2
    subst this
    rfl
theorem put_KG {g : List Int × List Bool → D} {as : Ent} {h : List Int} (x : ¬ hasE as h = true) (p : List Bool) (hl : as.length < 1000000) : dPut (KG g as) (tupD h) (g (h, p)) = some (KG g (as ++ [(h, p)])) := by
  have := dPut_new (fun a : List Int × List Bool => a.1) g h as (g (h, p)) (fun a ha e => x (hasE_iff.mpr ⟨a.2, by rw [← e]; exact ha⟩)) hl
  have this : dPut (KG g as) (tupD h) (g (h, p)) = _ := this
  rw [this]
  unfold KG
  rw [List.map_append, List.map_append]
  rfl
end Fl

namespace Fl
open PySem PySem.Spec PyProof.Rows L2

theorem sq {a b : S} {e e1 : Env} (h : a e = .nx e1) : sSeq a b e = b e1 := by simp [sSeq, h]
theorem for_it {e e1 : Env} {it : Env → R (List D)} {b : S} {g : D → Env → Option Env} {ds : List D} (hm : it e = .ok ds e) (h : forL g b ds e = .nx e1) : sFor it g b e = .nx e1 := by
  unfold sFor
  simp only [hm, R.toS, h]
/-! ## searched: one order, one letter -/
theorem turn_S1 (v0 v1 v2 v4 o8 : Option D) (as : Ent) (lt : List (List Int)) (h : List Int) (b : Bool) (h2 : 2 ≤ h.length) (h3 : h.length ≤ 1000) (x : hasE as h = true) (hp : (pth as h).length ≤ 1000) (ha : as.length ≤ 1000) (hl : lt.length ≤ 1000) :
    B_searched_1 [v0, v1, v2, some (KG gS as), v4, some (.lst (lt.map tupD)), some (tupD h), some (.str (txt [b])), o8] = .nx [v0, v1, v2, some (KG gS (ins1 h (as, lt) b).1), v4, some (.lst ((ins1 h (as, lt) b).2.map tupD)), some (tupD h), some (.str (txt [b])), some (tupD (stp b h))] := by
  obtain ⟨c, qa⟩ := q_afterT h b h2 h3
  have ni := notIn_KG gS as (stp b h)
  unfold ins1
  by_cases k : hasE as (stp b h) = true
  · rw [if_pos k]
    rw [k] at ni
    generalize KG gS as = K1 at *
    generalize tupD (stp b h) = T2 at *
    generalize tupD h = T1 at *
    generalize lt.map tupD = L1 at *
    simp [B_searched_1, sSeq, sSet, vCall, aCons, aNil, vVar, R.bind, R.toS, R.ofO, qa, sIf, asB, vOp, evO, rsO, ni, sNx]
  · rw [if_neg k]
    have kf : hasE as (stp b h) = false := by simpa using k
    rw [kf] at ni
    have dg : dDg (KG gS as) (tupD h) = some (.str (txt (pth as h))) := dg_KG x
    have ad : dAdd (.str (txt (pth as h))) (.str (txt [b])) = some (.str (txt (pth as h ++ [b]))) := by
      have e : txt (pth as h) ++ txt [b] = txt (pth as h ++ [b]) := txt_app _ _
      have hz : (txt (pth as h)).length + (txt [b]).length ≤ 1000000 := by rw [txt_len, txt_len]; simp; omega
      simp only [dAdd]
      rw [e]
      simp [hz]
    have pt : dPut (KG gS as) (tupD (stp b h)) (.str (txt (pth as h ++ [b]))) = some (KG gS (as ++ [(stp b h, pth as h ++ [b])])) := put_KG k _ (by omega)
    have ml : (lt.map tupD).length ≤ 1000000 := by rw [List.length_map]; omega
    have e2 : (lt ++ [stp b h]).map tupD = lt.map tupD ++ [tupD (stp b h)] := by rw [List.map_append]; rfl
    rw [e2]
    generalize KG gS (as ++ [(stp b h, pth as h ++ [b])]) = K2 at *
    generalize KG gS as = K1 at *
    generalize tupD (stp b h) = T2 at *
    generalize tupD h = T1 at *
    generalize lt.map tupD = L1 at *
    generalize txt (pth as h ++ [b]) = X2 at *
    generalize txt (pth as h) = X1 at *
    simp [B_searched_1, sSeq, sSet, vCall, aCons, aNil, vVar, R.bind, R.toS, R.ofO, qa, sIf, asB, vOp, evO, rsO, ni, sDPut, dg, ad, pt, sExpr, vAppend, ml]
end Fl

namespace Fl
open PySem PySem.Spec PyProof.Rows L2

theorem MI.bd {N d : Nat} {as0 : Ent} {s : Ent × List (List Int)} (m : MI N d as0 s) (hN : N ≤ 6) : s.1.length ≤ 720 ∧ s.2.length ≤ 720 := by
  have h := nodup_len (s.1.map (·.1)) (ordP N N) m.nd fun x hx => by
    obtain ⟨a, ha, rfl⟩ := List.mem_map.mp hx
    exact m.ord a ha
  rw [List.length_map] at h
  have h1 := Nat.le_trans h (ordP_size N hN N (Nat.le_refl _))
  obtain ⟨new, e1, e2, _⟩ := m.ex
  refine ⟨h1, ?_⟩
  rw [e1, List.length_append] at h1
  rw [e2, List.length_map]
  omega
theorem MI.at {N d : Nat} {as0 : Ent} {s : Ent × List (List Int)} (m : MI N d as0 s) {h : List Int} (h0 : hasE as0 h = true) : hasE s.1 h = true ∧ pth s.1 h = pth as0 h ∧ h.length = N := by
  obtain ⟨new, e1, _⟩ := m.ex
  have hs : hasE s.1 h = true := by rw [e1]; exact hasE_app h0
  exact ⟨hs, by rw [e1]; exact pth_app h0, ordP_len N N h (m.ord _ (pth_mem hs))⟩
theorem turn_S2 (v0 v1 v2 v4 x7 x8 : Option D) {N d : Nat} {as0 : Ent} {s : Ent × List (List Int)} {h : List Int} (m : MI N d as0 s) (hN : 3 ≤ N) (hN2 : N ≤ 6) (hd : d ≤ 720) (h0 : hasE as0 h = true) (h1 : (pth as0 h).length = d) :
    B_searched_2 [v0, v1, v2, some (KG gS s.1), v4, some (.lst (s.2.map tupD)), some (tupD h), x7, x8] = .nx [v0, v1, v2, some (KG gS (exp2 s h).1), v4, some (.lst ((exp2 s h).2.map tupD)), some (tupD h), some (.str (txt [false])), some (tupD (stp false h))] := by
  obtain ⟨a1, a2, a3⟩ := m.at h0
  obtain ⟨b1, b2⟩ := m.bd hN2
  have t1 := turn_S1 v0 v1 v2 v4 x8 s.1 s.2 h true (by omega) (by omega) a1 (by rw [a2]; omega) (by omega) (by omega)
  have m1 := (m.ins (b := true) h0 h1).1
  obtain ⟨c1, c2, c3⟩ := m1.at h0
  obtain ⟨e1, e2⟩ := m1.bd hN2
  have t2 := turn_S1 v0 v1 v2 v4 (some (tupD (stp true h))) (ins1 h s true).1 (ins1 h s true).2 h false (by omega) (by omega) c1 (by rw [c2]; omega) (by omega) (by omega)
  have t1 : B_searched_1 [v0, v1, v2, some (KG gS s.1), v4, some (.lst (s.2.map tupD)), some (tupD h), some (.str (txt [true])), x8] = .nx [v0, v1, v2, some (KG gS (ins1 h s true).1), v4, some (.lst ((ins1 h s true).2.map tupD)), some (tupD h), some (.str (txt [true])), some (tupD (stp true h))] := t1
  have t2 : B_searched_1 [v0, v1, v2, some (KG gS (ins1 h s true).1), v4, some (.lst ((ins1 h s true).2.map tupD)), some (tupD h), some (.str (txt [false])), some (tupD (stp true h))] = .nx [v0, v1, v2, some (KG gS (exp2 s h).1), v4, some (.lst ((exp2 s h).2.map tupD)), some (tupD h), some (.str (txt [false])), some (tupD (stp false h))] := t2
  refine for_it (ds := [.str (txt [true]), .str (txt [false])]) ?_ ?_
  · rw [← txt_s, ← txt_n]
    rfl
  · rw [forL]
    show (match B_searched_1 [v0, v1, v2, some (KG gS s.1), v4, some (.lst (s.2.map tupD)), some (tupD h), some (.str (txt [true])), x8] with | .nx e2 => forL (gN 7) B_searched_1 [.str (txt [false])] e2 | .ct e2 => forL (gN 7) B_searched_1 [.str (txt [false])] e2 | .bk e2 => .nx e2 | r => r) = _
    rw [t1]
    show forL (gN 7) B_searched_1 [.str (txt [false])] _ = _
    rw [forL]
    show (match B_searched_1 [v0, v1, v2, some (KG gS (ins1 h s true).1), v4, some (.lst ((ins1 h s true).2.map tupD)), some (tupD h), some (.str (txt [false])), some (tupD (stp true h))] with | .nx e2 => forL (gN 7) B_searched_1 [] e2 | .ct e2 => forL (gN 7) B_searched_1 [] e2 | .bk e2 => .nx e2 | r => r) = _
    rw [t2]
    rfl
theorem loop_S (v0 v1 v2 v4 : Option D) {N d : Nat} {as0 : Ent} (hN : 3 ≤ N) (hN2 : N ≤ 6) (hd : d ≤ 720) : ∀ (L : List (List Int)) (s : Ent × List (List Int)) (x6 x7 x8 : Option D), MI N d as0 s → (∀ h ∈ L, hasE as0 h = true ∧ (pth as0 h).length = d) →
    ∃ o6 o7 o8, forL (gN 6) B_searched_2 (L.map tupD) [v0, v1, v2, some (KG gS s.1), v4, some (.lst (s.2.map tupD)), x6, x7, x8] = .nx [v0, v1, v2, some (KG gS (L.foldl exp2 s).1), v4, some (.lst ((L.foldl exp2 s).2.map tupD)), o6, o7, o8]
  | [], s, x6, x7, x8, _, _ => ⟨x6, x7, x8, rfl⟩
  | h :: L, s, x6, x7, x8, m, hL => by
    obtain ⟨h0, h1⟩ := hL h (.head _)
    have t := turn_S2 v0 v1 v2 v4 x7 x8 m hN hN2 hd h0 h1
    obtain ⟨o6, o7, o8, e⟩ := loop_S v0 v1 v2 v4 hN hN2 hd L (exp2 s h) (some (tupD h)) (some (.str (txt [false]))) (some (tupD (stp false h))) (m.exp h0 h1).1 fun x hx => hL x (.tail _ hx)
    refine ⟨o6, o7, o8, ?_⟩
    rw [List.map_cons, forL]
    show (match B_searched_2 [v0, v1, v2, some (KG gS s.1), v4, some (.lst (s.2.map tupD)), some (tupD h), x7, x8] with | .nx e2 => forL (gN 6) B_searched_2 (L.map tupD) e2 | .ct e2 => forL (gN 6) B_searched_2 (L.map tupD) e2 | .bk e2 => .nx e2 | r => r) = _
    rw [t]
    exact e
theorem round_S (v0 v1 v2 x5 x6 x7 x8 : Option D) (N d : Nat) (hN : 3 ≤ N) (hN2 : N ≤ 6) (hd : d ≤ 720) :
    ∃ o6 o7 o8, B_searched_3 [v0, v1, v2, some (KG gS (bfs N d).1), some (.lst ((bfs N d).2.map tupD)), x5, x6, x7, x8] = .nx [v0, v1, v2, some (KG gS (bfs N (d + 1)).1), some (.lst ((bfs N (d + 1)).2.map tupD)), none, o6, o7, o8] := by
  have B := bfs_BI N d
  have m0 : MI N d (bfs N d).1 ((bfs N d).1, []) := ⟨⟨[], by simp, rfl, fun a ha => by cases ha⟩, B.ord, B.nd, B.run⟩
  obtain ⟨o6, o7, o8, e⟩ := loop_S v0 v1 v2 (some (.lst ((bfs N d).2.map tupD))) hN hN2 hd (bfs N d).2 ((bfs N d).1, []) x6 x7 x8 m0 B.lay
  have e : forL (gN 6) B_searched_2 ((bfs N d).2.map tupD) [v0, v1, v2, some (KG gS (bfs N d).1), some (.lst ((bfs N d).2.map tupD)), some (.lst []), x6, x7, x8] = .nx [v0, v1, v2, some (KG gS (bfs N (d + 1)).1), some (.lst ((bfs N d).2.map tupD)), some (.lst ((bfs N (d + 1)).2.map tupD)), o6, o7, o8] := e
  refine ⟨o6, o7, o8, ?_⟩
  unfold B_searched_3
  refine (sq (e1 := [v0, v1, v2, some (KG gS (bfs N d).1), some (.lst ((bfs N d).2.map tupD)), some (.lst []), x6, x7, x8]) rfl).trans ?_
  refine (sq (for_it (ds := (bfs N d).2.map tupD) ?_ e)).trans ?_
  · generalize KG gS (bfs N d).1 = K1
    generalize (bfs N d).2.map tupD = L1
    rfl
  · generalize KG gS (bfs N (d + 1)).1 = K1
    generalize (bfs N d).2.map tupD = L1
    generalize (bfs N (d + 1)).2.map tupD = L2
    rfl
theorem least {p : Nat → Prop} (T : Nat) (h : p T) : ∃ d, d ≤ T ∧ p d ∧ ∀ e, e < d → ¬ p e := by
  induction T using Nat.strongRecOn with
  | _ T ih =>
    by_cases q : ∃ d, d < T ∧ p d
    · obtain ⟨d, hd, e⟩ := q
      obtain ⟨d', a, b, c⟩ := ih d hd e
      exact ⟨d', by omega, b, c⟩
    · exact ⟨T, Nat.le_refl _, h, fun d hd e => q ⟨d, hd, e⟩⟩
theorem KG_start (g : List Int × List Bool → D) (h : List Int) : KG g [(h, [])] = .dct true [tupD h] [g (h, [])] := rfl
theorem q_searched (N T : Nat) (st : List Int) (hN : 3 ≤ N) (hN2 : N ≤ 6) (hT : T ≤ 720) (he : (bfs N T).2 = []) (hst : st ∈ ordP N N) : ∃ b, F_searched [.int (N : Int), tupD st] = .ok (.str (txt (pth (bfs N T).1 st))) b := by
  obtain ⟨d0, hd0, hh, hmin⟩ := least (p := fun d => hasE (bfs N d).1 st = true) T (bfs_full N T he hst)
  have hpth := (bfs_has N d0 hh (T - d0)).2
  rw [show d0 + (T - d0) = T by omega] at hpth
  obtain ⟨v0, hv0⟩ : ∃ v0 : Option D, v0 = some (.int (N : Int)) := ⟨_, rfl⟩
  obtain ⟨v2, hv2⟩ : ∃ v2 : Option D, v2 = some (tupD (rg 0 (N : Int))) := ⟨_, rfl⟩
  obtain ⟨e', w1, d, x5, x6, x7, x8, w2, w3⟩ := nx_while (t := asB (vOp dIsNotIn (.val (vVar 1)) (.own 3))) (b := B_searched_3)
    (fun m e => ∃ d x5 x6 x7 x8, d + m = d0 ∧ e = [v0, some (tupD st), v2, some (KG gS (bfs N d).1), some (.lst ((bfs N d).2.map tupD)), x5, x6, x7, x8]) 1000 d0 (by omega)
    (fun m e ⟨d, x5, x6, x7, x8, h1, h2⟩ => by
      subst h2
      have k : hasE (bfs N d).1 st = false := by
        have := hmin d (by omega)
        simpa using this
      have ni := notIn_KG gS (bfs N d).1 st
      rw [k] at ni
      refine ⟨[v0, some (tupD st), v2, some (KG gS (bfs N d).1), some (.lst ((bfs N d).2.map tupD)), x5, x6, x7, x8], ?_, ?_⟩
      · generalize KG gS (bfs N d).1 = K1 at *
        generalize tupD st = T1 at *
        simp [asB, vOp, evO, rsO, vVar, R.bind, R.ofO, ni]
      · obtain ⟨o6, o7, o8, r⟩ := round_S v0 (some (tupD st)) v2 x5 x6 x7 x8 N d hN hN2 (by omega)
        exact ⟨_, r, d + 1, _, _, _, _, by omega, rfl⟩)
    (fun e ⟨d, x5, x6, x7, x8, h1, h2⟩ => by
      subst h2
      have hd : d = d0 := by omega
      subst hd
      have ni := notIn_KG gS (bfs N d).1 st
      rw [hh] at ni
      refine ⟨_, ?_, d, x5, x6, x7, x8, rfl, rfl⟩
      generalize KG gS (bfs N d).1 = K1 at *
      generalize tupD st = T1 at *
      simp [asB, vOp, evO, rsO, vVar, R.bind, R.ofO, ni])
    [v0, some (tupD st), v2, some (KG gS (bfs N 0).1), some (.lst ((bfs N 0).2.map tupD)), none, none, none, none] ⟨0, none, none, none, none, by omega, rfl⟩
  have hd : d = d0 := by omega
  subst hd
  subst w3
  have dg : dDg (KG gS (bfs N d).1) (tupD st) = some (.str (txt (pth (bfs N T).1 st))) := by rw [dg_KG hh, hpth]; rfl
  have st0 : (bfs N 0).1 = [(rg 0 (N : Int), [])] := rfl
  have st1 : (bfs N 0).2.map tupD = [tupD (rg 0 (N : Int))] := rfl
  rw [st0, st1, KG_start] at w1
  have g0 : gS (rg 0 (N : Int), []) = .str "" := by show D.str (txt []) = _; rw [← txt_nil]
  rw [g0] at w1
  have kk : (keyT (tupD (rg 0 (N : Int)))).isSome = true := by rw [keyT_tup]; rfl
  have hg : rgOk 0 (N : Int) = true := by simp [rgOk]; omega
  have tr : D.tup (rgD 0 (N : Int)) = tupD (rg 0 (N : Int)) := by rw [rgD_rg]; rfl
  subst hv0
  subst hv2
  refine ⟨.int (N : Int), ?_⟩
  generalize KG gS (bfs N d).1 = K1 at *
  generalize tupD st = S1 at *
  rw [← tr] at w1 kk
  simp [F_searched, runF, m_searched_eq, T_searched, sSeq, sSet, vTupRg, vRg1, vVar, vC, vLst, aCons, aNil, R.bind, R.toS, R.ofO, hg, sPar, evX, setsE, vDisp1, kk, sWhile, w1, sRet, vOp, evO, rsO, dg, bagOf]
end Fl

namespace Fl
open PySem PySem.Spec PyProof.Rows L2

/-! ## the law's own search -/
def prD (b : Bool) : D := if b then .tup [.int 0, .int 1] else .tup [.int 1, .int 0]
def onD (b : Bool) : D := if b then .int 0 else .int 1
def otD (b : Bool) : D := if b then .int 1 else .int 0
theorem there_ok (h : List Int) (b : Bool) (h2 : 2 ≤ h.length) (h3 : h.length ≤ 1000) : ∃ a c r, dIx (tupD h) (onD b) = some a ∧ dIx (tupD h) (otD b) = some c ∧ dSl (tupD h) (some 2) none = some (.tup r) ∧ r.length ≤ 1000 ∧ D.tup ([a] ++ r ++ [c]) = tupD (stp b h) := by
  match h, h2 with
  | x :: y :: r, _ =>
    have i0 : dIx (tupD (x :: y :: r)) (.int 0) = some (.int x) := by
      show atI ((x :: y :: r).map D.int) 0 = _
      have : (0 : Int) < (r.length : Int) + 1 + 1 := by omega
      simp [atI, ixN, this]
    have i1 : dIx (tupD (x :: y :: r)) (.int 1) = some (.int y) := by
      show atI ((x :: y :: r).map D.int) 1 = _
      have : (1 : Int) < (r.length : Int) + 1 + 1 := by omega
      simp [atI, ixN, this]
    have sl : dSl (tupD (x :: y :: r)) (some 2) none = some (.tup (r.map D.int)) := by
      show some (D.tup (cutD (D.int x :: D.int y :: r.map D.int) (some 2) none)) = _
      rw [cut2r]
    have hr : (r.map D.int).length ≤ 1000 := by
      rw [List.length_map]
      simp only [List.length_cons] at h3
      omega
    cases b
    · exact ⟨_, _, _, i1, i0, sl, hr, by simp [stp, tupD]⟩
    · exact ⟨_, _, _, i0, i1, sl, hr, by simp [stp, tupD]⟩
theorem turn_F1 (v0 v1 v3 x9 : Option D) (as : Ent) (lt : List (List Int)) (h : List Int) (b : Bool) (d : Nat) (h2 : 2 ≤ h.length) (h3 : h.length ≤ 1000) (hp : (pth as h).length = d) (ha : as.length ≤ 1000) (hl : lt.length ≤ 1000) :
    B__law_first_1 [v0, v1, some (KG gI as), v3, some (.int ((d + 1 : Nat) : Int)), some (.lst (lt.map tupD)), some (tupD h), some (onD b), some (otD b), x9] = .nx [v0, v1, some (KG gI (ins1 h (as, lt) b).1), v3, some (.int ((d + 1 : Nat) : Int)), some (.lst ((ins1 h (as, lt) b).2.map tupD)), some (tupD h), some (onD b), some (otD b), some (tupD (stp b h))] := by
  obtain ⟨a, c, r, i0, i1, sl, hr, et⟩ := there_ok h b h2 h3
  have a1 : dAdd (.tup [a]) (.tup r) = some (.tup ([a] ++ r)) := by
    show (if [a].length + r.length ≤ 1000000 then some (D.tup ([a] ++ r)) else none) = _
    rw [if_pos (by simp; omega)]
  have a2 : dAdd (.tup ([a] ++ r)) (.tup [c]) = some (tupD (stp b h)) := by
    rw [← et]
    show (if ([a] ++ r).length + [c].length ≤ 1000000 then some (D.tup ([a] ++ r ++ [c])) else none) = _
    rw [if_pos (by simp; omega)]
  have ni := notIn_KG gI as (stp b h)
  unfold ins1
  by_cases k : hasE as (stp b h) = true
  · rw [if_pos k]
    rw [k] at ni
    generalize KG gI as = K1 at *
    generalize tupD (stp b h) = T2 at *
    generalize tupD h = T1 at *
    generalize lt.map tupD = L1 at *
    generalize onD b = O1 at *
    generalize otD b = O2 at *
    generalize [a] ++ r = AR at *
    simp [B__law_first_1, sSeq, sSet, vTup, vSl, vPart, aCons, aNil, vVar, vC, R.bind, R.toS, R.ofO, i0, i1, sl, a1, a2, sIf, asB, vOp, evO, rsO, ni, sNx]
  · rw [if_neg k]
    have kf : hasE as (stp b h) = false := by simpa using k
    rw [kf] at ni
    have pt : dPut (KG gI as) (tupD (stp b h)) (.int ((d + 1 : Nat) : Int)) = some (KG gI (as ++ [(stp b h, pth as h ++ [b])])) := by
      have := put_KG (g := gI) k (pth as h ++ [b]) (by omega)
      have e : gI (stp b h, pth as h ++ [b]) = .int ((d + 1 : Nat) : Int) := by
        show D.int (((pth as h ++ [b]).length : Nat) : Int) = _
        rw [List.length_append, hp]
        rfl
      rw [e] at this
      exact this
    have ml : (lt.map tupD).length ≤ 1000000 := by rw [List.length_map]; omega
    have e2 : (lt ++ [stp b h]).map tupD = lt.map tupD ++ [tupD (stp b h)] := by rw [List.map_append]; rfl
    rw [e2]
    generalize KG gI (as ++ [(stp b h, pth as h ++ [b])]) = K2 at *
    generalize KG gI as = K1 at *
    generalize tupD (stp b h) = T2 at *
    generalize tupD h = T1 at *
    generalize lt.map tupD = L1 at *
    generalize onD b = O1 at *
    generalize otD b = O2 at *
    generalize [a] ++ r = AR at *
    generalize ((d + 1 : Nat) : Int) = dd at *
    simp [B__law_first_1, sSeq, sSet, vTup, vSl, vPart, aCons, aNil, vVar, vC, R.bind, R.toS, R.ofO, i0, i1, sl, a1, a2, sIf, asB, vOp, evO, rsO, ni, sDPut, pt, sExpr, vAppend, ml]
theorem turn_F2 (v0 v1 v3 x7 x8 x9 : Option D) {N d : Nat} {as0 : Ent} {s : Ent × List (List Int)} {h : List Int} (m : MI N d as0 s) (hN : 3 ≤ N) (hN2 : N ≤ 6) (h0 : hasE as0 h = true) (h1 : (pth as0 h).length = d) :
    B__law_first_2 [v0, v1, some (KG gI s.1), v3, some (.int ((d + 1 : Nat) : Int)), some (.lst (s.2.map tupD)), some (tupD h), x7, x8, x9] = .nx [v0, v1, some (KG gI (exp2 s h).1), v3, some (.int ((d + 1 : Nat) : Int)), some (.lst ((exp2 s h).2.map tupD)), some (tupD h), some (onD false), some (otD false), some (tupD (stp false h))] := by
  obtain ⟨a1, a2, a3⟩ := m.at h0
  obtain ⟨b1, b2⟩ := m.bd hN2
  have m1 := (m.ins (b := true) h0 h1).1
  obtain ⟨c1, c2, c3⟩ := m1.at h0
  obtain ⟨e1, e2⟩ := m1.bd hN2
  have t1 : B__law_first_1 [v0, v1, some (KG gI s.1), v3, some (.int ((d + 1 : Nat) : Int)), some (.lst (s.2.map tupD)), some (tupD h), some (onD true), some (otD true), x9] = .nx [v0, v1, some (KG gI (ins1 h s true).1), v3, some (.int ((d + 1 : Nat) : Int)), some (.lst ((ins1 h s true).2.map tupD)), some (tupD h), some (onD true), some (otD true), some (tupD (stp true h))] := turn_F1 v0 v1 v3 x9 s.1 s.2 h true d (by omega) (by omega) (by rw [a2]; exact h1) (by omega) (by omega)
  have t2 : B__law_first_1 [v0, v1, some (KG gI (ins1 h s true).1), v3, some (.int ((d + 1 : Nat) : Int)), some (.lst ((ins1 h s true).2.map tupD)), some (tupD h), some (onD false), some (otD false), some (tupD (stp true h))] = .nx [v0, v1, some (KG gI (exp2 s h).1), v3, some (.int ((d + 1 : Nat) : Int)), some (.lst ((exp2 s h).2.map tupD)), some (tupD h), some (onD false), some (otD false), some (tupD (stp false h))] := turn_F1 v0 v1 v3 (some (tupD (stp true h))) (ins1 h s true).1 (ins1 h s true).2 h false d (by omega) (by omega) (by rw [c2]; exact h1) (by omega) (by omega)
  refine for_it (ds := [prD true, prD false]) rfl ?_
  rw [forL]
  show (match B__law_first_1 [v0, v1, some (KG gI s.1), v3, some (.int ((d + 1 : Nat) : Int)), some (.lst (s.2.map tupD)), some (tupD h), some (onD true), some (otD true), x9] with | .nx e2 => forL (gT2 7 8) B__law_first_1 [prD false] e2 | .ct e2 => forL (gT2 7 8) B__law_first_1 [prD false] e2 | .bk e2 => .nx e2 | r => r) = _
  rw [t1]
  show forL (gT2 7 8) B__law_first_1 [prD false] _ = _
  rw [forL]
  show (match B__law_first_1 [v0, v1, some (KG gI (ins1 h s true).1), v3, some (.int ((d + 1 : Nat) : Int)), some (.lst ((ins1 h s true).2.map tupD)), some (tupD h), some (onD false), some (otD false), some (tupD (stp true h))] with | .nx e2 => forL (gT2 7 8) B__law_first_1 [] e2 | .ct e2 => forL (gT2 7 8) B__law_first_1 [] e2 | .bk e2 => .nx e2 | r => r) = _
  rw [t2]
  rfl
theorem loop_F (v0 v1 v3 : Option D) {N d : Nat} {as0 : Ent} (hN : 3 ≤ N) (hN2 : N ≤ 6) : ∀ (L : List (List Int)) (s : Ent × List (List Int)) (x6 x7 x8 x9 : Option D), MI N d as0 s → (∀ h ∈ L, hasE as0 h = true ∧ (pth as0 h).length = d) →
    ∃ o6 o7 o8 o9, forL (gN 6) B__law_first_2 (L.map tupD) [v0, v1, some (KG gI s.1), v3, some (.int ((d + 1 : Nat) : Int)), some (.lst (s.2.map tupD)), x6, x7, x8, x9] = .nx [v0, v1, some (KG gI (L.foldl exp2 s).1), v3, some (.int ((d + 1 : Nat) : Int)), some (.lst ((L.foldl exp2 s).2.map tupD)), o6, o7, o8, o9]
  | [], s, x6, x7, x8, x9, _, _ => ⟨x6, x7, x8, x9, rfl⟩
  | h :: L, s, x6, x7, x8, x9, m, hL => by
    obtain ⟨h0, h1⟩ := hL h (.head _)
    have t := turn_F2 v0 v1 v3 x7 x8 x9 m hN hN2 h0 h1
    obtain ⟨o6, o7, o8, o9, e⟩ := loop_F v0 v1 v3 hN hN2 L (exp2 s h) (some (tupD h)) (some (onD false)) (some (otD false)) (some (tupD (stp false h))) (m.exp h0 h1).1 fun x hx => hL x (.tail _ hx)
    refine ⟨o6, o7, o8, o9, ?_⟩
    rw [List.map_cons, forL]
    show (match B__law_first_2 [v0, v1, some (KG gI s.1), v3, some (.int ((d + 1 : Nat) : Int)), some (.lst (s.2.map tupD)), some (tupD h), x7, x8, x9] with | .nx e2 => forL (gN 6) B__law_first_2 (L.map tupD) e2 | .ct e2 => forL (gN 6) B__law_first_2 (L.map tupD) e2 | .bk e2 => .nx e2 | r => r) = _
    rw [t]
    exact e
theorem round_F (v0 v1 x5 x6 x7 x8 x9 : Option D) (N d : Nat) (hN : 3 ≤ N) (hN2 : N ≤ 6) :
    ∃ o6 o7 o8 o9, B__law_first_3 [v0, v1, some (KG gI (bfs N d).1), some (.lst ((bfs N d).2.map tupD)), some (.int (d : Int)), x5, x6, x7, x8, x9] = .nx [v0, v1, some (KG gI (bfs N (d + 1)).1), some (.lst ((bfs N (d + 1)).2.map tupD)), some (.int ((d + 1 : Nat) : Int)), none, o6, o7, o8, o9] := by
  have B := bfs_BI N d
  have m0 : MI N d (bfs N d).1 ((bfs N d).1, []) := ⟨⟨[], by simp, rfl, fun a ha => by cases ha⟩, B.ord, B.nd, B.run⟩
  obtain ⟨o6, o7, o8, o9, e⟩ := loop_F v0 v1 (some (.lst ((bfs N d).2.map tupD))) hN hN2 (bfs N d).2 ((bfs N d).1, []) x6 x7 x8 x9 m0 B.lay
  have e : forL (gN 6) B__law_first_2 ((bfs N d).2.map tupD) [v0, v1, some (KG gI (bfs N d).1), some (.lst ((bfs N d).2.map tupD)), some (.int ((d + 1 : Nat) : Int)), some (.lst []), x6, x7, x8, x9] = .nx [v0, v1, some (KG gI (bfs N (d + 1)).1), some (.lst ((bfs N d).2.map tupD)), some (.int ((d + 1 : Nat) : Int)), some (.lst ((bfs N (d + 1)).2.map tupD)), o6, o7, o8, o9] := e
  refine ⟨o6, o7, o8, o9, ?_⟩
  have ad : dAdd (.int (d : Int)) (.int 1) = some (.int ((d + 1 : Nat) : Int)) := rfl
  unfold B__law_first_3
  refine (sq (e1 := [v0, v1, some (KG gI (bfs N d).1), some (.lst ((bfs N d).2.map tupD)), some (.int ((d + 1 : Nat) : Int)), some (.lst []), x6, x7, x8, x9]) ?_).trans ?_
  · generalize KG gI (bfs N d).1 = K1
    generalize (bfs N d).2.map tupD = L1
    simp [sPar, evX, setsE, vOp, evO, rsO, vVar, vC, vLst, aNil, R.bind, R.toS, R.ofO, ad]
  · refine (sq (for_it (ds := (bfs N d).2.map tupD) ?_ e)).trans ?_
    · generalize KG gI (bfs N d).1 = K1
      generalize (bfs N d).2.map tupD = L1
      rfl
    · generalize KG gI (bfs N (d + 1)).1 = K1
      generalize (bfs N d).2.map tupD = L1
      generalize (bfs N (d + 1)).2.map tupD = L2
      rfl
theorem ne_layer (L : List (List Int)) : dNe (.lst (L.map tupD)) (.lst []) = some (.bl (!L.isEmpty)) := by
  have h1 : pyOk 60 (.lst (L.map tupD)) = true := by
    rw [pyOk]
    exact okL_map fun a _ => by show pyOk (58 + 1) (.tup (a.map D.int)) = true; rw [pyOk]; exact ok_ints 58 a
  have h2 : pyOk 60 (.lst []) = true := rfl
  have h3 : eqD (.lst (L.map tupD)) (.lst []) = L.isEmpty := by
    rw [eqD]
    cases L <;> simp [eqL]
  simp [dNe, h1, h2, h3]
theorem q_law_first (N T : Nat) (hN : 3 ≤ N) (hN2 : N ≤ 6) (hT : T ≤ 720) (he : (bfs N T).2 = []) (hmin : ∀ d, d < T → (bfs N d).2 ≠ []) : ∃ b, F__law_first [.int (N : Int)] = .ok (KG gI (bfs N T).1) b := by
  obtain ⟨v0, hv0⟩ : ∃ v0 : Option D, v0 = some (.int (N : Int)) := ⟨_, rfl⟩
  obtain ⟨v1, hv1⟩ : ∃ v1 : Option D, v1 = some (tupD (rg 0 (N : Int))) := ⟨_, rfl⟩
  obtain ⟨e', w1, d, x5, x6, x7, x8, x9, w2, w3⟩ := nx_while (t := asB (vOp dNe (.val (vVar 3)) (.val (vLst aNil)))) (b := B__law_first_3)
    (fun m e => ∃ d x5 x6 x7 x8 x9, d + m = T ∧ e = [v0, v1, some (KG gI (bfs N d).1), some (.lst ((bfs N d).2.map tupD)), some (.int (d : Int)), x5, x6, x7, x8, x9]) 1000 T (by omega)
    (fun m e ⟨d, x5, x6, x7, x8, x9, h1, h2⟩ => by
      subst h2
      have k := ne_layer (bfs N d).2
      have k0 : (bfs N d).2.isEmpty = false := by
        have := hmin d (by omega)
        cases q : (bfs N d).2 with
        | nil => exact absurd q this
        | cons a b => rfl
      rw [k0] at k
      refine ⟨[v0, v1, some (KG gI (bfs N d).1), some (.lst ((bfs N d).2.map tupD)), some (.int (d : Int)), x5, x6, x7, x8, x9], ?_, ?_⟩
      · generalize KG gI (bfs N d).1 = K1 at *
        generalize (bfs N d).2.map tupD = L1 at *
        simp [asB, vOp, evO, rsO, vVar, vLst, aNil, R.bind, R.ofO, k]
      · obtain ⟨o6, o7, o8, o9, r⟩ := round_F v0 v1 x5 x6 x7 x8 x9 N d hN hN2
        exact ⟨_, r, d + 1, _, _, _, _, _, by omega, rfl⟩)
    (fun e ⟨d, x5, x6, x7, x8, x9, h1, h2⟩ => by
      subst h2
      have hd : d = T := by omega
      subst hd
      have k := ne_layer (bfs N d).2
      have k0 : (bfs N d).2.isEmpty = true := by rw [he]; rfl
      rw [k0] at k
      refine ⟨_, ?_, d, x5, x6, x7, x8, x9, rfl, rfl⟩
      generalize KG gI (bfs N d).1 = K1 at *
      generalize (bfs N d).2.map tupD = L1 at *
      simp [asB, vOp, evO, rsO, vVar, vLst, aNil, R.bind, R.ofO, k])
    [v0, v1, some (KG gI (bfs N 0).1), some (.lst ((bfs N 0).2.map tupD)), some (.int ((0 : Nat) : Int)), none, none, none, none, none] ⟨0, none, none, none, none, none, by omega, rfl⟩
  have hd : d = T := by omega
  subst hd
  subst w3
  have st0 : (bfs N 0).1 = [(rg 0 (N : Int), [])] := rfl
  have st1 : (bfs N 0).2.map tupD = [tupD (rg 0 (N : Int))] := rfl
  rw [st0, st1, KG_start] at w1
  have g0 : gI (rg 0 (N : Int), []) = .int 0 := rfl
  rw [g0] at w1
  have w1 : whileN (asB (vOp dNe (.val (vVar 3)) (.val (vLst aNil)))) B__law_first_3 1000 [v0, v1, some (.dct true [tupD (rg 0 (N : Int))] [.int 0]), some (.lst [tupD (rg 0 (N : Int))]), some (.int 0), none, none, none, none, none] = _ := w1
  have kk : (keyT (tupD (rg 0 (N : Int)))).isSome = true := by rw [keyT_tup]; rfl
  have hg : rgOk 0 (N : Int) = true := by simp [rgOk]; omega
  have tr : D.tup (rgD 0 (N : Int)) = tupD (rg 0 (N : Int)) := by rw [rgD_rg]; rfl
  subst hv0
  subst hv1
  refine ⟨.int (N : Int), ?_⟩
  generalize KG gI (bfs N d).1 = K1 at *
  rw [← tr] at w1 kk
  simp [F__law_first, runFN, m__law_first_eq, T__law_first, sSeq, sSet, vTupRg, vRg1, vVar, vC, vLst, aCons, aNil, R.bind, R.toS, R.ofO, hg, sPar, evX, setsE, vDisp1, kk, sWhile, w1, sRet, vMove, bagOf]
end Fl

namespace Fl
open PySem PySem.Spec PyProof.Rows L2

theorem sum_nn {α : Type} (f : α → Int) (h : ∀ a, 0 ≤ f a) : ∀ L : List α, 0 ≤ (L.map f).sum
  | [] => by simp
  | a :: L => by
    have := sum_nn f h L
    have := h a
    rw [List.map_cons, List.sum_cons]; omega
theorem ways_nn (N c : Nat) (st : List Int) : 0 ≤ ways N c st := sum_nn _ (fun bs => by dsimp only; split <;> omega) _
theorem sum_zero {α : Type} (f : α → Int) : ∀ L : List α, (∀ a ∈ L, f a = 0) → (L.map f).sum = 0
  | [], _ => rfl
  | a :: L, h => by rw [List.map_cons, List.sum_cons, h a (.head _), sum_zero f L fun b hb => h b (.tail _ hb)]; rfl
theorem ways_zero (N c : Nat) (st : List Int) (h : ∀ bs : List Bool, bs.length = c → runS bs (rg 0 (N : Int)) ≠ st) : ways N c st = 0 :=
  sum_zero _ _ fun bs hb => if_neg (h bs (allB_len c bs hb))
theorem sum_pos {α : Type} (f : α → Int) (h : ∀ a, 0 ≤ f a) : ∀ (L : List α) (a : α), a ∈ L → f a ≤ (L.map f).sum
  | b :: L, a, hm => by
    have h1 := sum_nn f h L
    have h2 := h b
    rw [List.map_cons, List.sum_cons]
    rcases List.mem_cons.mp hm with rfl | hm
    · omega
    · have := sum_pos f h L a hm
      omega
theorem ways_pos (N c : Nat) (st : List Int) (bs : List Bool) (hl : bs.length = c) (h : runS bs (rg 0 (N : Int)) = st) : 1 ≤ ways N c st := by
  have := sum_pos (fun bs => if runS bs (rg 0 (N : Int)) = st then (1 : Int) else 0) (fun bs => by split <;> omega) (allB c) bs (allB_mem c bs hl)
  rw [if_pos h] at this
  exact this
theorem q_of (x y : Int) (ds : List D) (hx : 0 ≤ x) (hy : 0 ≤ y) (h0 : ds ≠ []) (hl : ds.length ≤ 100000) : ∃ d x' y', F__law_of [bagD x y, .lst ds] = .ok d (bagD x' y') ∧ 0 ≤ x' ∧ 0 ≤ y' ∧ d ∈ ds := by
  have hp : 0 < ds.length := List.length_pos_iff.mpr h0
  obtain ⟨r, x', y', e, h1, h2, h3, h4⟩ := q_take x y (ds.length : Int) hx hy (by omega) (by omega)
  have hr : r.toNat < ds.length := by omega
  have ix : dIx (.lst ds) (.int r) = some ds[r.toNat] := by
    show atI ds r = _
    unfold atI ixN
    rw [if_pos h1, if_pos h2]
    exact List.getElem?_eq_getElem hr
  refine ⟨ds[r.toNat], x', y', ?_, h3, h4, List.getElem_mem hr⟩
  have fl : fLen [.lst ds] = some (.int (ds.length : Int)) := rfl
  generalize ds[r.toNat] = dd at *
  simp [F__law_of, runFB, m__law_of, sRet, vOp, evO, rsO, vVar, vCallB, aCons, aNil, vB, evOs, rsOs, R.bind, R.toS, R.ofO, fl, e, ix]
theorem q_few (N T : Nat) (st : List Int) (hN : 3 ≤ N) (hN2 : N ≤ 6) (hT : T ≤ 720) (he : (bfs N T).2 = []) (hst : st ∈ ordP N N) : (∃ b, F_fewest_games [.int (N : Int), tupD st] = .ok (.int ((pth (bfs N T).1 st).length : Int)) b) ∧ ∃ b, F_shortest_results [.int (N : Int), tupD st] = .ok (.str (txt (pth (bfs N T).1 st))) b := by
  obtain ⟨b1, p1⟩ := q_require_few (N : Int) (by omega) (by omega)
  obtain ⟨b2, p2⟩ := q_require_order (N : Int) st (by omega) (by omega) (ordP_perm N st hst)
  obtain ⟨b3, p3⟩ := q_searched N T st hN hN2 hT he hst
  have p2 : F_require_order [.int (N : Int), tupD st] = .ok .non b2 := p2
  have fl : fLen [.str (txt (pth (bfs N T).1 st))] = some (.int ((pth (bfs N T).1 st).length : Int)) := by
    have hp := (bfs_BI N T).len _ (pth_mem (bfs_full N T he hst))
    have hp : (pth (bfs N T).1 st).length ≤ T := hp
    unfold fLen
    simp only [txt_len]
    rw [if_pos (by omega)]
  generalize txt (pth (bfs N T).1 st) = X at *
  generalize tupD st = S1 at *
  constructor
  · exact ⟨.int (N : Int), by simp [F_fewest_games, runF, m_fewest_games, sSeq, sExpr, vCall, aCons, aNil, vVar, R.bind, R.toS, R.ofO, p1, p2, p3, sRet, vB, evOs, rsOs, evO, rsO, fl, bagOf]⟩
  · exact ⟨.int (N : Int), by simp [F_shortest_results, runF, m_shortest_results, sSeq, sExpr, vCall, aCons, aNil, vVar, R.bind, R.toS, R.ofO, p1, p2, p3, sRet, bagOf]⟩
section
variable (x0 x1 x2 x3 x4 x5 x6 x7 x8 x9 x10 x11 x12 : Option D)
theorem mb_ok : mb_law [x0, x1, some lams3, x3, x4, x5, x6, x7, x8, x9, x10, x11, x12] = .rt (.bl true) [x0, x1, some lams3, some (.bl true), x4, x5, x6, x7, x8, x9, x10, x11, x12] := by kernel_rfl
theorem c1_of (B0 B1 RR s : D) (q : F__law_of [B0, RR] = .ok s B1) : sSet 9 (vCallB 2 F__law_of 4 (aCons (vVar 7) aNil)) [x0, x1, x2, x3, some B0, x5, x6, some RR, x8, x9, x10, x11, x12] = .nx [x0, x1, x2, x3, some B1, x5, x6, some RR, x8, some s, x10, x11, x12] := by
  simp [sSet, vCallB, aCons, aNil, vVar, R.bind, R.toS, R.ofO, q]
theorem c1_two (n s a t b1 b2 : D) (q1 : F_fewest_games [n, s] = .ok a b1) (q2 : F_shortest_results [n, s] = .ok t b2) : sPar [10, 11] [(false, (vCall 2 F_fewest_games (aCons (vVar 5) (aCons (vVar 9) aNil)))), (false, (vCall 2 F_shortest_results (aCons (vVar 5) (aCons (vVar 9) aNil))))] [x0, x1, x2, x3, x4, some n, x6, x7, x8, some s, x10, x11, x12] = .nx [x0, x1, x2, x3, x4, some n, x6, x7, x8, some s, some a, some t, x12] := by
  simp [sPar, evX, setsE, vCall, aCons, aNil, vVar, R.bind, R.toS, R.ofO, q1, q2]
theorem c1_told (K s t : D) (p : Int) (g : dDg K s = some (.int p)) (fl : fLen [t] = some (.int p)) : sIf (bOr (asB (vOp dNe (.val (vVar 10)) (.val (vOp dDg (.own 6) (.val (vVar 9)))))) (bOr (asB (vIsi "bool" (.val (vVar 10)))) (asB (vOp dNe (.val (vB fLen [(.val (vVar 11))])) (.val (vVar 10)))))) (sRet (vC (.bl false))) sNx [x0, x1, x2, x3, x4, x5, some K, x7, x8, some s, some (.int p), some t, x12] = .nx [x0, x1, x2, x3, x4, x5, some K, x7, x8, some s, some (.int p), some t, x12] := by
  have ne : dNe (.int p) (.int p) = some (.bl false) := by
    show some (D.bl (!(p == p))) = _
    simp
  have ib : vIsi "bool" (.val (vVar 10)) [x0, x1, x2, x3, x4, x5, some K, x7, x8, some s, some (.int p), some t, x12] = .ok (.bl false) [x0, x1, x2, x3, x4, x5, some K, x7, x8, some s, some (.int p), some t, x12] := by
    kernel_rfl
  simp [sIf, bOr, asB, vOp, evO, rsO, vVar, vB, evOs, rsOs, R.bind, R.toS, R.ofO, g, ne, fl, sNx] at ib ⊢
  simp [ib, ne, rsOs, rsO, fl]
theorem c1_played (n s t P b : D) (q : F__law_played [n, t] = .ok (.tup [P, s]) b) (ne : dNe s s = some (.bl false)) : sIf (asB (vOp dNe (.val (vOp dIx (.val (vCall 2 F__law_played (aCons (vVar 5) (aCons (vVar 11) aNil)))) (.val (vC (.int 1))))) (.val (vVar 9)))) (sRet (vC (.bl false))) sNx [x0, x1, x2, x3, x4, some n, x6, x7, x8, some s, x10, some t, x12] = .nx [x0, x1, x2, x3, x4, some n, x6, x7, x8, some s, x10, some t, x12] := by
  have ix : dIx (.tup [P, s]) (.int 1) = some s := rfl
  simp [sIf, asB, vOp, evO, rsO, vCall, aCons, aNil, vVar, vC, R.bind, R.toS, R.ofO, q, ix, ne, sNx]
end
end Fl

namespace Fl
open PySem PySem.Spec PyProof.Rows L2

section
variable (x0 x1 x2 x3 x4 x5 x6 x7 x8 x9 x10 x11 x12 : Option D)
theorem c1_w1 (n s b : D) (p W : Int) (q : F_count_ways [n, s, .int (if p < 60 then p else 60)] = .ok (.int W) b) (h : ¬ W < if p < 61 then 1 else 0) : sIf (asB (vOp dLt (.val (vCall 3 F_count_ways (aCons (vVar 5) (aCons (vVar 9) (aCons (vB fMin2 [(.val (vC (.int 60))), (.val (vVar 10))]) aNil))))) (.val (vB fInt [(.val (vOp dLt (.val (vVar 10)) (.val (vC (.int 61)))))])))) (sRet (vC (.bl false))) sNx [x0, x1, x2, x3, x4, some n, x6, x7, x8, some s, some (.int p), x11, x12] = .nx [x0, x1, x2, x3, x4, some n, x6, x7, x8, some s, some (.int p), x11, x12] := by
  have mn : fMin2 [.int 60, .int p] = some (.int (if p < 60 then p else 60)) := rfl
  have l1 : dLt (.int p) (.int 61) = some (.bl (decide (p < 61))) := rfl
  have fi : fInt [.bl (decide (p < 61))] = some (.int (if p < 61 then 1 else 0)) := by
    by_cases c : p < 61 <;> simp [fInt, c]
  have l2 : dLt (.int W) (.int (if p < 61 then 1 else 0)) = some (.bl false) := by
    show some (D.bl (decide (W < if p < 61 then 1 else 0))) = _
    rw [decide_eq_false h]
  generalize (if p < 60 then p else 60) = m at *
  generalize (if p < 61 then (1 : Int) else 0) = z at *
  generalize decide (p < 61) = k at *
  simp [sIf, asB, vOp, evO, rsO, vCall, aCons, aNil, vVar, vC, vB, evOs, rsOs, R.bind, R.toS, R.ofO, mn, l1, fi, q, l2, sNx]
theorem c1_w2 (n s b : D) (p : Int) (q : 0 < p → F_count_ways [n, s, .int (if p - 1 < 60 then p - 1 else 60)] = .ok (.int 0) b) : sIf (bAnd (asB (vOp dGt (.val (vVar 10)) (.val (vC (.int 0))))) (asB (vOp dNe (.val (vCall 3 F_count_ways (aCons (vVar 5) (aCons (vVar 9) (aCons (vB fMin2 [(.val (vC (.int 60))), (.val (vOp dSub (.val (vVar 10)) (.val (vC (.int 1)))))]) aNil))))) (.val (vC (.int 0)))))) (sRet (vC (.bl false))) sNx [x0, x1, x2, x3, x4, some n, x6, x7, x8, some s, some (.int p), x11, x12] = .nx [x0, x1, x2, x3, x4, some n, x6, x7, x8, some s, some (.int p), x11, x12] := by
  have mn : fMin2 [.int 60, .int (p - 1)] = some (.int (if p - 1 < 60 then p - 1 else 60)) := rfl
  have g : dGt (.int p) (.int 0) = some (.bl (decide (0 < p))) := rfl
  have ne : dNe (.int 0) (.int 0) = some (.bl false) := rfl
  by_cases c : 0 < p
  · have q := q c
    rw [decide_eq_true c] at g
    generalize (if p - 1 < 60 then p - 1 else 60) = m at *
    simp [sIf, bAnd, asB, vOp, evO, rsO, vCall, aCons, aNil, vVar, vC, vB, evOs, rsOs, R.bind, R.toS, R.ofO, mn, g, sb0, q, ne, sNx]
  · rw [decide_eq_false c] at g
    simp [sIf, bAnd, asB, vOp, evO, rsO, vVar, vC, R.bind, R.toS, R.ofO, g, sNx]
theorem c2_bag (S0 B0 bb : D) (k : Int) (q : F__law_bag [S0, .int k] = .ok B0 bb) : sSet 4 (vCall 2 F__law_bag (aCons (vVar 0) (aCons (vVar 1) aNil))) [some S0, some (.int k), x2, x3, x4, x5, x6, x7, x8, x9, x10, x11, x12] = .nx [some S0, some (.int k), x2, x3, some B0, x5, x6, x7, x8, x9, x10, x11, x12] := by
  simp [sSet, vCall, aCons, aNil, vVar, R.bind, R.toS, R.ofO, q]
theorem c2_many (B0 B1 : D) (r : Int) (h0 : 0 ≤ r) (h1 : r < 4) (q : F__law_take [B0, .int 4] = .ok (.int r) B1) : sSet 5 (vOp dIx (.val (vLst (aCons (vC (.int 3)) (aCons (vC (.int 4)) (aCons (vC (.int 5)) (aCons (vC (.int 6)) aNil)))))) (.val (vCallB 2 F__law_take 4 (aCons (vC (.int 4)) aNil)))) [x0, x1, x2, x3, some B0, x5, x6, x7, x8, x9, x10, x11, x12] = .nx [x0, x1, x2, x3, some B1, some (.int (3 + r)), x6, x7, x8, x9, x10, x11, x12] := by
  have ix : dIx (.lst [.int 3, .int 4, .int 5, .int 6]) (.int r) = some (.int (3 + r)) := by
    have : r = 0 ∨ r = 1 ∨ r = 2 ∨ r = 3 := by omega
    rcases this with rfl | rfl | rfl | rfl <;> rfl
  simp [sSet, vLst, vOp, evO, rsO, vCallB, aCons, aNil, vVar, vC, R.bind, R.toS, R.ofO, q, ix]
theorem c2_first (n K bb : D) (q : F__law_first [n] = .ok K bb) : sSet 6 (vCall 1 F__law_first (aCons (vVar 5) aNil)) [x0, x1, x2, x3, x4, some n, x6, x7, x8, x9, x10, x11, x12] = .nx [x0, x1, x2, x3, x4, some n, some K, x7, x8, x9, x10, x11, x12] := by
  simp [sSet, vCall, aCons, aNil, vVar, R.bind, R.toS, R.ofO, q]
theorem c2_rows (K L : D) (q : fSortTD [K] = some L) : sSet 7 (vB fSortTD [(.own 6)]) [x0, x1, x2, x3, x4, x5, some K, x7, x8, x9, x10, x11, x12] = .nx [x0, x1, x2, x3, x4, x5, some K, some L, x8, x9, x10, x11, x12] := by
  simp [sSet, vB, evOs, rsOs, evO, rsO, R.bind, R.toS, R.ofO, q]
theorem c2_len (L : D) (N : Nat) (h3 : 3 ≤ N) (h6 : N ≤ 6) (q : fLen [L] = some (.int (fct N : Int))) : sIf (asB (vOp dNe (.val (vB fLen [(.val (vVar 7))])) (.val (vOp dDg (.val (vDispI [(3, 6), (4, 24), (5, 120), (6, 720)])) (.val (vVar 5)))))) (sRet (vC (.bl false))) sNx [x0, x1, x2, x3, x4, some (.int (N : Int)), x6, some L, x8, x9, x10, x11, x12] = .nx [x0, x1, x2, x3, x4, some (.int (N : Int)), x6, some L, x8, x9, x10, x11, x12] := by
  have dg : dDg (.dct false [.int 3, .int 4, .int 5, .int 6] [.int 6, .int 24, .int 120, .int 720]) (.int (N : Int)) = some (.int (fct N : Int)) := by
    have : N = 3 ∨ N = 4 ∨ N = 5 ∨ N = 6 := by omega
    rcases this with rfl | rfl | rfl | rfl <;> kernel_rfl
  have ne : dNe (.int (fct N : Int)) (.int (fct N : Int)) = some (.bl false) := by
    show some (D.bl (!((fct N : Int) == (fct N : Int)))) = _
    simp
  simp [sIf, asB, vOp, evO, rsO, vB, evOs, rsOs, vDispI, vVar, R.bind, R.toS, R.ofO, q, dg, ne, sNx]
end
theorem q_playedL (n : Int) (bs : List Bool) (h : 3 ≤ n) (h2 : n ≤ 12) (hl : bs.length ≤ 900) : ∃ b, F__law_played [.int n, .str (txt bs)] = .ok (.tup [.lst ((prs bs (rg 0 n)).map pD), .tup ((runS bs (rg 0 n)).map D.int)]) b := by
  have e0 : rg 0 n = 0 :: rg 1 n := rg_cons (by omega)
  obtain ⟨o, o6, x', q', e1, e2⟩ := loop_Q n (.str (txt bs)) bs 0 (rg 1 n) [] none none (by rw [rg_len]; omega) (by rw [rg_len]; omega) (by simp; omega)
  have hm : m__law_played = sSeq (sPar [2, 3, 4] [(false, (vC (.int 0))), (true, (vLstRg (vRg2 (vC (.int 1)) (vVar 0)))), (true, (vLst aNil))]) (sSeq (sFor (vIt itS (vVar 1)) (gN 5) bodyQ)
    (sRet (vTup (aCons (vMove 4) (aCons (vB fTuple [(.val (vOp dAdd (.val (vLst (aCons (vVar 2) aNil))) (.own 3)))]) aNil))))) := rfl
  have hg : rgOk 1 n = true := by simp [rgOk]; omega
  have hq : 1 + q'.length ≤ 1000000 := by
    have := congrArg List.length e1
    rw [runS_len, List.length_cons, List.length_cons, rg_len] at this
    omega
  rw [e0]
  refine ⟨.int n, ?_⟩
  simp only [List.map_nil, List.nil_append] at e2
  simp [F__law_played, runF, hm, sSeq, sPar, evX, setsE, vLstRg, vRg2, vVar, vC, R.bind, R.toS, R.ofO, hg, vLst, aNil, aCons, sFor, vIt, itS_txt, rgD_rg, e2, sRet, vTup, vMove, vB, evOs, rsOs, evO, rsO, vOp, dAdd, hq, fTuple, e1, bagOf]
structure JC (v0 : D) (N T : Nat) (e : Env) : Prop where
  len : e.length = 13
  g0 : e[0]? = some (some v0)
  g4 : ∃ x y, 0 ≤ x ∧ 0 ≤ y ∧ e[4]? = some (some (bagD x y))
  g5 : e[5]? = some (some (.int (N : Int)))
  g6 : e[6]? = some (some (KG gI (bfs N T).1))
  g7 : e[7]? = some (some (.lst ((sortG ((bfs N T).1.map (·.1))).map tupD)))
theorem turn_C1' (v0 : D) (N T : Nat) (hN : 3 ≤ N) (hN2 : N ≤ 6) (hT : T ≤ 720) (he : (bfs N T).2 = []) (d : D) (e : Env) (I : JC v0 N T e) : ∃ e1, gN 8 d e = some e1 ∧ Nx B_ma_law_1 e1 (JC v0 N T) := by
  obtain ⟨len, g0, ⟨x, y, hx, hy, g4⟩, g5, g6, g7⟩ := I
  match e, len with
  | [x0, x1, x2, x3, x4, x5, x6, x7, x8, x9, x10, x11, x12], _ =>
    cases g0; cases g4; cases g5; cases g6; cases g7
    refine ⟨_, rfl, ?_⟩
    have B := bfs_BI N T
    have hsz := bfs_size N T hN hN2 he
    have hperm := sortG_perm ((bfs N T).1.map (·.1))
    have hlen : ((sortG ((bfs N T).1.map (·.1))).map tupD).length = fct N := by rw [List.length_map, hperm.length_eq, List.length_map, hsz]
    have hf : 0 < fct N ∧ fct N ≤ 720 := by
      unfold fct
      split
      · omega
      · split
        · omega
        · split <;> omega
    obtain ⟨sd, x', y', qo, hx', hy', hm⟩ := q_of x y ((sortG ((bfs N T).1.map (·.1))).map tupD) hx hy (fun z => by rw [z] at hlen; simp at hlen; omega) (by omega)
    obtain ⟨st, hst, rfl⟩ := List.mem_map.mp hm
    have hst := hperm.mem_iff.mp hst
    obtain ⟨a, ha, rfl⟩ := List.mem_map.mp hst
    have ho := B.ord a ha
    have hh : hasE (bfs N T).1 a.1 = true := hasE_iff.mpr ⟨a.2, ha⟩
    have hrun := B.run _ (pth_mem hh)
    have hrun : runS (pth (bfs N T).1 a.1) (rg 0 (N : Int)) = a.1 := hrun
    have hpl : (pth (bfs N T).1 a.1).length ≤ T := B.len _ (pth_mem hh)
    obtain ⟨⟨b1, q1⟩, b2, q2⟩ := q_few N T a.1 hN hN2 hT he ho
    have dg : dDg (KG gI (bfs N T).1) (tupD a.1) = some (.int ((pth (bfs N T).1 a.1).length : Int)) := dg_KG hh
    have mn := bfs_min N T hh
    generalize pth (bfs N T).1 a.1 = p at *
    have fl : fLen [.str (txt p)] = some (.int (p.length : Int)) := by
      unfold fLen
      simp only [txt_len]
      rw [if_pos (by omega)]
    obtain ⟨b3, q3⟩ := q_playedL (N : Int) p (by omega) (by omega) (by omega)
    rw [hrun] at q3
    have q3 : F__law_played [.int (N : Int), .str (txt p)] = .ok (.tup [.lst ((prs p (rg 0 (N : Int))).map pD), tupD a.1]) b3 := q3
    have nes : dNe (tupD a.1) (tupD a.1) = some (.bl false) := dNe_tup (ok_ints 59 a.1) rfl
    -- the ways
    have hc1 : (if (p.length : Int) < 60 then (p.length : Int) else 60) = ((min 60 p.length : Nat) : Int) := by split <;> omega
    obtain ⟨b4, q4⟩ := q_count_ways N a.1 (min 60 p.length) hN hN2 (ordP_perm N a.1 ho) (by omega)
    have w1 : ¬ ways N (min 60 p.length) a.1 < if (p.length : Int) < 61 then 1 else 0 := by
      by_cases c : (p.length : Int) < 61
      · rw [if_pos c]
        have := ways_pos N (min 60 p.length) a.1 p (by omega) hrun
        omega
      · rw [if_neg c]
        have := ways_nn N (min 60 p.length) a.1
        omega
    have q4 : F_count_ways [.int (N : Int), tupD a.1, .int (if (p.length : Int) < 60 then (p.length : Int) else 60)] = .ok (.int (ways N (min 60 p.length) a.1)) b4 := by rw [hc1]; exact q4
    obtain ⟨b5, q5⟩ := q_count_ways N a.1 (min 60 (p.length - 1)) hN hN2 (ordP_perm N a.1 ho) (by omega)
    have q5 : 0 < (p.length : Int) → F_count_ways [.int (N : Int), tupD a.1, .int (if (p.length : Int) - 1 < 60 then (p.length : Int) - 1 else 60)] = .ok (.int 0) b5 := fun hp => by
      have hc2 : (if (p.length : Int) - 1 < 60 then (p.length : Int) - 1 else 60) = ((min 60 (p.length - 1) : Nat) : Int) := by split <;> omega
      have z := ways_zero N (min 60 (p.length - 1)) a.1 fun bs hb => mn bs (by omega)
      rw [hc2, q5, z]
    refine ⟨[some v0, x1, x2, x3, some (bagD x' y'), some (.int (N : Int)), some (KG gI (bfs N T).1), some (.lst ((sortG ((bfs N T).1.map (·.1))).map tupD)), some d, some (tupD a.1), some (.int (p.length : Int)), some (.str (txt p)), x12], ?_, rfl, rfl, ⟨x', y', hx', hy', rfl⟩, rfl, rfl, rfl⟩
    have s1 := c1_of (some v0) x1 x2 x3 (some (.int (N : Int))) (some (KG gI (bfs N T).1)) (some d) x9 x10 x11 x12 _ _ _ _ qo
    have s2 := c1_two (some v0) x1 x2 x3 (some (bagD x' y')) (some (KG gI (bfs N T).1)) (some (.lst ((sortG ((bfs N T).1.map (·.1))).map tupD))) (some d) x10 x11 x12 _ _ _ _ b1 b2 q1 q2
    have s3 := c1_told (some v0) x1 x2 x3 (some (bagD x' y')) (some (.int (N : Int))) (some (.lst ((sortG ((bfs N T).1.map (·.1))).map tupD))) (some d) x12 _ _ _ _ dg fl
    have s4 := c1_played (some v0) x1 x2 x3 (some (bagD x' y')) (some (KG gI (bfs N T).1)) (some (.lst ((sortG ((bfs N T).1.map (·.1))).map tupD))) (some d) (some (.int (p.length : Int))) x12 _ _ _ _ b3 q3 nes
    have s5 := c1_w1 (some v0) x1 x2 x3 (some (bagD x' y')) (some (KG gI (bfs N T).1)) (some (.lst ((sortG ((bfs N T).1.map (·.1))).map tupD))) (some d) (some (.str (txt p))) x12 _ _ b4 _ _ q4 w1
    have s6 := c1_w2 (some v0) x1 x2 x3 (some (bagD x' y')) (some (KG gI (bfs N T).1)) (some (.lst ((sortG ((bfs N T).1.map (·.1))).map tupD))) (some d) (some (.str (txt p))) x12 _ _ b5 _ q5
    unfold B_ma_law_1
    refine (sq s1).trans ?_
    refine (sq s2).trans ?_
    refine (sq s3).trans ?_
    refine (sq s4).trans ?_
    refine (sq s5).trans ?_
    exact s6
def ICL (ns : List Int) (e : Env) : Prop := e.length = 13 ∧ e[0]? = some (some (.scr ns))
theorem turn_C2' (ns : List Int) (k : Int) (h0 : 0 ≤ k) (h1 : k < 1000) (hl : ns.length ≤ 63) (e : Env) (I : ICL ns e) : ∃ e1, gN 1 (.int k) e = some e1 ∧ Nx B_ma_law_2 e1 (ICL ns) := by
  obtain ⟨len, g0⟩ := I
  match e, len with
  | [x0, x1, x2, x3, x4, x5, x6, x7, x8, x9, x10, x11, x12], _ =>
    cases g0
    refine ⟨_, rfl, ?_⟩
    obtain ⟨x, y, b, eb, hx, hy⟩ := q_bag ns k h0 h1 (by omega)
    obtain ⟨r, x1', y1', e1, a1, a2, a3, a4⟩ := q_take x y 4 hx hy (by decide) (by decide)
    obtain ⟨N, hN⟩ : ∃ N : Nat, 3 + r = (N : Int) := ⟨(3 + r).toNat, by omega⟩
    have h3 : 3 ≤ N := by omega
    have h6 : N ≤ 6 := by omega
    obtain ⟨T, hT, he, hmin⟩ := bfs_end N h6
    obtain ⟨b2, qf⟩ := q_law_first N T h3 h6 hT he hmin
    have B := bfs_BI N T
    have hsz := bfs_size N T h3 h6 he
    have hperm := sortG_perm ((bfs N T).1.map (·.1))
    have srt : fSortTD [KG gI (bfs N T).1] = some (.lst ((sortG ((bfs N T).1.map (·.1))).map tupD)) := by
      have e2 : ((bfs N T).1.map fun a => tupD a.1) = ((bfs N T).1.map (·.1)).map tupD := by rw [List.map_map]; rfl
      have ok : okT ((bfs N T).1.map (·.1)) = true := by
        unfold okT
        rw [List.all_eq_true]
        intro z hz
        obtain ⟨a, ha, rfl⟩ := List.mem_map.mp hz
        have := ordP_len N N a.1 (B.ord a ha)
        cases q : a.1 with
        | nil => rw [q] at this; simp at this; omega
        | cons u v => rfl
      show ((((bfs N T).1.map fun a => tupD a.1).mapM tupI).bind _) = _
      rw [e2, tupI_map]
      show (if okT _ = true then _ else none) = _
      rw [if_pos ok]
    have fl : fLen [.lst ((sortG ((bfs N T).1.map (·.1))).map tupD)] = some (.int (fct N : Int)) := by
      show some (D.int (((sortG ((bfs N T).1.map (·.1))).map tupD).length : Nat)) = _
      rw [List.length_map, hperm.length_eq, List.length_map, hsz]
    have s1 := c2_bag x2 x3 x4 x5 x6 x7 x8 x9 x10 x11 x12 (.scr ns) _ _ k eb
    have s2 := c2_many (some (.scr ns)) (some (.int k)) x2 x3 x5 x6 x7 x8 x9 x10 x11 x12 _ _ r a1 a2 e1
    rw [hN] at s2
    have s3 := c2_first (some (.scr ns)) (some (.int k)) x2 x3 (some (bagD x1' y1')) x6 x7 x8 x9 x10 x11 x12 _ _ b2 qf
    have s4 := c2_rows (some (.scr ns)) (some (.int k)) x2 x3 (some (bagD x1' y1')) (some (.int (N : Int))) x7 x8 x9 x10 x11 x12 _ _ srt
    have s5 := c2_len (some (.scr ns)) (some (.int k)) x2 x3 (some (bagD x1' y1')) (some (KG gI (bfs N T).1)) x8 x9 x10 x11 x12 _ N h3 h6 fl
    obtain ⟨f, l, J⟩ := nx_forL (f := gN 8) (b := B_ma_law_1) (JC (.scr ns) N T) (rgD 0 6) (fun d hd e he' => turn_C1' _ N T h3 h6 hT he d e he') [some (.scr ns), some (.int k), x2, x3, some (bagD x1' y1'), some (.int (N : Int)), some (KG gI (bfs N T).1), some (.lst ((sortG ((bfs N T).1.map (·.1))).map tupD)), x8, x9, x10, x11, x12] ⟨rfl, rfl, ⟨x1', y1', a3, a4, rfl⟩, rfl, rfl, rfl⟩
    refine ⟨f, ?_, J.len, J.g0⟩
    unfold B_ma_law_2
    refine (sq s1).trans ?_
    refine (sq s2).trans ?_
    refine (sq s3).trans ?_
    refine (sq s4).trans ?_
    refine (sq s5).trans ?_
    refine for_it ?_ l
    generalize KG gI (bfs N T).1 = K1
    generalize (sortG ((bfs N T).1.map (·.1))).map tupD = L1
    rfl
theorem law_true : ∀ ns : List Int, ns.length ≤ 63 → ∃ e1 e', ma_law (some (.scr ns) :: List.replicate (N_law.length - 1) none) = .nx e1 ∧ 2 < e1.length ∧ mb_law (e1.set 2 (some lams3)) = .rt (.bl true) e' := by
  intro ns hl
  obtain ⟨M, hM⟩ : ∃ M : Int, M = if (3 : Int) < (ns.length : Int) then 3 else (ns.length : Int) := ⟨_, rfl⟩
  have hM2 : 0 ≤ M ∧ M ≤ 8 := by rw [hM]; split <;> omega
  obtain ⟨e', h1, h2, h3⟩ := nx_forL (f := gN 1) (b := B_ma_law_2) (ICL ns) ((rg 0 (M + 2)).map D.int) (fun d hd e he => by
    obtain ⟨k, hk, rfl⟩ := List.mem_map.mp hd
    have := rg_mem hk
    exact turn_C2' ns k (by omega) (by omega) hl e he) [some (.scr ns), none, none, none, none, none, none, none, none, none, none, none, none] ⟨rfl, rfl⟩
  have hl2 : ns.length ≤ 1000000 := by omega
  have hb : M + 2 ≤ 100000000 ∧ -100000000 ≤ M + 2 := by omega
  have hma : ma_law [some (.scr ns), none, none, none, none, none, none, none, none, none, none, none, none] = .nx e' := by
    simp [m_ma_law_eq, sFor, vRng1, vOp, evO, rsO, vB, evOs, rsOs, fLen, vVar, vC, R.bind, R.toS, R.ofO, fMin2, ← hM, dAdd, hb, rgD_rg, h1]
  match e', h2, h3 with
  | [x0, x1, x2, x3, x4, x5, x6, x7, x8, x9, x10, x11, x12], h2, h3 =>
    exact ⟨_, _, hma, (by show 2 < 13; decide), mb_ok x0 x1 x3 x4 x5 x6 x7 x8 x9 x10 x11 x12⟩
end Fl

namespace Fl
open PySem PySem.Spec PyProof.Rows L2
def spLaw (K : PySem.W.Frag) : Sp := fun vs H Q _ => ∃ (a : Addr) (ns : List Int), vs = [.ref a] ∧ SqL K H a (ns.map V.int) ∧ ns.length ≤ 63 ∧ ∀ H', Q (.bl true) H'
theorem all_mk {l : PySem.W.OpenLaw} {w : World} {K : PySem.W.Frag} {h : Heap} {mg : Str → Option Value} {fa C_InvalidNumber C_InvalidOrder C_InvalidPlayers C_StayError f_is_integer f_after f_require_number f_are_players f_require_order f_require_few f_count_ways f_searched f_fewest_games f_shortest_results f__law_bag f__law_take f__law_of f__law_played f__law_first f__law_error f_law : Addr} (X : K.In h) (G : h.Ns mainGlobals mg) (hfa : mg "law" = some (.ref fa))
    {od_is_integer an_is_integer od_after an_after od_require_number an_require_number od_are_players an_are_players od_require_order an_require_order od_require_few an_require_few od_count_ways an_count_ways od_searched an_searched od_fewest_games an_fewest_games od_shortest_results an_shortest_results od__law_bag an__law_bag od__law_take an__law_take od__law_of an__law_of od__law_played an__law_played od__law_first an__law_first od__law_error an__law_error od_law an_law : Option Addr} {sl_is_integer sl_after sl_require_number sl_are_players sl_require_order sl_require_few sl_count_ways sl_searched sl_fewest_games sl_shortest_results sl__law_bag sl__law_take sl__law_of sl__law_played sl__law_first sl__law_error sl_law : Array (Option Value)} {oc_is_integer kV_is_integer dc_is_integer pm_is_integer cd_is_integer ct_is_integer oc_after kV_after dc_after pm_after cd_after ct_after oc_require_number kV_require_number dc_require_number pm_require_number cd_require_number ct_require_number oc_are_players kV_are_players dc_are_players pm_are_players cd_are_players ct_are_players oc_require_order kV_require_order dc_require_order pm_require_order cd_require_order ct_require_order oc_require_few kV_require_few dc_require_few pm_require_few cd_require_few ct_require_few oc_count_ways kV_count_ways dc_count_ways pm_count_ways cd_count_ways ct_count_ways oc_searched kV_searched dc_searched pm_searched cd_searched ct_searched oc_fewest_games kV_fewest_games dc_fewest_games pm_fewest_games cd_fewest_games ct_fewest_games oc_shortest_results kV_shortest_results dc_shortest_results pm_shortest_results cd_shortest_results ct_shortest_results oc__law_bag kV__law_bag dc__law_bag pm__law_bag cd__law_bag ct__law_bag oc__law_take kV__law_take dc__law_take pm__law_take cd__law_take ct__law_take oc__law_of kV__law_of dc__law_of pm__law_of cd__law_of ct__law_of oc__law_played kV__law_played dc__law_played pm__law_played cd__law_played ct__law_played oc__law_first kV__law_first dc__law_first pm__law_first cd__law_first ct__law_first oc__law_error kV__law_error dc__law_error pm__law_error cd__law_error ct__law_error oc_law kV_law dc_law pm_law ct_law : Value} {c0 P0 : Addr} {dd0 : Option Addr} {vs0 : Array Value} {sl0 : Array (Option Value)} {a18 : Str} {a7 a10 : Int} {b18 b7 b10 : Tok} {a9 : Bool} (own : LamX.OwnTab K fa h) {t_COUNTED t_FEWEST t_SEARCHED : Tok}
    (a_is_integer : PySem.W.nsIn K mainGlobals "is_integer" = some (some (.ref f_is_integer))) (l_is_integer : K.lookup f_is_integer = some ⟨oc_is_integer, od_is_integer, .func (PySem.W.fnOf "is_integer" "is_integer" (defArgs s_is_integer) (defBody s_is_integer) (defScope s_is_integer) .none kV_is_integer dc_is_integer pm_is_integer an_is_integer cd_is_integer ct_is_integer), sl_is_integer⟩) (c_is_integer : PySem.W.codeIn K cd_is_integer "is_integer" = true) (k_is_integer : PySem.W.keepIn K (.ref f_is_integer) = true)
    (a_after : PySem.W.nsIn K mainGlobals "after" = some (some (.ref f_after))) (l_after : K.lookup f_after = some ⟨oc_after, od_after, .func (PySem.W.fnOf "after" "after" (defArgs s_after) (defBody s_after) (defScope s_after) .none kV_after dc_after pm_after an_after cd_after ct_after), sl_after⟩) (c_after : PySem.W.codeIn K cd_after "after" = true) (k_after : PySem.W.keepIn K (.ref f_after) = true)
    (a_require_number : PySem.W.nsIn K mainGlobals "require_number" = some (some (.ref f_require_number))) (l_require_number : K.lookup f_require_number = some ⟨oc_require_number, od_require_number, .func (PySem.W.fnOf "require_number" "require_number" (defArgs s_require_number) (defBody s_require_number) (defScope s_require_number) .none kV_require_number dc_require_number pm_require_number an_require_number cd_require_number ct_require_number), sl_require_number⟩) (c_require_number : PySem.W.codeIn K cd_require_number "require_number" = true) (k_require_number : PySem.W.keepIn K (.ref f_require_number) = true)
    (a_are_players : PySem.W.nsIn K mainGlobals "are_players" = some (some (.ref f_are_players))) (l_are_players : K.lookup f_are_players = some ⟨oc_are_players, od_are_players, .func (PySem.W.fnOf "are_players" "are_players" (defArgs s_are_players) (defBody s_are_players) (defScope s_are_players) .none kV_are_players dc_are_players pm_are_players an_are_players cd_are_players ct_are_players), sl_are_players⟩) (c_are_players : PySem.W.codeIn K cd_are_players "are_players" = true) (k_are_players : PySem.W.keepIn K (.ref f_are_players) = true)
    (a_require_order : PySem.W.nsIn K mainGlobals "require_order" = some (some (.ref f_require_order))) (l_require_order : K.lookup f_require_order = some ⟨oc_require_order, od_require_order, .func (PySem.W.fnOf "require_order" "require_order" (defArgs s_require_order) (defBody s_require_order) (defScope s_require_order) .none kV_require_order dc_require_order pm_require_order an_require_order cd_require_order ct_require_order), sl_require_order⟩) (c_require_order : PySem.W.codeIn K cd_require_order "require_order" = true) (k_require_order : PySem.W.keepIn K (.ref f_require_order) = true)
    (a_require_few : PySem.W.nsIn K mainGlobals "require_few" = some (some (.ref f_require_few))) (l_require_few : K.lookup f_require_few = some ⟨oc_require_few, od_require_few, .func (PySem.W.fnOf "require_few" "require_few" (defArgs s_require_few) (defBody s_require_few) (defScope s_require_few) .none kV_require_few dc_require_few pm_require_few an_require_few cd_require_few ct_require_few), sl_require_few⟩) (c_require_few : PySem.W.codeIn K cd_require_few "require_few" = true) (k_require_few : PySem.W.keepIn K (.ref f_require_few) = true)
    (a_count_ways : PySem.W.nsIn K mainGlobals "count_ways" = some (some (.ref f_count_ways))) (l_count_ways : K.lookup f_count_ways = some ⟨oc_count_ways, od_count_ways, .func (PySem.W.fnOf "count_ways" "count_ways" (defArgs s_count_ways) (defBody s_count_ways) (defScope s_count_ways) .none kV_count_ways dc_count_ways pm_count_ways an_count_ways cd_count_ways ct_count_ways), sl_count_ways⟩) (c_count_ways : PySem.W.codeIn K cd_count_ways "count_ways" = true) (k_count_ways : PySem.W.keepIn K (.ref f_count_ways) = true)
    (a_searched : PySem.W.nsIn K mainGlobals "searched" = some (some (.ref f_searched))) (l_searched : K.lookup f_searched = some ⟨oc_searched, od_searched, .func (PySem.W.fnOf "searched" "searched" (defArgs s_searched) (defBody s_searched) (defScope s_searched) .none kV_searched dc_searched pm_searched an_searched cd_searched ct_searched), sl_searched⟩) (c_searched : PySem.W.codeIn K cd_searched "searched" = true) (k_searched : PySem.W.keepIn K (.ref f_searched) = true)
    (a_fewest_games : PySem.W.nsIn K mainGlobals "fewest_games" = some (some (.ref f_fewest_games))) (l_fewest_games : K.lookup f_fewest_games = some ⟨oc_fewest_games, od_fewest_games, .func (PySem.W.fnOf "fewest_games" "fewest_games" (defArgs s_fewest_games) (defBody s_fewest_games) (defScope s_fewest_games) .none kV_fewest_games dc_fewest_games pm_fewest_games an_fewest_games cd_fewest_games ct_fewest_games), sl_fewest_games⟩) (c_fewest_games : PySem.W.codeIn K cd_fewest_games "fewest_games" = true) (k_fewest_games : PySem.W.keepIn K (.ref f_fewest_games) = true)
    (a_shortest_results : PySem.W.nsIn K mainGlobals "shortest_results" = some (some (.ref f_shortest_results))) (l_shortest_results : K.lookup f_shortest_results = some ⟨oc_shortest_results, od_shortest_results, .func (PySem.W.fnOf "shortest_results" "shortest_results" (defArgs s_shortest_results) (defBody s_shortest_results) (defScope s_shortest_results) .none kV_shortest_results dc_shortest_results pm_shortest_results an_shortest_results cd_shortest_results ct_shortest_results), sl_shortest_results⟩) (c_shortest_results : PySem.W.codeIn K cd_shortest_results "shortest_results" = true) (k_shortest_results : PySem.W.keepIn K (.ref f_shortest_results) = true)
    (a__law_bag : PySem.W.nsIn K mainGlobals "_law_bag" = some (some (.ref f__law_bag))) (l__law_bag : K.lookup f__law_bag = some ⟨oc__law_bag, od__law_bag, .func (PySem.W.fnOf "_law_bag" "_law_bag" (defArgs s__law_bag) (defBody s__law_bag) (defScope s__law_bag) .none kV__law_bag dc__law_bag pm__law_bag an__law_bag cd__law_bag ct__law_bag), sl__law_bag⟩) (c__law_bag : PySem.W.codeIn K cd__law_bag "_law_bag" = true) (k__law_bag : PySem.W.keepIn K (.ref f__law_bag) = true)
    (a__law_take : PySem.W.nsIn K mainGlobals "_law_take" = some (some (.ref f__law_take))) (l__law_take : K.lookup f__law_take = some ⟨oc__law_take, od__law_take, .func (PySem.W.fnOf "_law_take" "_law_take" (defArgs s__law_take) (defBody s__law_take) (defScope s__law_take) .none kV__law_take dc__law_take pm__law_take an__law_take cd__law_take ct__law_take), sl__law_take⟩) (c__law_take : PySem.W.codeIn K cd__law_take "_law_take" = true) (k__law_take : PySem.W.keepIn K (.ref f__law_take) = true)
    (a__law_of : PySem.W.nsIn K mainGlobals "_law_of" = some (some (.ref f__law_of))) (l__law_of : K.lookup f__law_of = some ⟨oc__law_of, od__law_of, .func (PySem.W.fnOf "_law_of" "_law_of" (defArgs s__law_of) (defBody s__law_of) (defScope s__law_of) .none kV__law_of dc__law_of pm__law_of an__law_of cd__law_of ct__law_of), sl__law_of⟩) (c__law_of : PySem.W.codeIn K cd__law_of "_law_of" = true) (k__law_of : PySem.W.keepIn K (.ref f__law_of) = true)
    (a__law_played : PySem.W.nsIn K mainGlobals "_law_played" = some (some (.ref f__law_played))) (l__law_played : K.lookup f__law_played = some ⟨oc__law_played, od__law_played, .func (PySem.W.fnOf "_law_played" "_law_played" (defArgs s__law_played) (defBody s__law_played) (defScope s__law_played) .none kV__law_played dc__law_played pm__law_played an__law_played cd__law_played ct__law_played), sl__law_played⟩) (c__law_played : PySem.W.codeIn K cd__law_played "_law_played" = true) (k__law_played : PySem.W.keepIn K (.ref f__law_played) = true)
    (a__law_first : PySem.W.nsIn K mainGlobals "_law_first" = some (some (.ref f__law_first))) (l__law_first : K.lookup f__law_first = some ⟨oc__law_first, od__law_first, .func (PySem.W.fnOf "_law_first" "_law_first" (defArgs s__law_first) (defBody s__law_first) (defScope s__law_first) .none kV__law_first dc__law_first pm__law_first an__law_first cd__law_first ct__law_first), sl__law_first⟩) (c__law_first : PySem.W.codeIn K cd__law_first "_law_first" = true) (k__law_first : PySem.W.keepIn K (.ref f__law_first) = true)
    (a__law_error : PySem.W.nsIn K mainGlobals "_law_error" = some (some (.ref f__law_error))) (l__law_error : K.lookup f__law_error = some ⟨oc__law_error, od__law_error, .func (PySem.W.fnOf "_law_error" "_law_error" (defArgs s__law_error) (defBody s__law_error) (defScope s__law_error) .none kV__law_error dc__law_error pm__law_error an__law_error cd__law_error ct__law_error), sl__law_error⟩) (c__law_error : PySem.W.codeIn K cd__law_error "_law_error" = true) (k__law_error : PySem.W.keepIn K (.ref f__law_error) = true)
    (a_law : PySem.W.nsIn K mainGlobals "law" = some (some (.ref f_law))) (l_law : K.lookup f_law = some ⟨oc_law, od_law, .func (PySem.W.fnOf "law" "law" (defArgs s_law) (defBody s_law) (defScope s_law) .none kV_law dc_law pm_law an_law (.ref c0) ct_law), sl_law⟩) (c_law : PySem.W.codeIn K (.ref c0) "law" = true) (k_law : PySem.W.keepIn K (.ref f_law) = true)
    (z_all : PySem.W.nsIn K mainGlobals "all" = some none)
    (z_bool : PySem.W.nsIn K mainGlobals "bool" = some none)
    (z_int : PySem.W.nsIn K mainGlobals "int" = some none)
    (z_isinstance : PySem.W.nsIn K mainGlobals "isinstance" = some none)
    (z_len : PySem.W.nsIn K mainGlobals "len" = some none)
    (z_list : PySem.W.nsIn K mainGlobals "list" = some none)
    (z_min : PySem.W.nsIn K mainGlobals "min" = some none)
    (z_range : PySem.W.nsIn K mainGlobals "range" = some none)
    (z_sorted : PySem.W.nsIn K mainGlobals "sorted" = some none)
    (z_tuple : PySem.W.nsIn K mainGlobals "tuple" = some none)
    (g_COUNTED : PySem.W.nsIn K mainGlobals "COUNTED" = some (some (.int 60 t_COUNTED)))
    (g_FEWEST : PySem.W.nsIn K mainGlobals "FEWEST" = some (some (.int 3 t_FEWEST)))
    (g_SEARCHED : PySem.W.nsIn K mainGlobals "SEARCHED" = some (some (.int 6 t_SEARCHED)))
    (p_InvalidNumber : PySem.W.nsIn K mainGlobals "InvalidNumber" = some (some (.ref C_InvalidNumber))) (x_InvalidNumber : PySem.W.excIn K C_InvalidNumber [.type "ValueError", .type "Exception", .type "BaseException", .type "object"] "ValueError.__new__" = true) (q_InvalidNumber : PySem.W.keepIn K (.ref C_InvalidNumber) = true) (b_InvalidNumber : PySem.W.subIn K (.ref C_InvalidNumber) (.type "BaseException") = some true) (y_InvalidNumber : PySem.W.typeIn K (.ref C_InvalidNumber) = some (.type "type"))
    (p_InvalidOrder : PySem.W.nsIn K mainGlobals "InvalidOrder" = some (some (.ref C_InvalidOrder))) (x_InvalidOrder : PySem.W.excIn K C_InvalidOrder [.type "ValueError", .type "Exception", .type "BaseException", .type "object"] "ValueError.__new__" = true) (q_InvalidOrder : PySem.W.keepIn K (.ref C_InvalidOrder) = true) (b_InvalidOrder : PySem.W.subIn K (.ref C_InvalidOrder) (.type "BaseException") = some true) (y_InvalidOrder : PySem.W.typeIn K (.ref C_InvalidOrder) = some (.type "type"))
    (p_InvalidPlayers : PySem.W.nsIn K mainGlobals "InvalidPlayers" = some (some (.ref C_InvalidPlayers))) (x_InvalidPlayers : PySem.W.excIn K C_InvalidPlayers [.type "ValueError", .type "Exception", .type "BaseException", .type "object"] "ValueError.__new__" = true) (q_InvalidPlayers : PySem.W.keepIn K (.ref C_InvalidPlayers) = true) (b_InvalidPlayers : PySem.W.subIn K (.ref C_InvalidPlayers) (.type "BaseException") = some true) (y_InvalidPlayers : PySem.W.typeIn K (.ref C_InvalidPlayers) = some (.type "type"))
    (ps_StayError : PySem.W.nsIn K mainGlobals "StayError" = some (some (.ref C_StayError))) (bs_StayError : PySem.W.subIn K (.ref C_StayError) (.type "BaseException") = some true) (hs_StayError : PySem.W.hasDictIn K C_StayError = true) (ys_StayError : PySem.W.typeIn K (.ref C_StayError) = some (.type "type"))
    (e6 : PySem.W.specialIn K (.builtin "object.__class__") "__get__" = some (some (.builtin "getset_descriptor.__get__"))) (e7 : PySem.W.takesIn K (.builtin "object.__class__") = some true)
    (e4_InvalidPlayers : PySem.W.hasDictIn K C_InvalidPlayers = true)
    (e1_InvalidPlayers : PySem.W.findIn K (.ref C_InvalidPlayers) "__getattribute__" = some (some (.builtin "BaseException.__getattribute__"))) (e2_InvalidPlayers : PySem.W.findIn K (.ref C_InvalidPlayers) "__getattr__" = some none) (e5_InvalidPlayers : PySem.W.findIn K (.ref C_InvalidPlayers) "__class__" = some (some (.builtin "object.__class__"))) (e8_InvalidPlayers : PySem.W.mroIn K C_InvalidPlayers (.type "object") = some true) (r_InvalidPlayers : PySem.W.subIn K (.ref C_InvalidPlayers) (.ref C_InvalidPlayers) = some true)
    (s_InvalidPlayers_StayError : PySem.W.subIn K (.ref C_InvalidPlayers) (.ref C_StayError) = some true)
    (lc0 : K.lookup c0 = some ⟨.type "code", dd0, .fields vs0, sl0⟩) (h11 : vs0[11]? = some (.ref P0)) (h18 : vs0.getD 18 .none = .str a18 b18) (h7 : vs0.getD 7 .none = .int a7 b7) (h9 : vs0.getD 9 .none = .bool a9) (h10 : vs0.getD 10 .none = .int a10 b10) (hne : c0 ≠ P0) (nP : K.lookup P0 = none)
    (hlaw : ∀ ns : List Int, ns.length ≤ 63 → ∃ e1 e', ma_law (some (.scr ns) :: List.replicate (N_law.length - 1) none) = .nx e1 ∧ 2 < e1.length ∧ mb_law (e1.set 2 (some lams3)) = .rt (.bl true) e') :
    LamX.LawAtS l w K (L2.CX l.prog w) 7 63 "script" mg fa h := by
  have e := hfa.symm.trans (PySem.W.mg_of X G a_law)
  cases e
  refine ⟨PySem.W.fnOf "law" "law" (defArgs s_law) (defBody s_law) (defScope s_law) .none kV_law dc_law pm_law an_law (.ref c0) ct_law, [(c0, P0)], spLawT K P0, fun p hp => ?_, fun p hp => ?_, fun p hp => ?_, fun s v => .of_eq rfl, fun H a ns hl _ hP hS => ⟨a, ns, rfl, hS, hl, hP (c0, P0) (.head _), fun _ => rfl⟩, fun base _ _ hTB => ?_⟩
  · rw [List.mem_singleton.mp hp]
    exact own c0 P0 _ _ _ _ _ _ l_law rfl rfl lc0 h11
  · rw [List.mem_singleton.mp hp]
    exact nP
  · rw [List.mem_singleton.mp hp]
    exact ⟨_, vs0, a18, b18, a7, b7, a9, a10, b10, X _ _ lc0, rfl, rfl, h11, by rw [Array.getD_eq_getD_getElem?, h11]; rfl, h18, h7, h9, h10, hne⟩
  have TB := hTB (c0, P0) (.head _)
  have tok : Tb.Ok ⟨K, lamT, fun _ => 0, fun _ => [], NestedKey.hash w⟩ := ⟨trivial⟩
  have e_InvalidNumber : Exc K mg "InvalidNumber" C_InvalidNumber := ⟨PySem.W.mg_of X G p_InvalidNumber, x_InvalidNumber, q_InvalidNumber, b_InvalidNumber, y_InvalidNumber⟩
  have e_InvalidOrder : Exc K mg "InvalidOrder" C_InvalidOrder := ⟨PySem.W.mg_of X G p_InvalidOrder, x_InvalidOrder, q_InvalidOrder, b_InvalidOrder, y_InvalidOrder⟩
  have e_InvalidPlayers : Exc K mg "InvalidPlayers" C_InvalidPlayers := ⟨PySem.W.mg_of X G p_InvalidPlayers, x_InvalidPlayers, q_InvalidPlayers, b_InvalidPlayers, y_InvalidPlayers⟩
  have ec_InvalidPlayers : ExcC K C_InvalidPlayers := ⟨e1_InvalidPlayers, e2_InvalidPlayers, b_InvalidPlayers, e4_InvalidPlayers, e5_InvalidPlayers, e6, e7, e8_InvalidPlayers⟩
  have t__law_error : ∀ c ∈ ([1] : List Nat), ∃ D, (xcOf [0, C_InvalidPlayers, C_InvalidNumber, C_InvalidOrder]) c = .ref D ∧ ExcC K D ∧ PySem.W.exmOne K ((xcOf [0, C_InvalidPlayers, C_InvalidNumber, C_InvalidOrder]) c) (.ref C_StayError) = some true ∧ PySem.W.kitOne K (.ref D) (.ref C_InvalidPlayers) = some (tw c 1) := by
    intro c hc
    simp only [List.mem_cons, List.not_mem_nil, or_false] at hc
    subst hc
    · exact ⟨C_InvalidPlayers, rfl, ec_InvalidPlayers, PySem.W.exm_ref bs_StayError hs_StayError ys_StayError s_InvalidPlayers_StayError, kit_yes⟩
  have d_is_integer := fun_mk (st := s_is_integer) l_is_integer c_is_integer k_is_integer
  have w_is_integer : FnW l.prog w K mg base (spF ⟨K, lamT, fun _ => 0, fun _ => [], NestedKey.hash w⟩ (xcOf [0, C_InvalidPlayers, C_InvalidNumber, C_InvalidOrder]) 3 F_is_integer) "is_integer" 1 := ⟨f_is_integer, _, ["value", "low", "high"], ok_is_integer d_is_integer (PySem.W.mg_none_of X G z_bool) (PySem.W.mg_none_of X G z_int) (PySem.W.mg_none_of X G z_isinstance), PySem.W.mg_of X G a_is_integer, k_is_integer, d_is_integer.binds (ps := ["value", "low", "high"]) fun _ _ _ _ _ _ us hl => match us, hl with | [_, _, _], _ => rfl⟩
  have d_after := fun_mk (st := s_after) l_after c_after k_after
  have w_after : FnW l.prog w K mg base (spF ⟨K, lamT, fun _ => 0, fun _ => [], NestedKey.hash w⟩ (xcOf [0, C_InvalidPlayers, C_InvalidNumber, C_InvalidOrder]) 2 F_after) "after" 1 := ⟨f_after, _, ["standing", "letter"], ok_after d_after , PySem.W.mg_of X G a_after, k_after, d_after.binds (ps := ["standing", "letter"]) fun _ _ _ _ _ _ us hl => match us, hl with | [_, _], _ => rfl⟩
  have d__law_bag := fun_mk (st := s__law_bag) l__law_bag c__law_bag k__law_bag
  have w__law_bag : FnW l.prog w K mg base (spN ⟨K, lamT, fun _ => 0, fun _ => [], NestedKey.hash w⟩ (xcOf [0, C_InvalidPlayers, C_InvalidNumber, C_InvalidOrder]) 2 F__law_bag) "_law_bag" 1 := ⟨f__law_bag, _, ["script", "k"], ok__law_bag d__law_bag (PySem.W.mg_none_of X G z_len), PySem.W.mg_of X G a__law_bag, k__law_bag, d__law_bag.binds (ps := ["script", "k"]) fun _ _ _ _ _ _ us hl => match us, hl with | [_, _], _ => rfl⟩
  have d__law_take := fun_mk (st := s__law_take) l__law_take c__law_take k__law_take
  have w__law_take : FnW l.prog w K mg base (spB ⟨K, lamT, fun _ => 0, fun _ => [], NestedKey.hash w⟩ 2 F__law_take) "_law_take" 1 := ⟨f__law_take, _, ["bag", "count"], ok__law_take d__law_take , PySem.W.mg_of X G a__law_take, k__law_take, d__law_take.binds (ps := ["bag", "count"]) fun _ _ _ _ _ _ us hl => match us, hl with | [_, _], _ => rfl⟩
  have d__law_played := fun_mk (st := s__law_played) l__law_played c__law_played k__law_played
  have w__law_played : FnW l.prog w K mg base (spF ⟨K, lamT, fun _ => 0, fun _ => [], NestedKey.hash w⟩ (xcOf [0, C_InvalidPlayers, C_InvalidNumber, C_InvalidOrder]) 2 F__law_played) "_law_played" 1 := ⟨f__law_played, _, ["many", "results"], ok__law_played d__law_played (PySem.W.mg_none_of X G z_list) (PySem.W.mg_none_of X G z_range) (PySem.W.mg_none_of X G z_tuple), PySem.W.mg_of X G a__law_played, k__law_played, d__law_played.binds (ps := ["many", "results"]) fun _ _ _ _ _ _ us hl => match us, hl with | [_, _], _ => rfl⟩
  have d__law_first := fun_mk (st := s__law_first) l__law_first c__law_first k__law_first
  have w__law_first : FnW l.prog w K mg base (spN ⟨K, lamT, fun _ => 0, fun _ => [], NestedKey.hash w⟩ (xcOf [0, C_InvalidPlayers, C_InvalidNumber, C_InvalidOrder]) 1 F__law_first) "_law_first" 1 := ⟨f__law_first, _, ["many"], ok__law_first d__law_first (PySem.W.mg_none_of X G z_range) (PySem.W.mg_none_of X G z_tuple), PySem.W.mg_of X G a__law_first, k__law_first, d__law_first.binds (ps := ["many"]) fun _ _ _ _ _ _ us hl => match us, hl with | [_], _ => rfl⟩
  have d_require_number := fun_mk (st := s_require_number) l_require_number c_require_number k_require_number
  have w_require_number : FnW l.prog w K mg base (spF ⟨K, lamT, fun _ => 0, fun _ => [], NestedKey.hash w⟩ (xcOf [0, C_InvalidPlayers, C_InvalidNumber, C_InvalidOrder]) 3 F_require_number) "require_number" 2 := ⟨f_require_number, _, ["number", "low", "high"], ok_require_number d_require_number w_is_integer e_InvalidNumber rfl, PySem.W.mg_of X G a_require_number, k_require_number, d_require_number.binds (ps := ["number", "low", "high"]) fun _ _ _ _ _ _ us hl => match us, hl with | [_, _, _], _ => rfl⟩
  have d_are_players := fun_mk (st := s_are_players) l_are_players c_are_players k_are_players
  have w_are_players : FnW l.prog w K mg base (spF ⟨K, lamT, fun _ => 0, fun _ => [], NestedKey.hash w⟩ (xcOf [0, C_InvalidPlayers, C_InvalidNumber, C_InvalidOrder]) 2 F_are_players) "are_players" 2 := ⟨f_are_players, _, ["players", "value"], ok_are_players d_are_players (PySem.W.mg_none_of X G z_all) (PySem.W.mg_none_of X G z_isinstance) (PySem.W.mg_none_of X G z_tuple) w_is_integer, PySem.W.mg_of X G a_are_players, k_are_players, d_are_players.binds (ps := ["players", "value"]) fun _ _ _ _ _ _ us hl => match us, hl with | [_, _], _ => rfl⟩
  have d_require_few := fun_mk (st := s_require_few) l_require_few c_require_few k_require_few
  have w_require_few : FnW l.prog w K mg base (spF ⟨K, lamT, fun _ => 0, fun _ => [], NestedKey.hash w⟩ (xcOf [0, C_InvalidPlayers, C_InvalidNumber, C_InvalidOrder]) 1 F_require_few) "require_few" 2 := ⟨f_require_few, _, ["players"], ok_require_few d_require_few ⟨_, PySem.W.mg_of X G g_FEWEST⟩ ⟨_, PySem.W.mg_of X G g_SEARCHED⟩ w_is_integer e_InvalidPlayers rfl, PySem.W.mg_of X G a_require_few, k_require_few, d_require_few.binds (ps := ["players"]) fun _ _ _ _ _ _ us hl => match us, hl with | [_], _ => rfl⟩
  have d_searched := fun_mk (st := s_searched) l_searched c_searched k_searched
  have w_searched : FnW l.prog w K mg base (spF ⟨K, lamT, fun _ => 0, fun _ => [], NestedKey.hash w⟩ (xcOf [0, C_InvalidPlayers, C_InvalidNumber, C_InvalidOrder]) 2 F_searched) "searched" 2 := ⟨f_searched, _, ["players", "standing"], ok_searched d_searched (PySem.W.mg_none_of X G z_range) (PySem.W.mg_none_of X G z_tuple) w_after, PySem.W.mg_of X G a_searched, k_searched, d_searched.binds (ps := ["players", "standing"]) fun _ _ _ _ _ _ us hl => match us, hl with | [_, _], _ => rfl⟩
  have d__law_of := fun_mk (st := s__law_of) l__law_of c__law_of k__law_of
  have w__law_of : FnW l.prog w K mg base (spB ⟨K, lamT, fun _ => 0, fun _ => [], NestedKey.hash w⟩ 2 F__law_of) "_law_of" 2 := ⟨f__law_of, _, ["bag", "some"], ok__law_of d__law_of (PySem.W.mg_none_of X G z_len) w__law_take, PySem.W.mg_of X G a__law_of, k__law_of, d__law_of.binds (ps := ["bag", "some"]) fun _ _ _ _ _ _ us hl => match us, hl with | [_, _], _ => rfl⟩
  have d_require_order := fun_mk (st := s_require_order) l_require_order c_require_order k_require_order
  have w_require_order : FnW l.prog w K mg base (spF ⟨K, lamT, fun _ => 0, fun _ => [], NestedKey.hash w⟩ (xcOf [0, C_InvalidPlayers, C_InvalidNumber, C_InvalidOrder]) 2 F_require_order) "require_order" 3 := ⟨f_require_order, _, ["players", "standing"], ok_require_order d_require_order (PySem.W.mg_none_of X G z_list) (PySem.W.mg_none_of X G z_range) (PySem.W.mg_none_of X G z_sorted) w_are_players e_InvalidOrder rfl, PySem.W.mg_of X G a_require_order, k_require_order, d_require_order.binds (ps := ["players", "standing"]) fun _ _ _ _ _ _ us hl => match us, hl with | [_, _], _ => rfl⟩
  have d_count_ways := fun_mk (st := s_count_ways) l_count_ways c_count_ways k_count_ways
  have w_count_ways : FnW l.prog w K mg base (spF ⟨K, lamT, fun _ => 0, fun _ => [], NestedKey.hash w⟩ (xcOf [0, C_InvalidPlayers, C_InvalidNumber, C_InvalidOrder]) 3 F_count_ways) "count_ways" 4 := ⟨f_count_ways, _, ["players", "standing", "count"], ok_count_ways d_count_ways ⟨_, PySem.W.mg_of X G g_COUNTED⟩ (PySem.W.mg_none_of X G z_range) (PySem.W.mg_none_of X G z_tuple) w_after w_require_few w_require_number w_require_order, PySem.W.mg_of X G a_count_ways, k_count_ways, d_count_ways.binds (ps := ["players", "standing", "count"]) fun _ _ _ _ _ _ us hl => match us, hl with | [_, _, _], _ => rfl⟩
  have d_fewest_games := fun_mk (st := s_fewest_games) l_fewest_games c_fewest_games k_fewest_games
  have w_fewest_games : FnW l.prog w K mg base (spF ⟨K, lamT, fun _ => 0, fun _ => [], NestedKey.hash w⟩ (xcOf [0, C_InvalidPlayers, C_InvalidNumber, C_InvalidOrder]) 2 F_fewest_games) "fewest_games" 4 := ⟨f_fewest_games, _, ["players", "standing"], ok_fewest_games d_fewest_games (PySem.W.mg_none_of X G z_len) w_require_few w_require_order w_searched, PySem.W.mg_of X G a_fewest_games, k_fewest_games, d_fewest_games.binds (ps := ["players", "standing"]) fun _ _ _ _ _ _ us hl => match us, hl with | [_, _], _ => rfl⟩
  have d_shortest_results := fun_mk (st := s_shortest_results) l_shortest_results c_shortest_results k_shortest_results
  have w_shortest_results : FnW l.prog w K mg base (spF ⟨K, lamT, fun _ => 0, fun _ => [], NestedKey.hash w⟩ (xcOf [0, C_InvalidPlayers, C_InvalidNumber, C_InvalidOrder]) 2 F_shortest_results) "shortest_results" 4 := ⟨f_shortest_results, _, ["players", "standing"], ok_shortest_results d_shortest_results w_require_few w_require_order w_searched, PySem.W.mg_of X G a_shortest_results, k_shortest_results, d_shortest_results.binds (ps := ["players", "standing"]) fun _ _ _ _ _ _ us hl => match us, hl with | [_, _], _ => rfl⟩
  have l_lam : ∀ j, j < 3 → LamW l.prog w K mg base ⟨K, lamT, fun _ => 0, fun _ => [], NestedKey.hash w⟩ (xcOf [0, C_InvalidPlayers, C_InvalidNumber, C_InvalidOrder]) j 1 5 (lamF j) := by
    intro j hj
    match j, hj with
    | 0, _ => exact lamw_0 (fun _ _ => rfl) w_fewest_games
    | 1, _ => exact lamw_1 (fun _ _ => rfl) w_shortest_results
    | 2, _ => exact lamw_2 (fun _ _ => rfl) w_count_ways
  have d__law_error := fun_mk (st := s__law_error) l__law_error c__law_error k__law_error
  have w__law_error : FnW l.prog w K mg base (spF ⟨K, lamT, fun _ => 0, fun _ => [], NestedKey.hash w⟩ (xcOf [0, C_InvalidPlayers, C_InvalidNumber, C_InvalidOrder]) 2 F__law_error) "_law_error" 6 := ⟨f__law_error, _, ["call", "many"], ok__law_error d__law_error (PySem.W.mg_of X G p_InvalidPlayers) l_lam (PySem.W.mg_none_of X G z_isinstance) ⟨PySem.W.mg_of X G ps_StayError, bs_StayError, hs_StayError, ys_StayError⟩ t__law_error, PySem.W.mg_of X G a__law_error, k__law_error, d__law_error.binds (ps := ["call", "many"]) fun _ _ _ _ _ _ us hl => match us, hl with | [_, _], _ => rfl⟩
  exact fn_law3 (T := ⟨K, lamT, fun _ => 0, fun _ => [], NestedKey.hash w⟩) (xc := (xcOf [0, C_InvalidPlayers, C_InvalidNumber, C_InvalidOrder])) (k := 6) (i := 2) (O := O_law) (N := N_law) rfl l_law c_law sc_law (by decide) rfl (fun A outer s H E bd => body_law (fn := lamT) TB (fun _ _ _ => rfl) (PySem.W.mg_none_of X G z_bool) (PySem.W.mg_none_of X G z_int) (PySem.W.mg_none_of X G z_isinstance) (PySem.W.mg_none_of X G z_len) (PySem.W.mg_none_of X G z_min) (PySem.W.mg_none_of X G z_range) (PySem.W.mg_none_of X G z_sorted) w__law_bag w__law_error w__law_first w__law_of w__law_played w__law_take w_count_ways w_fewest_games w_shortest_results A outer s H E bd) hlaw
theorem walk {l : PySem.W.OpenLaw} {q : Program} {loose : List Str} {XP : (Str → Option Value) → Heap → Prop} {YP : World → Heap → Prop} {d : DefRec} {K : Params → PySem.W.Frag} (hn : l.most = some 63) (hdf : d.params.defaults = [])
    (hY : ∀ (w : World) (h : Heap), YP w h → (K w.params).In h) (hrec : ((recsOf q).any fun e => e.name == d.name) = true)
    (F : ∀ (w : World) (mg : Str → Option Value) (fa : Addr) (h : Heap), YP w h → (K w.params).In h → h.Ns mainGlobals mg → mg d.name = some (.ref fa) → LamX.OwnTab (K w.params) fa h → LamX.LawAtS l w (K w.params) (L2.CX l.prog w) 7 63 "script" mg fa h) :
    PySem.W.WalkO q loose XP YP l.row.toRowW d [] (fun f vs => PySem.call f vs) :=
  LamX.walk_ofOwn (n := 63) (k := 7) (x := "script") (CX := fun w => L2.CX l.prog w) hn (by decide) hdf ⟨rfl, by decide, by decide⟩ hrec hY F fun _ _ _ _ _ z => by obtain ⟨_, _, _, _, _, _, _, _, _, _, _, _, z⟩ := z; exact z.elim
end Fl
open PySem PySem.W PyProof.Rows in
set_option maxRecDepth 100000 in
set_option maxHeartbeats 0 in
theorem PySem.Challenge.cw_staysons_k15_whole_shortest_results_holds : PySem.Challenge.rw_staysons_k15_whole_shortest_results.Holds := by
  w_on; o_law; k_head; (case hw => w_witness2)
  k_fill
  refine Fl.walk (l := PySem.Challenge.rw_staysons_k15_whole_shortest_results) rfl rfl (fun w h Y => PySem.W.km_in_of Y) (by decide +kernel) ?F
  case F =>
    intro w mg fa h Y KX G hmg own
    refine' Fl.all_mk KX G hmg own ?a_is_integer ?l_is_integer ?c_is_integer ?k_is_integer ?a_after ?l_after ?c_after ?k_after ?a_require_number ?l_require_number ?c_require_number ?k_require_number ?a_are_players ?l_are_players ?c_are_players ?k_are_players ?a_require_order ?l_require_order ?c_require_order ?k_require_order ?a_require_few ?l_require_few ?c_require_few ?k_require_few ?a_count_ways ?l_count_ways ?c_count_ways ?k_count_ways ?a_searched ?l_searched ?c_searched ?k_searched ?a_fewest_games ?l_fewest_games ?c_fewest_games ?k_fewest_games ?a_shortest_results ?l_shortest_results ?c_shortest_results ?k_shortest_results ?a__law_bag ?l__law_bag ?c__law_bag ?k__law_bag ?a__law_take ?l__law_take ?c__law_take ?k__law_take ?a__law_of ?l__law_of ?c__law_of ?k__law_of ?a__law_played ?l__law_played ?c__law_played ?k__law_played ?a__law_first ?l__law_first ?c__law_first ?k__law_first ?a__law_error ?l__law_error ?c__law_error ?k__law_error ?a_law ?l_law ?c_law ?k_law ?z_all ?z_bool ?z_int ?z_isinstance ?z_len ?z_list ?z_min ?z_range ?z_sorted ?z_tuple ?g_COUNTED ?g_FEWEST ?g_SEARCHED ?p_InvalidNumber ?x_InvalidNumber ?q_InvalidNumber ?b_InvalidNumber ?y_InvalidNumber ?p_InvalidOrder ?x_InvalidOrder ?q_InvalidOrder ?b_InvalidOrder ?y_InvalidOrder ?p_InvalidPlayers ?x_InvalidPlayers ?q_InvalidPlayers ?b_InvalidPlayers ?y_InvalidPlayers ?ps_StayError ?bs_StayError ?hs_StayError ?ys_StayError ?e6 ?e7 ?e4_InvalidPlayers ?e1_InvalidPlayers ?e2_InvalidPlayers ?e5_InvalidPlayers ?e8_InvalidPlayers ?r_InvalidPlayers ?s_InvalidPlayers_StayError ?lc0 ?h11 ?h18 ?h7 ?h9 ?h10 ?hne ?nP Fl.law_true
    (case a_is_integer => k_is)
    (case l_is_integer => k_is)
    (case c_is_integer => k_is)
    (case k_is_integer => k_is)
    (case a_after => k_is)
    (case l_after => k_is)
    (case c_after => k_is)
    (case k_after => k_is)
    (case a_require_number => k_is)
    (case l_require_number => k_is)
    (case c_require_number => k_is)
    (case k_require_number => k_is)
    (case a_are_players => k_is)
    (case l_are_players => k_is)
    (case c_are_players => k_is)
    (case k_are_players => k_is)
    (case a_require_order => k_is)
    (case l_require_order => k_is)
    (case c_require_order => k_is)
    (case k_require_order => k_is)
    (case a_require_few => k_is)
    (case l_require_few => k_is)
    (case c_require_few => k_is)
    (case k_require_few => k_is)
    (case a_count_ways => k_is)
    (case l_count_ways => k_is)
    (case c_count_ways => k_is)
    (case k_count_ways => k_is)
    (case a_searched => k_is)
    (case l_searched => k_is)
    (case c_searched => k_is)
    (case k_searched => k_is)
    (case a_fewest_games => k_is)
    (case l_fewest_games => k_is)
    (case c_fewest_games => k_is)
    (case k_fewest_games => k_is)
    (case a_shortest_results => k_is)
    (case l_shortest_results => k_is)
    (case c_shortest_results => k_is)
    (case k_shortest_results => k_is)
    (case a__law_bag => k_is)
    (case l__law_bag => k_is)
    (case c__law_bag => k_is)
    (case k__law_bag => k_is)
    (case a__law_take => k_is)
    (case l__law_take => k_is)
    (case c__law_take => k_is)
    (case k__law_take => k_is)
    (case a__law_of => k_is)
    (case l__law_of => k_is)
    (case c__law_of => k_is)
    (case k__law_of => k_is)
    (case a__law_played => k_is)
    (case l__law_played => k_is)
    (case c__law_played => k_is)
    (case k__law_played => k_is)
    (case a__law_first => k_is)
    (case l__law_first => k_is)
    (case c__law_first => k_is)
    (case k__law_first => k_is)
    (case a__law_error => k_is)
    (case l__law_error => k_is)
    (case c__law_error => k_is)
    (case k__law_error => k_is)
    (case a_law => k_is)
    (case l_law => k_is)
    (case c_law => k_is)
    (case k_law => k_is)
    (case z_all => k_is)
    (case z_bool => k_is)
    (case z_int => k_is)
    (case z_isinstance => k_is)
    (case z_len => k_is)
    (case z_list => k_is)
    (case z_min => k_is)
    (case z_range => k_is)
    (case z_sorted => k_is)
    (case z_tuple => k_is)
    (case g_COUNTED => k_is)
    (case g_FEWEST => k_is)
    (case g_SEARCHED => k_is)
    (case p_InvalidNumber => k_is)
    (case x_InvalidNumber => k_exc)
    (case q_InvalidNumber => k_is)
    (case b_InvalidNumber => k_is)
    (case y_InvalidNumber => k_is)
    (case p_InvalidOrder => k_is)
    (case x_InvalidOrder => k_exc)
    (case q_InvalidOrder => k_is)
    (case b_InvalidOrder => k_is)
    (case y_InvalidOrder => k_is)
    (case p_InvalidPlayers => k_is)
    (case x_InvalidPlayers => k_exc)
    (case q_InvalidPlayers => k_is)
    (case b_InvalidPlayers => k_is)
    (case y_InvalidPlayers => k_is)
    (case ps_StayError => k_is)
    (case bs_StayError => k_is)
    (case hs_StayError => k_is)
    (case ys_StayError => k_is)
    (case e6 => k_is)
    (case e7 => k_is)
    (case e4_InvalidPlayers => k_is)
    (case e1_InvalidPlayers => k_is)
    (case e2_InvalidPlayers => k_is)
    (case e5_InvalidPlayers => k_is)
    (case e8_InvalidPlayers => k_is)
    (case r_InvalidPlayers => k_is)
    (case s_InvalidPlayers_StayError => k_is)
    (case lc0 => k_is)
    (case h11 => rfl)
    (case h18 => rfl)
    (case h7 => rfl)
    (case h9 => rfl)
    (case h10 => rfl)
    (case hne => decide)
    (case nP => rfl)

