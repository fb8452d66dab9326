import PyProof.Rows.All
import Wide.All
import OpenK.AllK
import Wide.FinOn
import KE.KStateDown
import KE.KeyNested
import KE.KDictKeyed
import HandS.ForMost
import HandS.WordsExc
import HandS.Evl
import HandS.Defaults
import HandS.Codes
import HandS.IsInst
import HandS.Head0
import HandS.Head1
import HandS.Head2
import HandS.HeadEnd
import HandS.HeadHook1
import HandS.HeadHook2
import HandS.HeadHook3
import HandS.HeadHook4
import HandS.TupAny
import HandS.Wide
import HandS.Style
import HandS.Deep
import HandS.More
import HandS.DictTup
import HandS.DictComp
import HandS.TryMany
import HandS.ExcCtx
import HandS.Zip
import HandS.Words
import HandS.CallLocal
import HandS.Slots
import HandS.TryOnly
import HandS.Lambda
import HandS.Iter
import HandS.Star
import HandS.WideMore
import HandS.Replace
import KE.KDictPairs
import KE.SortData
import KE.LtData
import HandS.Conv
import KE.KExcSuper
import HandS.Base
import HandS.Call
import HandS.List
import HandS.Ends
import HandS.Exc
import HandS.ExcInit
import PyProof.ReprRoads
import HandS.ExcField
import HandS.TupSets
import PySem.Challenge.RW_runshown_k95_whole_couples_of_worlds_by
import HandS.EndTab
set_option Elab.async false
set_option linter.all false
set_option maxRecDepth 100000
set_option maxHeartbeats 4000000
/-! AX1: an executable reading of defs: data as trees, what changes in an own heap; what a run of it promises of the program. -/
namespace AX
open PySem PySem.Spec PyProof.Rows L2

/-! ### values, objects -/
inductive Ty where
  | non | bool | int | str | tuple | list | dict
  deriving DecidableEq
def Ty.name : Ty → String
  | .non => "NoneType" | .bool => "bool" | .int => "int" | .str => "str" | .tuple => "tuple" | .list => "list" | .dict => "dict"
inductive AV where
  | non | bl (b : Bool) | int (i : Int) | str (x : Str) | tup (xs : List AV) | tud (xs : List AV) | lsf (xs : List AV) | ref (i : Nat) | fn (n : Str) | ty (t : Ty)
inductive AO where
  | lst (xs : List AV)
  | dK (ks : List Key) (vs : List AV)
  | ins (c : Str) (ns : List Str) (vs : List AV)
  | dT (w : PySem.World) (ks : List NestedKey) (vs : List AV)
  | slt (c : Str) (vs : List AV)
  | tab (P : Addr) (q : Str)
structure AExc where
  c : Str
  ns : List Str
  vs : List AV
abbrev AH := List AO
abbrev ASt := List (Option AV)
/-- a run: what must be true, the heap behind it, the value or the exception; none: not covered -/
def M (α : Type) := AH → Option (List Prop × AH × Except AExc α)
def M.pure {α : Type} (a : α) : M α := fun A => some ([], A, .ok a)
def M.fail {α : Type} : M α := fun _ => none
def M.exc {α : Type} (e : AExc) : M α := fun A => some ([], A, .error e)
def M.need (p : Prop) : M Unit := fun A => some ([p], A, .ok ())
def M.lift {α : Type} (g : AH → Option (α × AH)) : M α := fun A => match g A with
  | some (a, A') => some ([], A', .ok a)
  | none => none
def M.opt {α : Type} (o : Option α) : M α := fun A => match o with
  | some a => some ([], A, .ok a)
  | none => none
def M.bind {α β : Type} (m : M α) (f : α → M β) : M β := fun A => match m A with
  | none => none
  | some (l, A1, .error e) => some (l, A1, .error e)
  | some (l, A1, .ok a) => match f a A1 with
    | none => none
    | some (l2, A2, r) => some (l ++ l2, A2, r)

/-- the run m, from A, ends; what it needs is true; its end is as k (or, for an exception, x) says -/
def Yes {α : Type} (m : M α) (A : AH) (k : α → AH → Prop) (x : AExc → AH → Prop) : Prop :=
  ∃ l A' r, m A = some (l, A', r) ∧ (∀ p ∈ l, p) ∧ match r with
    | .ok a => k a A'
    | .error e => x e A'
section
variable {α β : Type} {m : M α} {f : α → M β} {A : AH} {x : AExc → AH → Prop}
theorem Yes.pure {k : α → AH → Prop} {a : α} (h : Yes (M.pure a) A k x) : k a A := by
  obtain ⟨l, A', r, e, _, q⟩ := h
  cases e
  exact q
theorem Yes.fail {k : α → AH → Prop} {p : Prop} (h : Yes (M.fail : M α) A k x) : p := by
  obtain ⟨l, A', r, e, _, q⟩ := h
  cases e
theorem Yes.exc {k : α → AH → Prop} {e : AExc} (h : Yes (M.exc e : M α) A k x) : x e A := by
  obtain ⟨l, A', r, e, _, q⟩ := h
  cases e
  exact q
theorem Yes.lift {k : α → AH → Prop} {g : AH → Option (α × AH)} (h : Yes (M.lift g) A k x) : ∃ a A', g A = some (a, A') ∧ k a A' := by
  obtain ⟨l, A', r, e, _, q⟩ := h
  unfold M.lift at e
  cases hg : g A with
  | none => rw [hg] at e; cases e
  | some p =>
    obtain ⟨a, A1⟩ := p
    rw [hg] at e
    cases e
    exact ⟨a, _, rfl, q⟩
theorem Yes.opt {k : α → AH → Prop} {o : Option α} (h : Yes (M.opt o) A k x) : ∃ a, o = some a ∧ k a A := by
  obtain ⟨l, A', r, e, _, q⟩ := h
  unfold M.opt at e
  cases o with
  | none => cases e
  | some a => cases e; exact ⟨a, rfl, q⟩
theorem Yes.bind {k : β → AH → Prop} (h : Yes (m.bind f) A k x) : Yes m A (fun a A1 => Yes (f a) A1 k x) x := by
  obtain ⟨l, A', r, e, hl, q⟩ := h
  unfold M.bind at e
  cases hm : m A with
  | none => rw [hm] at e; cases e
  | some p =>
    obtain ⟨l1, A1, r1⟩ := p
    rw [hm] at e
    cases r1 with
    | error e1 =>
      cases e
      exact ⟨_, _, _, hm, hl, q⟩
    | ok a =>
      dsimp only at e
      cases hf : f a A1 with
      | none => rw [hf] at e; cases e
      | some p2 =>
        obtain ⟨l2, A2, r2⟩ := p2
        rw [hf] at e
        cases e
        exact ⟨_, _, _, hm, fun p hp => hl p (List.mem_append_left _ hp), _, _, _, hf, fun p hp => hl p (List.mem_append_right _ hp), q⟩
theorem Yes.mono {k k' : α → AH → Prop} {x' : AExc → AH → Prop} (h : Yes m A k x) (hk : ∀ a A', k a A' → k' a A') (hx : ∀ e A', x e A' → x' e A') : Yes m A k' x' := by
  obtain ⟨l, A', r, e, hl, q⟩ := h
  refine ⟨l, A', r, e, hl, ?_⟩
  cases r with
  | ok a => exact hk _ _ q
  | error e => exact hx _ _ q
end

/-! what never changes, beside tuples: an empty exception dict, a known list, a code object -/
def Imm : HO → Prop
  | .xd [] => True
  | .frz _ (.lst _) => True
  | .ext φ => ∃ c q, HO.ext φ = LamX.CodeO c q
  | _ => False
def codeObj (q : Str) : Obj := { cls := .none, data := .fields #[.none, .str q default] }
def codeHeap (c : Addr) (q : Str) : Heap := ⟨Array.replicate (c + 1) (codeObj q), {}⟩
theorem codeHeap_get {c a : Addr} {q : Str} {o : Obj} (h : (codeHeap c q).get? a = some o) : o = codeObj q := by
  have e : (codeHeap c q).objs[a]? = if a < c + 1 then some (codeObj q) else none := Array.getElem?_replicate
  unfold Heap.get? at h
  by_cases hl : a < c + 1
  · rw [e, if_pos hl] at h
    exact (Option.some.inj h).symm
  · rw [e, if_neg hl] at h
    cases h
theorem codeHeap_at (c : Addr) (q : Str) : (codeHeap c q).get? c = some (codeObj q) := by
  have e : (codeHeap c q).objs[c]? = if c < c + 1 then some (codeObj q) else none := Array.getElem?_replicate
  unfold Heap.get?
  rw [e, if_pos (Nat.lt_succ_self c)]
  rfl
theorem code_at {φ : Heap → Prop} {c : Addr} {q : Str} (h : HO.ext φ = LamX.CodeO c q) : φ (codeHeap c q) := by
  unfold LamX.CodeO at h
  injection h with h
  rw [h]
  exact ⟨_, _, _, codeHeap_at c q, rfl, rfl⟩
theorem imm_code (c : Addr) (q : Str) : Imm (LamX.CodeO c q) := ⟨c, q, rfl⟩
theorem imm_slo {a C dx : Addr} {vs : List (Option V)} : ¬ Imm (SlX.SlO a C dx vs) := fun ⟨c, q, e⟩ => by
  obtain ⟨sl, h, _⟩ := code_at e
  have z := congrArg Obj.cls (codeHeap_get h)
  cases z
/-- the tuples, and what never changes, stay -/
def Tx (H H' : Hp) : Prop := (∀ a xs, Rd H a (.tup xs) → Rd H' a (.tup xs)) ∧ (∀ a o xs, H a = some (.frz o (.tup xs)) → H' a = some (.frz o (.tup xs))) ∧ ∀ a o, Imm o → H a = some o → H' a = some o
theorem Tx.refl (H : Hp) : Tx H H := ⟨fun _ _ h => h, fun _ _ _ h => h, fun _ _ _ h => h⟩
theorem Tx.trans {H H1 H2 : Hp} (a : Tx H H1) (b : Tx H1 H2) : Tx H H2 := ⟨fun x y h => b.1 x y (a.1 x y h), fun x o y h => b.2.1 x o y (a.2.1 x o y h), fun x o i h => b.2.2 x o i (a.2.2 x o i h)⟩
/-- a list that is known -/
def SqF (K : PySem.W.Frag) (H : Hp) (a : Addr) (vs : List V) : Prop := (∃ o, H a = some (.frz o (.lst vs))) ∨ ∀ H', SqL K H' a vs
theorem SqF.sql {K : PySem.W.Frag} {H : Hp} {a : Addr} {vs : List V} (h : SqF K H a vs) : SqL K H a vs := h.elim (fun ⟨o, e⟩ => .inl (.inr ⟨o, e⟩)) fun h => h H
theorem Tx.sqf {K : PySem.W.Frag} {H H' : Hp} {a : Addr} {vs : List V} (e : Tx H H') (h : SqF K H a vs) : SqF K H' a vs := h.imp (fun ⟨o, q⟩ => ⟨o, e.2.2 _ _ True.intro q⟩) id
theorem Tx.sq {K : PySem.W.Frag} {H H' : Hp} {a : Addr} {xs : List V} (e : Tx H H') (h : SqT K H a xs) : SqT K H' a xs := h.imp (e.1 a xs) id
/-- a tuple whose object is known: it has no dict of its own -/
def TudAt (H : Hp) (a : Addr) (vs : List V) : Prop := ∃ its n, H a = some (.frz ⟨.type "tuple", none, .seq its n, #[]⟩ (.tup vs))
theorem Tx.tud {H H' : Hp} {a : Addr} {vs : List V} (e : Tx H H') (h : TudAt H a vs) : TudAt H' a vs := let ⟨its, n, q⟩ := h; ⟨its, n, e.2.1 _ _ _ q⟩

/-! ### what stands for what: ρ the addresses of the own heap -/
mutual
inductive VR (K : PySem.W.Frag) (ρ : List Addr) (H : Hp) : AV → V → Prop
  | non : VR K ρ H .non .non
  | bl (b : Bool) : VR K ρ H (.bl b) (.bl b)
  | int (i : Int) : VR K ρ H (.int i) (.int i)
  | str (x : Str) : VR K ρ H (.str x) (.str x)
  | tup {a : Addr} {xs : List AV} {vs : List V} : SqT K H a vs → VRs K ρ H xs vs → VR K ρ H (.tup xs) (.ref a)
  | tud {a : Addr} {xs : List AV} {vs : List V} : TudAt H a vs → VRs K ρ H xs vs → VR K ρ H (.tud xs) (.ref a)
  | lsf {a : Addr} {xs : List AV} {vs : List V} : SqF K H a vs → VRs K ρ H xs vs → VR K ρ H (.lsf xs) (.ref a)
  | ref {i : Nat} {a : Addr} : ρ[i]? = some a → VR K ρ H (.ref i) (.ref a)
  | fn (n : Str) : VR K ρ H (.fn n) (.ref (He.ga K n))
  | ty (t : Ty) : VR K ρ H (.ty t) (.ty t.name)
inductive VRs (K : PySem.W.Frag) (ρ : List Addr) (H : Hp) : List AV → List V → Prop
  | nil : VRs K ρ H [] []
  | cons {x : AV} {v : V} {xs : List AV} {vs : List V} : VR K ρ H x v → VRs K ρ H xs vs → VRs K ρ H (x :: xs) (v :: vs)
end
section
variable {K : PySem.W.Frag} {ρ ρ' : List Addr} {H H' : Hp}
mutual
theorem VR.mono (e : Tx H H') (n : List Addr) : ∀ {x : AV} {v : V}, VR K ρ H x v → VR K (ρ ++ n) H' x v
  | _, _, .non => .non
  | _, _, .bl b => .bl b
  | _, _, .int i => .int i
  | _, _, .str x => .str x
  | _, _, .tup h hs => .tup (e.sq h) (VRs.mono e n hs)
  | _, _, .tud h hs => .tud (e.tud h) (VRs.mono e n hs)
  | _, _, .lsf h hs => .lsf (e.sqf h) (VRs.mono e n hs)
  | _, _, .ref h => .ref (by rw [List.getElem?_append_left (List.getElem?_eq_some_iff.mp h).1]; exact h)
  | _, _, .fn n => .fn n
  | _, _, .ty n => .ty n
theorem VRs.mono (e : Tx H H') (n : List Addr) : ∀ {xs : List AV} {vs : List V}, VRs K ρ H xs vs → VRs K (ρ ++ n) H' xs vs
  | _, _, .nil => .nil
  | _, _, .cons h hs => .cons (VR.mono e n h) (VRs.mono e n hs)
end
theorem VRs.length : ∀ {xs : List AV} {vs : List V}, VRs K ρ H xs vs → xs.length = vs.length
  | _, _, .nil => rfl
  | _, _, .cons _ hs => congrArg (· + 1) (VRs.length hs)
theorem VRs.get : ∀ {xs : List AV} {vs : List V} {i : Nat} {x : AV}, VRs K ρ H xs vs → xs[i]? = some x → ∃ v, vs[i]? = some v ∧ VR K ρ H x v
  | _, _, _, _, .nil, e => by simp at e
  | _, _, 0, d, .cons h _, e => by
    have e' := Option.some.inj e
    subst e'
    exact ⟨_, rfl, h⟩
  | _, _, i + 1, d, .cons _ hs, e => VRs.get (i := i) hs e
theorem VRs.get' : ∀ {xs : List AV} {vs : List V} {i : Nat} {v : V}, VRs K ρ H xs vs → vs[i]? = some v → ∃ x, xs[i]? = some x ∧ VR K ρ H x v
  | _, _, _, _, .nil, e => by simp at e
  | _, _, 0, d, .cons h _, e => by
    have e' := Option.some.inj e
    subst e'
    exact ⟨_, rfl, h⟩
  | _, _, i + 1, d, .cons _ hs, e => VRs.get' (i := i) hs e
theorem VRs.append : ∀ {xs ys : List AV} {vs ws : List V}, VRs K ρ H xs vs → VRs K ρ H ys ws → VRs K ρ H (xs ++ ys) (vs ++ ws)
  | _, _, _, _, .nil, h => h
  | _, _, _, _, .cons a b, h => .cons a (VRs.append b h)
theorem VRs.take : ∀ {xs : List AV} {vs : List V} (n : Nat), VRs K ρ H xs vs → VRs K ρ H (xs.take n) (vs.take n)
  | _, _, 0, _ => .nil
  | _, _, _ + 1, .nil => .nil
  | _, _, n + 1, .cons a b => .cons a (VRs.take n b)
theorem VRs.drop : ∀ {xs : List AV} {vs : List V} (n : Nat), VRs K ρ H xs vs → VRs K ρ H (xs.drop n) (vs.drop n)
  | _, _, 0, h => h
  | _, _, _ + 1, .nil => .nil
  | _, _, n + 1, .cons _ b => VRs.drop n b
theorem VRs.set : ∀ {xs : List AV} {vs : List V} {x : AV} {v : V} (n : Nat), VRs K ρ H xs vs → VR K ρ H x v → VRs K ρ H (xs.set n x) (vs.set n v)
  | _, _, _, _, _, .nil, _ => .nil
  | _, _, _, _, 0, .cons a b, h => .cons h b
  | _, _, _, _, n + 1, .cons a b, h => .cons a (VRs.set n b h)
theorem VRs.one {x : AV} {v : V} (h : VR K ρ H x v) : VRs K ρ H [x] [v] := .cons h .nil
theorem VR.int_eq {v : V} {i : Int} (h : VR K ρ H (.int i) v) : v = .int i := by cases h; rfl
theorem VR.bl_eq {v : V} {b : Bool} (h : VR K ρ H (.bl b) v) : v = .bl b := by cases h; rfl
theorem VR.str_eq {v : V} {x : Str} (h : VR K ρ H (.str x) v) : v = .str x := by cases h; rfl
theorem VR.non_eq {v : V} (h : VR K ρ H .non v) : v = .non := by cases h; rfl
theorem VR.ty_eq {v : V} {n : Ty} (h : VR K ρ H (.ty n) v) : v = .ty n.name := by cases h; rfl
theorem VR.fn_eq {v : V} {n : Str} (h : VR K ρ H (.fn n) v) : v = .ref (He.ga K n) := by cases h; rfl
theorem VR.tup_eq {v : V} {xs : List AV} (h : VR K ρ H (.tup xs) v) : ∃ a vs, v = .ref a ∧ SqT K H a vs ∧ VRs K ρ H xs vs := by
  cases h with
  | tup h hs => exact ⟨_, _, rfl, h, hs⟩
theorem VR.ref_eq {v : V} {i : Nat} (h : VR K ρ H (.ref i) v) : ∃ a, v = .ref a ∧ ρ[i]? = some a := by
  cases h with
  | ref h => exact ⟨_, rfl, h⟩
end
theorem VR.tud_eq {K : PySem.W.Frag} {ρ : List Addr} {H : Hp} {v : V} {xs : List AV} (h : VR K ρ H (.tud xs) v) : ∃ a vs, v = .ref a ∧ TudAt H a vs ∧ VRs K ρ H xs vs := by
  cases h with
  | tud h hs => exact ⟨_, _, rfl, h, hs⟩
/-! keys of any depth -/
mutual
inductive NKs (K : PySem.W.Frag) (H : Hp) : NestedKey → V → Prop
  | int (i : Int) : NKs K H (.num i) (.int i)
  | str (x : Str) : NKs K H (.text x) (.str x)
  | tup {a : Addr} {ks : List NestedKey} {vs : List V} : SqT K H a vs → NKl K H ks vs → NKs K H (.tup ks) (.ref a)
inductive NKl (K : PySem.W.Frag) (H : Hp) : List NestedKey → List V → Prop
  | nil : NKl K H [] []
  | cons {k : NestedKey} {v : V} {ks : List NestedKey} {vs : List V} : NKs K H k v → NKl K H ks vs → NKl K H (k :: ks) (v :: vs)
end
mutual
theorem NKs.mono {K : PySem.W.Frag} {H H' : Hp} (e : Tx H H') : ∀ {k : NestedKey} {v : V}, NKs K H k v → NKs K H' k v
  | _, _, .int i => .int i
  | _, _, .str x => .str x
  | _, _, .tup h hs => .tup (e.sq h) (NKl.mono e hs)
theorem NKl.mono {K : PySem.W.Frag} {H H' : Hp} (e : Tx H H') : ∀ {k : List NestedKey} {v : List V}, NKl K H k v → NKl K H' k v
  | _, _, .nil => .nil
  | _, _, .cons h hs => .cons (NKs.mono e h) (NKl.mono e hs)
end
/-- a dict of such keys: its object, the keys' tuples by their places -/
def DN (w : PySem.World) (a : Addr) (q : List (NestedKey × Addr × Value)) : HO := .ext fun h => ∃ o es ep, h.get? a = some o ∧ o.ExactDict ∧ o.data = .dict es ep ∧ es.toList = q.map fun x => (⟨x.1.hash w, .ref x.2.1, x.2.2⟩ : DictEntry)
structure DNs (K : PySem.W.Frag) (H : Hp) (a : Addr) (q : List (NestedKey × Addr × Value)) : Prop where
  nd : (q.map (·.1)).Nodup
  key : ∀ x ∈ q, NKs K H x.1 (.ref x.2.1) ∧ x.1.depth ≤ 8
  sys : (a == sysModules) = false
  len : q.length ≤ sizeLine
/-- what an own object is -/
def OR (K : PySem.W.Frag) (ρ : List Addr) (H : Hp) (a : Addr) : AO → Prop
  | .lst xs => ∃ vs, H a = some (.lst vs) ∧ VRs K ρ H xs vs
  | .dK ks xs => ∃ kvs : List (Key × V), H a = some (.dK kvs) ∧ kvs.map (·.1) = ks ∧ VRs K ρ H xs (kvs.map (·.2))
  | .ins c ns xs => ∃ dx, ∃ fs : List (Str × V), H a = some (.ins (He.ga K c) dx fs) ∧ fs.map (·.1) = ns ∧ VRs K ρ H xs (fs.map (·.2))
  | .dT w ks xs => ∃ (q : List (NestedKey × Addr × Value)) (kvs : List V), H a = some (DN w a q) ∧ q.map (·.1) = ks ∧ DNs K H a q ∧ Vals kvs (q.map (·.2.2)) ∧ VRs K ρ H xs kvs
  | .slt c xs => ∃ (dx : Addr) (vs : List V), H a = some (SlX.SlO a (He.ga K c) dx (vs.map some)) ∧ H dx = some (.xd []) ∧ VRs K ρ H xs vs
  | .tab P q => a = P ∧ LamX.TabS H a q
theorem imm_dn {w : PySem.World} {a : Addr} {q : List (NestedKey × Addr × Value)} : ¬ Imm (DN w a q) := fun ⟨c, x, e⟩ => by
  obtain ⟨o, es, ep, h, _, hd, _⟩ := code_at e
  rw [codeHeap_get h] at hd
  cases hd
theorem OR.own {K : PySem.W.Frag} {ρ : List Addr} {H : Hp} {a : Addr} {o : AO} (h : OR K ρ H a o) : ∃ u, H a = some u ∧ (∀ xs, u ≠ .tup xs) ∧ (∀ o' xs, u ≠ .frz o' xs) ∧ ¬ Imm u := by
  cases o with
  | lst xs => obtain ⟨vs, e, _⟩ := h; exact ⟨_, e, (fun _ => nofun), (fun _ _ => nofun), id⟩
  | dK ks xs => obtain ⟨vs, e, _⟩ := h; exact ⟨_, e, (fun _ => nofun), (fun _ _ => nofun), id⟩
  | ins c ns xs => obtain ⟨dx, fs, e, _⟩ := h; exact ⟨_, e, (fun _ => nofun), (fun _ _ => nofun), id⟩
  | dT w ks xs => obtain ⟨q, kvs, e, _⟩ := h; exact ⟨_, e, (fun _ => nofun), (fun _ _ => nofun), imm_dn⟩
  | slt c xs => obtain ⟨dx, vs, e, _⟩ := h; exact ⟨_, e, (fun _ => nofun), (fun _ _ => nofun), imm_slo⟩
  | tab P q => obtain ⟨_, ps, e, _⟩ := h; exact ⟨_, e, (fun _ => nofun), (fun _ _ => nofun), id⟩
theorem OR.mono {K : PySem.W.Frag} {ρ : List Addr} {H H' : Hp} {a : Addr} {o : AO} (t : Tx H H') (n : List Addr) (e : H' a = H a) (h : OR K ρ H a o) : OR K (ρ ++ n) H' a o := by
  cases o with
  | lst xs => obtain ⟨vs, q, r⟩ := h; exact ⟨vs, e.trans q, r.mono t n⟩
  | dK ks xs => obtain ⟨vs, q, r1, r⟩ := h; exact ⟨vs, e.trans q, r1, r.mono t n⟩
  | ins c ns xs => obtain ⟨dx, fs, q, r1, r⟩ := h; exact ⟨dx, fs, e.trans q, r1, r.mono t n⟩
  | dT w ks xs => obtain ⟨q, kvs, h1, h2, h3, h4, h5⟩ := h; exact ⟨q, kvs, e.trans h1, h2, ⟨h3.nd, fun x hx => ⟨(h3.key x hx).1.mono t, (h3.key x hx).2⟩, h3.sys, h3.len⟩, h4, h5.mono t n⟩
  | slt c xs => obtain ⟨dx, vs, h1, h2, h3⟩ := h; exact ⟨dx, vs, e.trans h1, t.2.2 _ _ True.intro h2, h3.mono t n⟩
  | tab P q => obtain ⟨h0, ps, h1, h2, h3⟩ := h; exact ⟨h0, ps, e.trans h1, h2, fun pos cv hc => let ⟨c, e1, e2⟩ := h3 pos cv hc; ⟨c, e1, t.2.2 _ _ (imm_code c q) e2⟩⟩
/-- the own heap stands at ρ -/
structure Wd (K : PySem.W.Frag) (ρ : List Addr) (H : Hp) (A : AH) : Prop where
  len : ρ.length = A.length
  nd : ρ.Nodup
  at_ : ∀ (i : Nat) (a : Addr) (o : AO), ρ[i]? = some a → A[i]? = some o → OR K ρ H a o
/-- from H to H': what is not of the own heap stays, the own heap grows -/
structure Grow (ρ : List Addr) (H : Hp) (ρ' : List Addr) (H' : Hp) : Prop where
  pre : ∃ n, ρ' = ρ ++ n ∧ ∀ a ∈ n, H a = none
  keep : ∀ a o, H a = some o → a ∉ ρ → H' a = some o
  dom : ∀ a, H' a = none → H a = none
  tx : Tx H H'
section
variable {K : PySem.W.Frag} {ρ ρ' ρ1 ρ2 : List Addr} {H H' H1 H2 : Hp} {A A' : AH}
theorem Grow.refl : Grow ρ H ρ H := ⟨⟨[], by simp, by simp⟩, fun _ _ h _ => h, fun _ h => h, Tx.refl H⟩
theorem Grow.trans (a : Grow ρ H ρ1 H1) (b : Grow ρ1 H1 ρ2 H2) : Grow ρ H ρ2 H2 := by
  obtain ⟨n1, e1, f1⟩ := a.pre
  obtain ⟨n2, e2, f2⟩ := b.pre
  refine ⟨⟨n1 ++ n2, by rw [e2, e1, List.append_assoc], fun x hx => ?_⟩, fun x o h hn => ?_, fun x h => a.dom x (b.dom x h), a.tx.trans b.tx⟩
  · rcases List.mem_append.mp hx with h | h
    · exact f1 x h
    · exact a.dom x (f2 x h)
  · refine b.keep x o (a.keep x o h hn) fun hm => ?_
    rw [e1] at hm
    rcases List.mem_append.mp hm with q | q
    · exact hn q
    · rw [f1 x q] at h; cases h
theorem Grow.vr (g : Grow ρ H ρ' H') {x : AV} {v : V} (h : VR K ρ H x v) : VR K ρ' H' x v := by
  obtain ⟨n, e, _⟩ := g.pre
  subst e
  exact h.mono g.tx n
theorem Grow.vrs (g : Grow ρ H ρ' H') {x : List AV} {v : List V} (h : VRs K ρ H x v) : VRs K ρ' H' x v := by
  obtain ⟨n, e, _⟩ := g.pre
  subst e
  exact h.mono g.tx n
theorem Wd.obj (w : Wd K ρ H A) {i : Nat} {a : Addr} {o : AO} (h : ρ[i]? = some a) (h' : A[i]? = some o) : OR K ρ H a o := w.at_ i a o h h'
theorem Wd.own (w : Wd K ρ H A) {a : Addr} (h : a ∈ ρ) : ∃ u, H a = some u ∧ (∀ xs, u ≠ .tup xs) ∧ (∀ o' xs, u ≠ .frz o' xs) ∧ ¬ Imm u := by
  obtain ⟨i, hi⟩ := List.getElem?_of_mem h
  have : i < A.length := by rw [← w.len]; exact (List.getElem?_eq_some_iff.mp hi).1
  exact (w.at_ i a A[i] hi (List.getElem?_eq_some_iff.mpr ⟨this, rfl⟩)).own
theorem tx_upd {p : Addr} {o : HO} (h : ∀ xs, ¬ Rd H p (.tup xs)) (hx : ∀ o, H p = some o → ¬ Imm o) : Tx H (upd H p o) := by
  refine ⟨fun a xs h1 => ?_, fun a o xs h1 => ?_, fun a o i h1 => by
    have q : a ≠ p := fun q => hx o (by rw [← q]; exact h1) i
    rw [upd_ne q]
    exact h1⟩
  · by_cases q : a = p
    · exact absurd (q ▸ h1) (h xs)
    · rcases h1 with h1 | ⟨u, h1⟩
      · exact .inl (by rw [upd_ne q]; exact h1)
      · exact .inr ⟨u, by rw [upd_ne q]; exact h1⟩
  · by_cases q : a = p
    · exact absurd (.inr ⟨o, q ▸ h1⟩) (h xs)
    · rw [upd_ne q]; exact h1
theorem Wd.notup (w : Wd K ρ H A) {a : Addr} (h : a ∈ ρ) (xs : List V) : ¬ Rd H a (.tup xs) := fun r => by
  obtain ⟨u, e, h1, h2, _⟩ := w.own h
  rcases r with r | ⟨o, r⟩
  · rw [e] at r; exact h1 xs (Option.some.inj r)
  · rw [e] at r; exact h2 _ _ (Option.some.inj r)
theorem Wd.noxd (w : Wd K ρ H A) {a : Addr} (h : a ∈ ρ) : ∀ o, H a = some o → ¬ Imm o := fun o e => by
  obtain ⟨u, e', _, _, m⟩ := w.own h
  rw [e] at e'
  cases e'
  exact m
/-- a store at an own object -/
theorem Wd.store (w : Wd K ρ H A) {i : Nat} {a : Addr} {u : HO} {o : AO} (ha : ρ[i]? = some a) (new : OR K ρ (upd H a u) a o) : Wd K ρ (upd H a u) (A.set i o) ∧ Grow ρ H ρ (upd H a u) := by
  have hm : a ∈ ρ := List.mem_of_getElem? ha
  have tx : Tx H (upd H a u) := tx_upd (w.notup hm) (w.noxd hm)
  refine ⟨⟨by rw [w.len, List.length_set], w.nd, fun j b o' hb ho => ?_⟩, ⟨⟨[], by simp, by simp⟩, fun b o' h hn => ?_, fun b h => ?_, tx⟩⟩
  · by_cases hj : j = i
    · subst hj
      rw [ha] at hb
      cases hb
      rw [List.getElem?_set_self (by rw [← w.len]; exact (List.getElem?_eq_some_iff.mp ha).1)] at ho
      cases ho
      exact new
    · rw [List.getElem?_set_ne (Ne.symm hj)] at ho
      have hne : b ≠ a := fun e => hj ((List.getElem_inj w.nd).mp ((List.getElem?_eq_some_iff.mp hb).2.trans (e.trans (List.getElem?_eq_some_iff.mp ha).2.symm)) : j = i)
      have := (w.at_ j b o' hb ho).mono tx [] (upd_ne hne)
      rwa [List.append_nil] at this
  · rw [upd_ne fun e => hn (by rw [e]; exact hm)]; exact h
  · by_cases q : b = a
    · subst q; rw [upd_same] at h; cases h
    · rw [upd_ne q] at h; exact h
/-- a new object that is not of the own heap -/
theorem Wd.out (w : Wd K ρ H A) {p : Addr} {u : HO} (hp : H p = none) : Wd K ρ (upd H p u) A ∧ Grow ρ H ρ (upd H p u) := by
  have tx : Tx H (upd H p u) := tx_upd (fun xs r => by
    rcases r with r | ⟨o, r⟩ <;> rw [hp] at r <;> cases r) (fun o e => by rw [hp] at e; cases e)
  refine ⟨⟨w.len, w.nd, fun j b o' hb ho => ?_⟩, ⟨⟨[], by simp, by simp⟩, fun b o' h hn => ?_, fun b h => ?_, tx⟩⟩
  · have q := w.at_ j b o' hb ho
    have hne : b ≠ p := fun e => by
      obtain ⟨v, h, _⟩ := q.own
      rw [e, hp] at h; cases h
    have := q.mono tx [] (upd_ne hne)
    rwa [List.append_nil] at this
  · rw [upd_ne (ne_of_none h hp)]; exact h
  · by_cases q : b = p
    · subst q; rw [upd_same] at h; cases h
    · rw [upd_ne q] at h; exact h
/-- a new own object -/
theorem Wd.new (w : Wd K ρ H A) {p : Addr} {u : HO} {o : AO} (hp : H p = none) (new : OR K (ρ ++ [p]) (upd H p u) p o) : Wd K (ρ ++ [p]) (upd H p u) (A ++ [o]) ∧ Grow ρ H (ρ ++ [p]) (upd H p u) := by
  obtain ⟨w1, g1⟩ := w.out (u := u) hp
  have hn : p ∉ ρ := fun h => by
    obtain ⟨v, h, _⟩ := w.own h
    rw [hp] at h; cases h
  refine ⟨⟨by rw [List.length_append, List.length_append, w.len] <;> rfl, ?_, fun j b o' hb ho => ?_⟩, ⟨⟨[p], rfl, fun a ha => ?_⟩, g1.keep, g1.dom, g1.tx⟩⟩
  · rw [List.nodup_append]
    refine ⟨w.nd, by simp, fun a ha b hb => ?_⟩
    have : b = p := by simpa using hb
    subst this
    exact fun e => hn (e ▸ ha)
  · by_cases hj : j < ρ.length
    · rw [List.getElem?_append_left hj] at hb
      rw [List.getElem?_append_left (by rw [← w.len]; exact hj)] at ho
      exact (w1.at_ j b o' hb ho).mono (Tx.refl _) [p] rfl
    · have hj2 : j = ρ.length := by
        have := (List.getElem?_eq_some_iff.mp hb).1
        rw [List.length_append] at this
        simp at this
        omega
      subst hj2
      rw [List.getElem?_append_right (Nat.le_refl _)] at hb
      rw [w.len, List.getElem?_append_right (Nat.le_refl _)] at ho
      simp at hb ho
      subst hb; subst ho
      exact new
  · have : a = p := by simpa using ha
    subst this; exact hp
end

/-! ### slots -/
def SR (K : PySem.W.Frag) (ρ : List Addr) (H : Hp) (aσ : ASt) (σ : L2.St) : Prop := aσ.length = σ.length ∧ ∀ (i : Nat) (x : AV), aσ[i]? = some (some x) → ∃ v, σ[i]? = some (some v) ∧ VR K ρ H x v
section
variable {K : PySem.W.Frag} {ρ ρ' ρ1 ρ2 : List Addr} {H H' H1 H2 : Hp} {A A' : AH} {aσ : ASt} {σ : L2.St}
theorem SR.grow (s : SR K ρ H aσ σ) (g : Grow ρ H ρ' H') : SR K ρ' H' aσ σ := ⟨s.1, fun i x h => let ⟨v, e, r⟩ := s.2 i x h; ⟨v, e, g.vr r⟩⟩
theorem SR.set (s : SR K ρ H aσ σ) {x : AV} {v : V} (r : VR K ρ H x v) (i : Nat) : SR K ρ H (aσ.set i (some x)) (σ.set i (some v)) := by
  refine ⟨by rw [List.length_set, List.length_set, s.1], fun j y h => ?_⟩
  by_cases q : j = i
  · subst q
    have hl : j < aσ.length := by have := (List.getElem?_eq_some_iff.mp h).1; rwa [List.length_set] at this
    rw [List.getElem?_set_self hl] at h
    cases h
    exact ⟨v, List.getElem?_set_self (by rw [← s.1]; exact hl), r⟩
  · rw [List.getElem?_set_ne (Ne.symm q)] at h
    obtain ⟨u, e, r'⟩ := s.2 j y h
    exact ⟨u, by rw [List.getElem?_set_ne (Ne.symm q)]; exact e, r'⟩
end

/-! ### what is said of an end -/
/-- an exception by its class and attributes -/
def ExR (K : PySem.W.Frag) (ρ : List Addr) (H : Hp) (e : AExc) (cls : Value) (d : Option Addr) : Prop :=
  cls = .ref (He.ga K e.c) ∧ ∃ a, ∃ fs : List (Str × V), d = some a ∧ H a = some (.xd fs) ∧ fs.map (·.1) = e.ns ∧ VRs K ρ H e.vs (fs.map (·.2))
abbrev Rl (α β : Type) := List Addr → Hp → α → β → Prop
def Post {α β : Type} (K : PySem.W.Frag) (R : Rl α β) (ρ : List Addr) (H : Hp) (x : α) (A' : AH) (Q : β → Hp → Prop) : Prop :=
  ∀ ρ' H' v, Grow ρ H ρ' H' → Wd K ρ' H' A' → R ρ' H' x v → Q v H'
def PostX (K : PySem.W.Frag) (ρ : List Addr) (H : Hp) (e : AExc) (A' : AH) (E : XK) : Prop :=
  ∀ ρ' H' cls d, Grow ρ H ρ' H' → Wd K ρ' H' A' → ExR K ρ' H' e cls d → E cls d H'
abbrev REq {α : Type} : Rl α α := fun _ _ a b => a = b
/-- the reading of a run -/
def SX {α β : Type} (K : PySem.W.Frag) (E : XK) (R : Rl α β) (f : ASt → M α) : L2.St → Hp → (β → Hp → Prop) → Prop := fun σ H Q =>
  ∃ ρ aσ A, Wd K ρ H A ∧ SR K ρ H aσ σ ∧ Yes (f aσ) A (fun x A' => Post K R ρ H x A' Q) (fun e A' => PostX K ρ H e A' E)
abbrev S (K : PySem.W.Frag) (E : XK) (f : ASt → M AV) : TE := SX K E (VR K) f
abbrev SL (K : PySem.W.Frag) (E : XK) (f : ASt → M (List AV)) : TA := SX K E (VRs K) f
abbrev ST (K : PySem.W.Frag) (E : XK) (f : ASt → M Bool) : TT := SX K E REq f
abbrev SO (K : PySem.W.Frag) (E : XK) (f : ASt → M (Option Int)) : TO := SX K E REq f
section
variable {α β : Type} {K : PySem.W.Frag} {R : Rl α β} {ρ ρ' ρ1 : List Addr} {H H' H1 : Hp} {A A' : AH} {E : XK} {x : α} {e : AExc} {Q : β → Hp → Prop} {σ : L2.St} {aσ : ASt}
theorem Post.tr (h : Post K R ρ H x A' Q) (g : Grow ρ H ρ1 H1) : Post K R ρ1 H1 x A' Q := fun ρ' H' v g1 w r => h ρ' H' v (g.trans g1) w r
theorem PostX.tr (h : PostX K ρ H e A' E) (g : Grow ρ H ρ1 H1) : PostX K ρ1 H1 e A' E := fun ρ' H' c d g1 w r => h ρ' H' c d (g.trans g1) w r
/-- a run's end, used -/
theorem SX.mk {f : ASt → M α} {k : α → AH → Prop} (w : Wd K ρ H A) (s : SR K ρ H aσ σ) (y : Yes (f aσ) A k (fun e A' => PostX K ρ H e A' E))
    (h : ∀ x A' ρ' H' v, k x A' → Grow ρ H ρ' H' → Wd K ρ' H' A' → R ρ' H' x v → Q v H') : SX K E R f σ H Q :=
  ⟨ρ, aσ, A, w, s, y.mono (fun x A' q ρ' H' v g w' r => h x A' ρ' H' v q g w' r) fun _ _ q => q⟩
end
/-! ### weaker readings -/
section
variable {X : Cx}
theorem wE {e : Expr} {t t' : TE} (h : PE X e t) (w : ∀ σ H Q, t' σ H Q → t σ H Q) : PE X e t' := ⟨fun pins s σ H Q I q => h.run pins s σ H Q I (w σ H Q q)⟩
theorem wT {e : Expr} {t t' : TT} (h : PT X e t) (w : ∀ σ H Q, t' σ H Q → t σ H Q) : PT X e t' := ⟨fun pins s σ H Q I q => h.run pins s σ H Q I (w σ H Q q)⟩
theorem wW {e : Expr} {t t' : TT} (h : PW X e t) (w : ∀ σ H Q, t' σ H Q → t σ H Q) : PW X e t' := ⟨fun wh pins s σ H Q I q => h.run wh pins s σ H Q I (w σ H Q q)⟩
theorem wA {e : List Expr} {t t' : TA} (h : PA X e t) (w : ∀ σ H Q, t' σ H Q → t σ H Q) : PA X e t' := ⟨fun pos pins s σ H Q I q => h.run pos pins s σ H Q I (w σ H Q q)⟩
theorem wO {e : Option Expr} {t t' : TO} (h : PO X e t) (w : ∀ σ H Q, t' σ H Q → t σ H Q) : PO X e t' := ⟨fun pins s σ H Q I q => h.run pins s σ H Q I (w σ H Q q)⟩
theorem wS {e : Stmt} {t t' : TS} (h : PS X e t) (w : ∀ D σ H, t' D σ H → t D σ H) : PS X e t' := ⟨fun pins s σ H D I q => h.run pins s σ H D I (w D σ H q)⟩
theorem wSs {e : List Stmt} {t t' : TS} (h : PSs X e t) (w : ∀ D σ H, t' D σ H → t D σ H) : PSs X e t' := ⟨fun pins s σ H D I q => h.run pins s σ H D I (w D σ H q)⟩
end
end AX

set_option Elab.async false
set_option linter.all false
set_option maxRecDepth 100000
set_option maxHeartbeats 4000000
/-! AX2: expressions, tests, argument lists. -/
namespace AX
open PySem PySem.Spec PyProof.Rows L2

/-! ### rules by values, run -/
abbrev G1 := AV → AH → Option (AV × AH)
abbrev G2 := AV → AV → AH → Option (AV × AH)
abbrev GL := List AV → AH → Option (AV × AH)
abbrev GM := AV → List AV → AH → Option (AV × AH)
def R1A (K : PySem.W.Frag) (r : V → Hp → VK → Prop) (g : G1) : Prop := ∀ ρ H A x v z A' Q, Wd K ρ H A → VR K ρ H x v → g x A = some (z, A') → Post K (VR K) ρ H z A' Q → r v H Q
def R2A (K : PySem.W.Frag) (r : R2) (g : G2) : Prop := ∀ ρ H A x y v u z A' Q, Wd K ρ H A → VR K ρ H x v → VR K ρ H y u → g x y A = some (z, A') → Post K (VR K) ρ H z A' Q → r v u H Q
def RLA (K : PySem.W.Frag) (r : List V → Hp → VK → Prop) (g : GL) : Prop := ∀ ρ H A xs vs z A' Q, Wd K ρ H A → VRs K ρ H xs vs → g xs A = some (z, A') → Post K (VR K) ρ H z A' Q → r vs H Q
def RMA (K : PySem.W.Frag) (r : V → List V → Hp → VK → Prop) (g : GM) : Prop := ∀ ρ H A x xs v vs z A' Q, Wd K ρ H A → VR K ρ H x v → VRs K ρ H xs vs → g x xs A = some (z, A') → Post K (VR K) ρ H z A' Q → r v vs H Q

/-! ### runs -/
def aVar (i : Nat) : ASt → M AV := fun aσ => match aσ[i]? with
  | some (some x) => M.pure x
  | _ => M.fail
def aC (x : AV) : ASt → M AV := fun _ => M.pure x
def aBin (g : G2) (fa fb : ASt → M AV) : ASt → M AV := fun aσ => (fa aσ).bind fun x => (fb aσ).bind fun y => M.lift (g x y)
def aUn (g : G1) (fa : ASt → M AV) : ASt → M AV := fun aσ => (fa aσ).bind fun x => M.lift (g x)
def asB : AV → M Bool
  | .bl b => M.pure b
  | _ => M.fail
def aVal (fa : ASt → M AV) : ASt → M Bool := fun aσ => (fa aσ).bind asB
def aAnd (f g : ASt → M Bool) : ASt → M Bool := fun aσ => (f aσ).bind fun b => match b with
  | true => g aσ
  | false => M.pure false
def aOr (f g : ASt → M Bool) : ASt → M Bool := fun aσ => (f aσ).bind fun b => match b with
  | true => M.pure true
  | false => g aσ
def aNot (f : ASt → M Bool) : ASt → M Bool := fun aσ => (f aσ).bind fun b => M.pure (!b)
def aAndV (fa fb : ASt → M AV) : ASt → M AV := fun aσ => (fa aσ).bind fun x => (asB x).bind fun b => match b with
  | true => fb aσ
  | false => M.pure (.bl false)
def aOrV (fa fb : ASt → M AV) : ASt → M AV := fun aσ => (fa aσ).bind fun x => (asB x).bind fun b => match b with
  | true => M.pure (.bl true)
  | false => fb aσ
def aNotV (fa : ASt → M AV) : ASt → M AV := fun aσ => (fa aσ).bind fun x => (asB x).bind fun b => M.pure (.bl (!b))
def aIf (f : ASt → M Bool) (fa fb : ASt → M AV) : ASt → M AV := fun aσ => (f aσ).bind fun b => match b with
  | true => fa aσ
  | false => fb aσ
def aNil : ASt → M (List AV) := fun _ => M.pure []
def aCons (f : ASt → M AV) (g : ASt → M (List AV)) : ASt → M (List AV) := fun aσ => (f aσ).bind fun x => (g aσ).bind fun xs => M.pure (x :: xs)
def szOk (n : Nat) : Bool := Nat.ble n 100000
def gTupOf (xs : List AV) (A : AH) : Option (AV × AH) := match szOk xs.length with
  | true => some (.tup xs, A)
  | false => none
def gLstOf (xs : List AV) (A : AH) : Option (AV × AH) := match szOk xs.length with
  | true => some (.ref A.length, A ++ [.lst xs])
  | false => none
def aTup (f : ASt → M (List AV)) : ASt → M AV := fun aσ => (f aσ).bind fun xs => M.lift (gTupOf xs)
def aLst (f : ASt → M (List AV)) : ASt → M AV := fun aσ => (f aσ).bind fun xs => M.lift (gLstOf xs)
def aChain (g g' : G2) (fa fb fc : ASt → M AV) : ASt → M AV := fun aσ => (fa aσ).bind fun x => (fb aσ).bind fun y => (M.lift (g x y)).bind fun z => (asB z).bind fun b => match b with
  | true => (fc aσ).bind fun u => M.lift (g' y u)
  | false => M.pure (.bl false)
def aCB (g : GL) (f : ASt → M (List AV)) : ASt → M AV := fun aσ => (f aσ).bind fun xs => M.lift (g xs)
def aBM (g : GM) (fo : ASt → M AV) (f : ASt → M (List AV)) : ASt → M AV := fun aσ => (fo aσ).bind fun x => (f aσ).bind fun xs => M.lift (g x xs)

theorem szOk_of {n : Nat} (h : szOk n = true) : n ≤ sizeLine := Evl.sz_of (Nat.le_of_ble_eq_true h)
section
variable {K : PySem.W.Frag} {E : XK} {ρ : List Addr} {H : Hp} {A : AH} {k : Bool → AH → Prop} {x : AExc → AH → Prop}
theorem asB_yes {v : AV} (h : Yes (asB v) A k x) : ∃ b, v = .bl b ∧ k b A := by
  cases v with
  | bl b => exact ⟨b, rfl, h.pure⟩
  | _ => exact h.fail
/-- .. as the value stands for -/
theorem asB_vr {v : AV} {u : V} (r : VR K ρ H v u) (h : Yes (asB v) A k x) : ∃ b, v = .bl b ∧ u = .bl b ∧ k b A := by
  obtain ⟨b, rfl, q⟩ := asB_yes h
  exact ⟨b, rfl, r.bl_eq, q⟩
end

section
variable {X : Cx} {E : XK} {a b c e : Expr} {es : List Expr} {fa fb fc : ASt → M AV} {f g : ASt → M Bool} {fl : ASt → M (List AV)} {pos : Pos}
theorem a_never {e : Expr} : PE X e (S X.K E fun _ => M.fail) := ⟨fun _ _ _ _ _ _ ⟨_, _, _, _, _, y⟩ => y.fail⟩
theorem t_never {e : Expr} : PT X e (ST X.K E fun _ => M.fail) := ⟨fun _ _ _ _ _ _ ⟨_, _, _, _, _, y⟩ => y.fail⟩
theorem a_var (i : Nat) {x : Str} {pos : Pos} (hN : X.N[i]? = some x := by rfl) (hv : Vis X.env.scope x := by first | exact Or.inl rfl | exact Or.inr (Or.inl rfl) | exact Or.inr (Or.inr rfl)) (hd : (x == ("__debug__" : Str)) = false := by decide)
    (hcd : (x == ("__classdict__" : Str)) = false := by decide) : PE X (.Name x pos) (S X.K E (aVar i)) := by
  refine wE (pe_var hN hv hd hcd) fun σ H Q ⟨ρ, aσ, A, w, s, y⟩ => ?_
  unfold aVar at y
  cases h : aσ[i]? with
  | none => rw [h] at y; exact y.fail
  | some o =>
    cases o with
    | none => rw [h] at y; exact y.fail
    | some x =>
      rw [h] at y
      obtain ⟨v, e, r⟩ := s.2 i x h
      exact ⟨v, e, y.pure ρ H v Grow.refl w r⟩
theorem s_c {K : PySem.W.Frag} {x : AV} {v : V} (h : ∀ ρ H, VR K ρ H x v) : ∀ σ H Q, S K E (aC x) σ H Q → tC v σ H Q := fun σ H Q ⟨ρ, aσ, A, w, s, y⟩ => y.pure ρ H v Grow.refl w (h ρ H)
theorem a_int {i : Int} {j pos} : PE X (.Constant (.int i) j pos) (S X.K E (aC (.int i))) := wE pe_int (s_c fun _ _ => .int i)
theorem a_bl {i : Bool} {j pos} : PE X (.Constant (.bool i) j pos) (S X.K E (aC (.bl i))) := wE pe_bl (s_c fun _ _ => .bl i)
theorem a_str {i : Str} {j pos} : PE X (.Constant (.str i) j pos) (S X.K E (aC (.str i))) := wE pe_str (s_c fun _ _ => .str i)
theorem a_non {j pos} : PE X (.Constant .none j pos) (S X.K E (aC .non)) := wE pe_non (s_c fun _ _ => .non)
/-- a name of the module by its value; a built-in type -/
theorem a_gc {x : Str} {y : AV} {v : V} (hg : Gl X x) (h : ∃ u, X.mg x = some u ∧ RelV v u) (hv : ∀ ρ H, VR X.K ρ H y v) (hd : (x == ("__debug__" : Str)) = false := by decide) : PE X (.Name x pos) (S X.K E (aC y)) := wE (C8.pe_gc hg h hd) (s_c hv)
theorem a_ty (n : Ty) {x : Str} (hg : Gl X x) (hm : X.mg x = none) (hv : bootBuiltins x = some (.type n.name)) (hn : x ≠ "__name__" := by decide) (hd : (x == ("__debug__" : Str)) = false := by decide) : PE X (.Name x pos) (S X.K E (aC (.ty n))) :=
  wE (pe_bltn (v := .ty n.name) hg hm hv rfl hn hd) (s_c fun _ _ => .ty n)
theorem a_fn {x : Str} (hg : Gl X x) (h : X.mg x = some (.ref (He.ga X.K x))) (hd : (x == ("__debug__" : Str)) = false := by decide) : PE X (.Name x pos) (S X.K E (aC (.fn x))) := wE (C8.pe_gc (v := .ref (He.ga X.K x)) hg ⟨_, h, rfl⟩ hd) (s_c fun _ _ => .fn x)

theorem a_op {op : Operator} {r : R2} {g : G2} (ho : OpR X (binaryOp op) r) (hr : R2A X.K r g) (ha : PE X a (S X.K E fa)) (hb : PE X b (S X.K E fb)) : PE X (.BinOp a op b pos) (S X.K E (aBin g fa fb)) :=
  wE (pe_op ho ha hb) fun σ H Q ⟨ρ, aσ, A, w, s, y⟩ => SX.mk w s y.bind fun x A1 ρ1 H1 v y1 g1 w1 r1 =>
    SX.mk w1 (s.grow g1) (y1.bind.mono (fun _ _ q => q) fun _ _ q => q.tr g1) fun y A2 ρ2 H2 u y2 g2 w2 r2 => by
      obtain ⟨z, A', hg, q⟩ := y2.lift
      exact hr ρ2 H2 A2 x y v u z A' Q w2 (g2.vr r1) r2 hg ((q.tr g1).tr g2)
theorem a_un {op : UnaryOp} {r : V → Hp → VK → Prop} {g : G1} (ho : UnR X (unaryOp op) r) (hr : R1A X.K r g) (ha : PE X a (S X.K E fa)) : PE X (.UnaryOp op a pos) (S X.K E (aUn g fa)) :=
  wE (pe_un ho ha) fun σ H Q ⟨ρ, aσ, A, w, s, y⟩ => SX.mk w s y.bind fun x A1 ρ1 H1 v y1 g1 w1 r1 => by
    obtain ⟨z, A', hg, q⟩ := y1.lift
    exact hr ρ1 H1 A1 x v z A' Q w1 r1 hg (q.tr g1)
theorem a_cmp {op : CmpOp} {r : R2} {g : G2} (ho : OpR X (compareOp op) r) (hr : R2A X.K r g) (ha : PE X a (S X.K E fa)) (hb : PE X b (S X.K E fb)) (hm : behindInMarks op b = false) : PE X (.Compare a [op] [b] pos) (S X.K E (aBin g fa fb)) :=
  wE (pe_cmpR ho ha hb hm) fun σ H Q ⟨ρ, aσ, A, w, s, y⟩ => SX.mk w s y.bind fun x A1 ρ1 H1 v y1 g1 w1 r1 =>
    SX.mk w1 (s.grow g1) (y1.bind.mono (fun _ _ q => q) fun _ _ q => q.tr g1) fun y A2 ρ2 H2 u y2 g2 w2 r2 => by
      obtain ⟨z, A', hg, q⟩ := y2.lift
      exact hr ρ2 H2 A2 x y v u z A' Q w2 (g2.vr r1) r2 hg ((q.tr g1).tr g2)
theorem chain_sound {K : PySem.W.Frag} {r r' : R2} {g g' : G2} (hr : R2A K r g) (hr' : R2A K r' g') : ∀ σ H Q, S K E (aChain g g' fa fb fc) σ H Q → tChain r r' (S K E fa) (S K E fb) (S K E fc) σ H Q :=
  fun σ H Q ⟨ρ, aσ, A, w, s, y⟩ => (SX.mk w s y.bind fun x A1 ρ1 H1 v y1 g1 w1 r1 =>
    SX.mk w1 (s.grow g1) (y1.bind.mono (fun _ _ q => q) fun _ _ q => q.tr g1) fun y A2 ρ2 H2 u y2 g2 w2 r2 => by
      obtain ⟨z, A', hg, q⟩ := y2.bind.lift
      refine hr ρ2 H2 A2 x y v u z A' _ w2 (g2.vr r1) r2 hg fun ρ3 H3 z' g3 w3 r3 => ?_
      obtain ⟨k, e1, e2, qq⟩ := asB_vr r3 q.bind
      clear e1
      have sr3 := ((s.grow g1).grow g2).grow g3
      have g13 := (g1.trans g2).trans g3
      refine ⟨k, e2, ?_⟩
      cases k with
      | true =>
        refine SX.mk w3 sr3 (qq.bind.mono (fun _ _ q => q) fun _ _ q => q.tr g13) fun u A4 ρ4 H4 u' y4 g4 w4 r4 => ?_
        obtain ⟨z2, A5, hg5, q5⟩ := y4.lift
        exact hr' ρ4 H4 A4 y u _ u' z2 A5 _ w4 (g4.vr (g3.vr r2)) r4 hg5 (q5.tr (g13.trans g4))
      | false => exact qq.pure ρ3 H3 _ g13 w3 (.bl false))
theorem val_sound {K : PySem.W.Frag} : ∀ σ H Q, ST K E (aVal fa) σ H Q → S K E fa σ H fun x H' => ∃ k, x = .bl k ∧ Q k H' := fun σ H Q ⟨ρ, aσ, A, w, s, y⟩ => SX.mk w s y.bind fun x A1 ρ1 H1 v y1 g1 w1 r1 => by
  obtain ⟨b, _, e2, q⟩ := asB_vr r1 y1
  exact ⟨b, e2, q ρ1 H1 b g1 w1 rfl⟩
theorem a_chain {op op' : CmpOp} {r r' : R2} {g g' : G2} (ho : OpR X (compareOp op) r) (hr : R2A X.K r g) (ho' : OpR X (compareOp op') r') (hr' : R2A X.K r' g') (ha : PE X a (S X.K E fa)) (hb : PE X b (S X.K E fb)) (hc : PE X c (S X.K E fc))
    (hm : lastMarks [op, op'] [b, c] = false := by with_unfolding_all rfl) : PE X (.Compare a [op, op'] [b, c] pos) (S X.K E (aChain g g' fa fb fc)) := wE (pe_chain ho ho' ha hb hc hm) (chain_sound hr hr')
theorem t_chain {op op' : CmpOp} {r r' : R2} {g g' : G2} (ho : OpR X (compareOp op) r) (hr : R2A X.K r g) (ho' : OpR X (compareOp op') r') (hr' : R2A X.K r' g') (ha : PE X a (S X.K E fa)) (hb : PE X b (S X.K E fb)) (hc : PE X c (S X.K E fc))
    (hm : lastMarks [op, op'] [b, c] = false := by with_unfolding_all rfl) : PT X (.Compare a [op, op'] [b, c] pos) (ST X.K E (aVal (aChain g g' fa fb fc))) := wT (pt_chain ho ho' ha hb hc hm) fun σ H Q q => chain_sound hr hr' σ H _ (val_sound σ H Q q)

/-! tests -/
theorem t_val {e : Expr} (h : PE X e (S X.K E fa)) (he : ∀ whole, isTrue e X.env whole = (do let v ← whole; standAt e.pos; holding [v] (truthy v)) := by intro _; rfl) : PT X e (ST X.K E (aVal fa)) :=
  wT (pt_val h he) fun σ H Q ⟨ρ, aσ, A, w, s, y⟩ => SX.mk w s y.bind fun x A1 ρ1 H1 v y1 g1 w1 r1 => by
    obtain ⟨b, _, e2, q⟩ := asB_vr r1 y1
    exact ⟨b, e2, q ρ1 H1 b g1 w1 rfl⟩
theorem t_cmp {op : CmpOp} {r : R2} {g : G2} (ho : OpR X (compareOp op) r) (hr : R2A X.K r g) (ha : PE X a (S X.K E fa)) (hb : PE X b (S X.K E fb)) (hm : behindInMarks op b = false) : PT X (.Compare a [op] [b] pos) (ST X.K E (aVal (aBin g fa fb))) :=
  wT (pt_cmpR ho ha hb hm) fun σ H Q ⟨ρ, aσ, A, w, s, y⟩ => SX.mk w s y.bind.bind fun x A1 ρ1 H1 v y1 g1 w1 r1 =>
    SX.mk w1 (s.grow g1) (y1.bind.mono (fun _ _ q => q) fun _ _ q => q.tr g1) fun y A2 ρ2 H2 u y2 g2 w2 r2 => by
      obtain ⟨z, A', hg, q⟩ := y2.lift
      refine hr ρ2 H2 A2 x y v u z A' _ w2 (g2.vr r1) r2 hg fun ρ3 H3 z' g3 w3 r3 => ?_
      obtain ⟨k, e1, e2, q⟩ := asB_vr r3 q
      exact ⟨k, e2, q ρ3 H3 k ((g1.trans g2).trans g3) w3 rfl⟩
theorem w_and1 (ha : PT X a (ST X.K E f)) : PW X (.BoolOp .And [a] pos) (ST X.K E f) := pw_and1 ha
theorem w_or1 (ha : PT X a (ST X.K E f)) : PW X (.BoolOp .Or [a] pos) (ST X.K E f) := pw_or1 ha
theorem w_and {rest : List Expr} (ha : PT X a (ST X.K E f)) (hb : PW X (.BoolOp .And (b :: rest) pos) (ST X.K E g)) : PW X (.BoolOp .And (a :: b :: rest) pos) (ST X.K E (aAnd f g)) :=
  wW (pw_and ha hb) fun σ H Q ⟨ρ, aσ, A, w, s, y⟩ => SX.mk w s y.bind fun x A1 ρ1 H1 v y1 g1 w1 r1 => by
    cases (show x = v from r1)
    cases x with
    | true => exact SX.mk w1 (s.grow g1) (y1.mono (fun _ _ q => q) fun _ _ q => q.tr g1) fun x2 A2 ρ2 H2 v2 q g2 w2 r2 => q ρ2 H2 v2 (g1.trans g2) w2 r2
    | false => exact y1.pure ρ1 H1 false g1 w1 rfl
theorem w_or {rest : List Expr} (ha : PT X a (ST X.K E f)) (hb : PW X (.BoolOp .Or (b :: rest) pos) (ST X.K E g)) : PW X (.BoolOp .Or (a :: b :: rest) pos) (ST X.K E (aOr f g)) :=
  wW (pw_or ha hb) fun σ H Q ⟨ρ, aσ, A, w, s, y⟩ => SX.mk w s y.bind fun x A1 ρ1 H1 v y1 g1 w1 r1 => by
    cases (show x = v from r1)
    cases x with
    | false => exact SX.mk w1 (s.grow g1) (y1.mono (fun _ _ q => q) fun _ _ q => q.tr g1) fun x2 A2 ρ2 H2 v2 q g2 w2 r2 => q ρ2 H2 v2 (g1.trans g2) w2 r2
    | true => exact y1.pure ρ1 H1 true g1 w1 rfl
theorem t_not (ha : PT X a (ST X.K E f)) : PT X (.UnaryOp .Not a pos) (ST X.K E (aNot f)) :=
  wT (pt_not ha) fun σ H Q ⟨ρ, aσ, A, w, s, y⟩ => SX.mk w s y.bind fun x A1 ρ1 H1 v y1 g1 w1 r1 => by
    cases (show x = v from r1)
    exact y1.pure ρ1 H1 _ g1 w1 rfl
/-! bools as values -/
theorem a_one {op} (h : PE X a (S X.K E fa)) : PE X (.BoolOp op [a] pos) (S X.K E fa) := pe_one h
theorem a_and {rest : List Expr} (ha : PE X a (S X.K E fa)) (hb : PE X (.BoolOp .And (b :: rest) pos) (S X.K E fb)) : PE X (.BoolOp .And (a :: b :: rest) pos) (S X.K E (aAndV fa fb)) :=
  wE (pe_and ha hb) fun σ H Q ⟨ρ, aσ, A, w, s, y⟩ => SX.mk w s y.bind fun x A1 ρ1 H1 v y1 g1 w1 r1 => by
    obtain ⟨k, e1, e2, q⟩ := asB_vr r1 y1.bind
    refine ⟨k, e2, ?_⟩
    cases k with
    | true => exact SX.mk w1 (s.grow g1) (q.mono (fun _ _ q => q) fun _ _ q => q.tr g1) fun x2 A2 ρ2 H2 v2 q g2 w2 r2 => q ρ2 H2 v2 (g1.trans g2) w2 r2
    | false => exact q.pure ρ1 H1 _ g1 w1 (.bl false)
theorem a_or {rest : List Expr} (ha : PE X a (S X.K E fa)) (hb : PE X (.BoolOp .Or (b :: rest) pos) (S X.K E fb)) : PE X (.BoolOp .Or (a :: b :: rest) pos) (S X.K E (aOrV fa fb)) :=
  wE (pe_or ha hb) fun σ H Q ⟨ρ, aσ, A, w, s, y⟩ => SX.mk w s y.bind fun x A1 ρ1 H1 v y1 g1 w1 r1 => by
    obtain ⟨k, e1, e2, q⟩ := asB_vr r1 y1.bind
    refine ⟨k, e2, ?_⟩
    cases k with
    | false => exact SX.mk w1 (s.grow g1) (q.mono (fun _ _ q => q) fun _ _ q => q.tr g1) fun x2 A2 ρ2 H2 v2 q g2 w2 r2 => q ρ2 H2 v2 (g1.trans g2) w2 r2
    | true => exact q.pure ρ1 H1 _ g1 w1 (.bl true)
theorem a_not (ha : PE X a (S X.K E fa)) : PE X (.UnaryOp .Not a pos) (S X.K E (aNotV fa)) :=
  wE (pe_not ha) fun σ H Q ⟨ρ, aσ, A, w, s, y⟩ => SX.mk w s y.bind fun x A1 ρ1 H1 v y1 g1 w1 r1 => by
    obtain ⟨k, e1, e2, q⟩ := asB_vr r1 y1.bind
    exact ⟨k, e2, q.pure ρ1 H1 _ g1 w1 (.bl _)⟩
theorem a_if (hc : PT X c (ST X.K E f)) (ha : PE X a (S X.K E fa)) (hb : PE X b (S X.K E fb)) : PE X (.IfExp c a b pos) (S X.K E (aIf f fa fb)) :=
  wE (pe_ifExp hc ha hb) fun σ H Q ⟨ρ, aσ, A, w, s, y⟩ => SX.mk w s y.bind fun x A1 ρ1 H1 v y1 g1 w1 r1 => by
    cases (show x = v from r1)
    cases x with
    | true => exact SX.mk w1 (s.grow g1) (y1.mono (fun _ _ q => q) fun _ _ q => q.tr g1) fun x2 A2 ρ2 H2 v2 q g2 w2 r2 => q ρ2 H2 v2 (g1.trans g2) w2 r2
    | false => exact SX.mk w1 (s.grow g1) (y1.mono (fun _ _ q => q) fun _ _ q => q.tr g1) fun x2 A2 ρ2 H2 v2 q g2 w2 r2 => q ρ2 H2 v2 (g1.trans g2) w2 r2
/-! argument lists, displays -/
theorem l_nil : PA X [] (SL X.K E aNil) := wA pa_nil fun σ H Q ⟨ρ, aσ, A, w, s, y⟩ => y.pure ρ H [] Grow.refl w .nil
theorem l_cons (ha : PE X e (S X.K E fa)) (hr : PA X es (SL X.K E fl)) (hs : starEach (e :: es) X.env = (false, eval e X.env) :: starEach es X.env := by rfl) : PA X (e :: es) (SL X.K E (aCons fa fl)) :=
  wA (pa_cons ha hr hs) fun σ H Q ⟨ρ, aσ, A, w, s, y⟩ => SX.mk w s y.bind fun x A1 ρ1 H1 v y1 g1 w1 r1 =>
    SX.mk w1 (s.grow g1) (y1.bind.mono (fun _ _ q => q) fun _ _ q => q.tr g1) fun xs A2 ρ2 H2 vs y2 g2 w2 r2 => y2.pure ρ2 H2 _ (g1.trans g2) w2 (.cons (g2.vr r1) r2)
theorem a_tup {x1} (h : PA X es (SL X.K E fl)) : PE X (.Tuple es x1 pos) (S X.K E (aTup fl)) :=
  wE (pe_tup h) fun σ H Q ⟨ρ, aσ, A, w, s, y⟩ => SX.mk w s y.bind fun xs A1 ρ1 H1 vs y1 g1 w1 r1 => by
    obtain ⟨z, A', hg, q⟩ := y1.lift
    unfold gTupOf at hg
    cases hz : szOk xs.length with
    | false => rw [hz] at hg; cases hg
    | true =>
      rw [hz] at hg
      cases hg
      refine ⟨by rw [← r1.length]; exact szOk_of hz, fun p hp => ?_⟩
      obtain ⟨w2, g2⟩ := w1.out (u := .tup vs) hp
      exact q ρ1 _ _ (g1.trans g2) w2 (.tup (Evl.st_of upd_same) (g2.vrs r1))
theorem a_lst (h : PA X es (SL X.K E fl)) : PE X (.List es pos) (S X.K E (aLst fl)) :=
  wE (pe_lst h) fun σ H Q ⟨ρ, aσ, A, w, s, y⟩ => SX.mk w s y.bind fun xs A1 ρ1 H1 vs y1 g1 w1 r1 => by
    obtain ⟨z, A', hg, q⟩ := y1.lift
    unfold gLstOf at hg
    cases hz : szOk xs.length with
    | false => rw [hz] at hg; cases hg
    | true =>
      rw [hz] at hg
      cases hg
      refine ⟨by rw [← r1.length]; exact szOk_of hz, fun p hp => ?_⟩
      obtain ⟨_, g0⟩ := w1.out (u := .lst vs) hp
      obtain ⟨w2, g2⟩ := w1.new (u := .lst vs) (o := .lst xs) hp ⟨vs, upd_same, r1.mono g0.tx [p]⟩
      exact q _ _ _ (g1.trans g2) w2 (.ref (by rw [← w1.len]; simp))
/-! calls of built-ins -/
theorem a_cb {r : List V → Hp → VK → Prop} {g : GL} (hr : RLA X.K r g) {fl : ASt → M (List AV)} (h : PE X e (tCB r (SL X.K E fl))) : PE X e (S X.K E (aCB g fl)) :=
  wE h fun σ H Q ⟨ρ, aσ, A, w, s, y⟩ => SX.mk w s y.bind fun xs A1 ρ1 H1 vs y1 g1 w1 r1 => by
    obtain ⟨z, A', hg, q⟩ := y1.lift
    exact hr ρ1 H1 A1 xs vs z A' Q w1 r1 hg (q.tr g1)
end
end AX

set_option Elab.async false
set_option linter.all false
set_option maxRecDepth 100000
set_option maxHeartbeats 4000000
/-! AX3: operators, comparisons, items, slices, built-in calls, by values. -/
namespace AX
open PySem PySem.Spec PyProof.Rows L2

/-! ### data -/
mutual
def AV.d : AV → Option PyData
  | .non => some .none
  | .bl b => some (.bool b)
  | .int i => some (.int i)
  | .str x => some (.str x)
  | .tup xs => (AV.ds xs).map .tuple
  | _ => none
def AV.ds : List AV → Option (List PyData)
  | [] => some []
  | x :: xs => match x.d, AV.ds xs with
    | some a, some b => some (a :: b)
    | _, _ => none
end
def toD (A : AH) : AV → Option PyData
  | .ref i => match A[i]? with
    | some (.lst xs) => (AV.ds xs).map .list
    | _ => none
  | x => x.d
section
variable {K : PySem.W.Frag} {ρ : List Addr} {H : Hp} {A : AH}
mutual
theorem VR.dp : ∀ {x : AV} {v : V} {d : PyData}, VR K ρ H x v → x.d = some d → Dp K H v d
  | _, _, _, .non, e => by cases e; exact .non
  | _, _, _, .bl b, e => by cases e; exact .bl b
  | _, _, _, .int i, e => by cases e; exact .int i
  | _, _, _, .str x, e => by cases e; exact .str x
  | _, _, _, .tup (xs := xs) h hs, e => by
    unfold AV.d at e
    cases q : AV.ds xs with
    | none => rw [q] at e; cases e
    | some ds =>
      rw [q] at e
      cases e
      exact .tup h (VRs.dp hs q)
  | _, _, _, .tud h hs, e => by cases e
  | _, _, _, .lsf h hs, e => by cases e
  | _, _, _, .ref h, e => by cases e
  | _, _, _, .fn n, e => by cases e
  | _, _, _, .ty n, e => by cases e
theorem VRs.dp : ∀ {xs : List AV} {vs : List V} {ds : List PyData}, VRs K ρ H xs vs → AV.ds xs = some ds → DpAll K H vs ds
  | _, _, _, .nil, e => by cases e; exact .nil
  | _, _, _, .cons (x := x) (xs := xs) h hs, e => by
    unfold AV.ds at e
    cases q : x.d with
    | none => rw [q] at e; cases e
    | some d =>
      cases q2 : AV.ds xs with
      | none => rw [q, q2] at e; cases e
      | some ds =>
        rw [q, q2] at e
        cases e
        exact .cons (VR.dp h q) (VRs.dp hs q2)
end
theorem Wd.dp (w : Wd K ρ H A) {x : AV} {v : V} {d : PyData} (h : VR K ρ H x v) (e : toD A x = some d) : Dp K H v d := by
  cases x with
  | ref i =>
    obtain ⟨a, rfl, ha⟩ := h.ref_eq
    unfold toD at e
    dsimp only at e
    cases q : A[i]? with
    | none => rw [q] at e; cases e
    | some o =>
      cases o with
      | lst xs =>
        rw [q] at e
        dsimp only at e
        cases q2 : AV.ds xs with
        | none => rw [q2] at e; cases e
        | some ds =>
          rw [q2] at e
          cases e
          obtain ⟨vs, e1, r⟩ := w.obj ha q
          exact .lst (Evl.sq_of e1) (r.dp q2)
      | _ => rw [q] at e; cases e
  | _ => exact h.dp e
end
/-- one value -/
theorem fin0 {K : PySem.W.Frag} {ρ : List Addr} {H : Hp} {A : AH} {z : AV} {v : V} {Q : VK} (w : Wd K ρ H A) (r : VR K ρ H z v) (q : Post K (VR K) ρ H z A Q) : Q v H := q ρ H v Grow.refl w r
theorem finT {K : PySem.W.Frag} {ρ : List Addr} {H : Hp} {A : AH} {xs : List AV} {vs : List V} {Q : VK} (w : Wd K ρ H A) (r : VRs K ρ H xs vs) (q : Post K (VR K) ρ H (.tup xs) A Q) {p : Addr} (hp : H p = none) : Q (.ref p) (upd H p (.tup vs)) := by
  obtain ⟨w2, g2⟩ := w.out (u := .tup vs) hp
  exact q ρ _ _ g2 w2 (.tup (Evl.st_of upd_same) (g2.vrs r))
theorem finL {K : PySem.W.Frag} {ρ : List Addr} {H : Hp} {A : AH} {xs : List AV} {vs : List V} {Q : VK} (w : Wd K ρ H A) (r : VRs K ρ H xs vs) (q : Post K (VR K) ρ H (.ref A.length) (A ++ [.lst xs]) Q) {p : Addr} (hp : H p = none) : Q (.ref p) (upd H p (.lst vs)) := by
  obtain ⟨_, g0⟩ := w.out (u := .lst vs) hp
  obtain ⟨w2, g2⟩ := w.new (u := .lst vs) (o := .lst xs) hp ⟨vs, upd_same, r.mono g0.tx [p]⟩
  exact q _ _ _ g2 w2 (.ref (by rw [← w.len]; simp))
theorem finS {K : PySem.W.Frag} {ρ : List Addr} {H : Hp} {A : AH} {i : Nat} {a : Addr} {xs : List AV} {vs : List V} {z : AV} {v : V} {Q : VK} (w : Wd K ρ H A) (ha : ρ[i]? = some a) (r : VRs K ρ H xs vs) (rz : VR K ρ H z v) (q : Post K (VR K) ρ H z (A.set i (.lst xs)) Q) : Q v (upd H a (.lst vs)) := by
  have tx : Tx H (upd H a (.lst vs)) := tx_upd (w.notup (List.mem_of_getElem? ha)) (w.noxd (List.mem_of_getElem? ha))
  obtain ⟨w2, g2⟩ := w.store (u := .lst vs) (o := .lst xs) ha ⟨vs, upd_same, by have := r.mono tx []; rwa [List.append_nil] at this⟩
  exact q ρ _ _ g2 w2 (g2.vr rz)
theorem Wd.lst {K : PySem.W.Frag} {ρ : List Addr} {H : Hp} {A : AH} (w : Wd K ρ H A) {i : Nat} {v : V} {xs : List AV} (h : VR K ρ H (.ref i) v) (e : A[i]? = some (.lst xs)) : ∃ a vs, v = .ref a ∧ ρ[i]? = some a ∧ H a = some (.lst vs) ∧ VRs K ρ H xs vs := by
  obtain ⟨a, rfl, ha⟩ := h.ref_eq
  obtain ⟨vs, e1, r⟩ := w.obj ha e
  exact ⟨a, vs, rfl, ha, e1, r⟩

/-! ### operators -/
def gII (c : Int → Int → Bool) (f : Int → Int → Int) : G2 := fun x y A => match x, y with
  | .int i, .int j => match c i j with
    | true => some (.int (f i j), A)
    | false => none
  | _, _ => none
def gIB (f : Int → Int → Bool) : G2 := fun x y A => match x, y with
  | .int i, .int j => some (.bl (f i j), A)
  | _, _ => none
theorem r_II {K : PySem.W.Frag} {C : Int → Int → Prop} {c : Int → Int → Bool} {f : Int → Int → Int} (h : ∀ i j, c i j = true → C i j) : R2A K (rI C fun i j => .int (f i j)) (gII c f) := by
  intro ρ H A x y v u z A' Q w rx ry e q
  cases x with
  | int i =>
    cases y with
    | int j =>
      cases hc : c i j with
      | false => simp only [gII, hc] at e; cases e
      | true =>
        simp only [gII, hc] at e
        cases e
        exact ⟨i, j, rx.int_eq, ry.int_eq, h i j hc, fin0 w (.int _) q⟩
    | _ => cases e
  | _ => cases e
theorem r_II0 {K : PySem.W.Frag} {f : Int → Int → Int} : R2A K (rI0 fun i j => .int (f i j)) (gII (fun _ _ => true) f) := by
  intro ρ H A x y v u z A' Q w rx ry e q
  obtain ⟨i, j, h1, h2, _, h3⟩ := r_II (C := fun _ _ => True) (fun _ _ _ => trivial) ρ H A x y v u z A' Q w rx ry e q
  exact ⟨i, j, h1, h2, h3⟩
theorem r_IB {K : PySem.W.Frag} {f : Int → Int → Bool} : R2A K (rI0 fun i j => .bl (f i j)) (gIB f) := by
  intro ρ H A x y v u z A' Q w rx ry e q
  cases x with
  | int i =>
    cases y with
    | int j =>
      cases e
      exact ⟨i, j, rx.int_eq, ry.int_eq, fin0 w (.bl _) q⟩
    | _ => cases e
  | _ => cases e
/-- + -/
def gAdd : G2 := fun x y A => match x, y with
  | .int i, .int j => some (.int (i + j), A)
  | .str a, .str b => match szOk (a.length + b.length) with
    | true => some (.str (a ++ b), A)
    | false => none
  | .tup xs, .tup ys => match szOk (xs.length + ys.length) with
    | true => some (.tup (xs ++ ys), A)
    | false => none
  | .ref i, .ref j => match A[i]?, A[j]? with
    | some (.lst xs), some (.lst ys) => match szOk (xs.length + ys.length) with
      | true => some (.ref A.length, A ++ [.lst (xs ++ ys)])
      | false => none
    | _, _ => none
  | _, _ => none
def rAddX (K : PySem.W.Frag) : R2 := fun x y H Q => rI0 (fun i j => .int (i + j)) x y H Q ∨ (∃ i j, x = .str i ∧ y = .str j ∧ i.length + j.length ≤ sizeLine ∧ Q (.str (i ++ j)) H) ∨ rCatA K x y H Q ∨ rCat x y H Q
theorem o_add {X : Cx} : OpR X (binaryOp .Add) (rAddX X.K) := op_add.or (op_add_str.or (op_catA.or op_cat))
theorem r_add {K : PySem.W.Frag} : R2A K (rAddX K) gAdd := by
  intro ρ H A x y v u z A' Q w rx ry e q
  cases x with
  | int i =>
    cases y with
    | int j => cases e; exact .inl ⟨i, j, rx.int_eq, ry.int_eq, fin0 w (.int _) q⟩
    | _ => cases e
  | str a =>
    cases y with
    | str b =>
      cases hc : szOk (a.length + b.length) with
      | false => simp only [gAdd, hc] at e; cases e
      | true =>
        simp only [gAdd, hc] at e
        cases e
        exact .inr (.inl ⟨a, b, rx.str_eq, ry.str_eq, szOk_of hc, fin0 w (.str _) q⟩)
    | _ => cases e
  | tup xs =>
    cases y with
    | tup ys =>
      cases hc : szOk (xs.length + ys.length) with
      | false => simp only [gAdd, hc] at e; cases e
      | true =>
        simp only [gAdd, hc] at e
        cases e
        obtain ⟨a, vs, rfl, h1, r1⟩ := rx.tup_eq
        obtain ⟨b, us, rfl, h2, r2⟩ := ry.tup_eq
        refine .inr (.inr (.inl ⟨a, b, vs, us, rfl, rfl, h1, h2, by rw [← r1.length, ← r2.length]; exact szOk_of hc, fun e0 => ?_, fun _ e0 => ?_, fun _ _ p hp => ?_⟩))
        · subst e0
          cases r1
          exact fin0 w (.tup h2 r2) q
        · subst e0
          cases r2
          rw [List.append_nil] at q
          exact fin0 w (.tup h1 r1) q
        · exact finT w (r1.append r2) q hp
    | _ => cases e
  | ref i =>
    cases y with
    | ref j =>
      cases hi : A[i]? with
      | none => simp only [gAdd, hi] at e; cases e
      | some o =>
        cases o with
        | lst xs =>
          cases hj : A[j]? with
          | none => simp only [gAdd, hi, hj] at e; cases e
          | some o2 =>
            cases o2 with
            | lst ys =>
              cases hc : szOk (xs.length + ys.length) with
              | false => simp only [gAdd, hi, hj, hc] at e; cases e
              | true =>
                simp only [gAdd, hi, hj, hc] at e
                cases e
                obtain ⟨a, vs, rfl, _, h1, r1⟩ := w.lst rx hi
                obtain ⟨b, us, rfl, _, h2, r2⟩ := w.lst ry hj
                exact .inr (.inr (.inr ⟨a, b, vs, us, rfl, rfl, h1, h2, by rw [← r1.length, ← r2.length]; exact szOk_of hc, fun p hp => finL w (r1.append r2) q hp⟩))
            | _ => simp only [gAdd, hi, hj] at e; cases e
        | _ => simp only [gAdd, hi] at e; cases e
    | _ => cases e
  | _ => cases e
/-- * -/
def cMul (i j : Int) : Bool := (decide (-(2 ^ 64) < i) && decide (i < 2 ^ 64)) || (decide (-(2 ^ 64) < j) && decide (j < 2 ^ 64))
theorem cMul_ok {i j : Int} (h : cMul i j = true) : CMul i j := by
  unfold cMul at h
  simp only [Bool.or_eq_true, Bool.and_eq_true, decide_eq_true_eq] at h
  exact h
def gMul : G2 := fun x y A => match x, y with
  | .int i, .int j => match cMul i j with
    | true => some (.int (i * j), A)
    | false => none
  | .ref i, .int k => match A[i]? with
    | some (.lst xs) => match szOk (xs.length * k.toNat) && decide (k < 1000000) && decide (-1000000 < k) with
      | true => some (.ref A.length, A ++ [.lst (List.replicate k.toNat xs).flatten])
      | false => none
    | _ => none
  | _, _ => none
theorem VRs.rep {K : PySem.W.Frag} {ρ : List Addr} {H : Hp} {xs : List AV} {vs : List V} (r : VRs K ρ H xs vs) : ∀ n : Nat, VRs K ρ H (List.replicate n xs).flatten (List.replicate n vs).flatten
  | 0 => .nil
  | n + 1 => by
    rw [List.replicate_succ, List.replicate_succ, List.flatten_cons, List.flatten_cons]
    exact r.append (VRs.rep r n)
theorem o_mul {X : Cx} : OpR X (binaryOp .Mult) (fun x y H Q => rI CMul (fun i j => .int (i * j)) x y H Q ∨ rRep x y H Q) := op_mul.or op_rep
theorem r_mul {K : PySem.W.Frag} : R2A K (fun x y H Q => rI CMul (fun i j => .int (i * j)) x y H Q ∨ rRep x y H Q) gMul := by
  intro ρ H A x y v u z A' Q w rx ry e q
  cases x with
  | int i =>
    cases y with
    | int j =>
      cases hc : cMul i j with
      | false => simp only [gMul, hc] at e; cases e
      | true =>
        simp only [gMul, hc] at e
        cases e
        exact .inl ⟨i, j, rx.int_eq, ry.int_eq, cMul_ok hc, fin0 w (.int _) q⟩
    | _ => cases e
  | ref i =>
    cases y with
    | int k =>
      cases hi : A[i]? with
      | none => simp only [gMul, hi] at e; cases e
      | some o =>
        cases o with
        | lst xs =>
          cases hc : szOk (xs.length * k.toNat) && decide (k < 1000000) && decide (-1000000 < k) with
          | false => simp only [gMul, hi, hc] at e; cases e
          | true =>
            simp only [gMul, hi, hc] at e
            cases e
            simp only [Bool.and_eq_true, decide_eq_true_eq] at hc
            obtain ⟨a, vs, rfl, _, h1, r1⟩ := w.lst rx hi
            exact .inr ⟨a, k, vs, rfl, ry.int_eq, h1, by omega, by omega, by rw [← r1.length]; exact szOk_of hc.1.1, fun p hp => finL w (r1.rep k.toNat) q hp⟩
        | _ => simp only [gMul, hi] at e; cases e
    | _ => cases e
  | _ => cases e
def cPos (_ j : Int) : Bool := decide (0 < j)
theorem cPos_ok {i j : Int} (h : cPos i j = true) : 0 < j := of_decide_eq_true h
def cDiv (_ j : Int) : Bool := decide (0 < j) && Nat.blt j.natAbs.log2 9000
theorem cDiv_ok {i j : Int} (h : cDiv i j = true) : CDivW i j := by
  unfold cDiv at h
  rw [Bool.and_eq_true] at h
  exact ⟨of_decide_eq_true h.1, Nat.blt_eq.mp h.2⟩

/-! ### comparisons -/
def natsEq : List Nat → List Nat → Bool
  | [], [] => true
  | a :: r, b :: s => match Nat.beq a b with
    | true => natsEq r s
    | false => false
  | _, _ => false
theorem natsEq_eq : ∀ a b : List Nat, natsEq a b = decide (a = b)
  | [], [] => rfl
  | [], _ :: _ => rfl
  | _ :: _, [] => rfl
  | a :: r, b :: s => by
    unfold natsEq
    cases h : Nat.beq a b with
    | true =>
      have e := Nat.eq_of_beq_eq_true h
      subst e
      rw [natsEq_eq r s]
      simp
    | false =>
      have e := Nat.ne_of_beq_eq_false h
      simp [e]
def strB (a b : Str) : Bool := natsEq a.cps.toList b.cps.toList
theorem str_ext {a b : Str} (h : a.cps.toList = b.cps.toList) : a = b := by
  cases a with
  | mk a => cases b with
    | mk b =>
      have : a = b := by cases a; cases b; exact congrArg _ h
      rw [this]
theorem strB_eq (a b : Str) : strB a b = decide (V.str a = V.str b) := by
  unfold strB
  rw [natsEq_eq, Bool.eq_iff_iff, decide_eq_true_eq, decide_eq_true_eq]
  exact ⟨fun h => by rw [str_ext h], fun h => by injection h with h; rw [h]⟩
def eqX (A : AH) (x y : AV) : Option Bool := match x, y with
  | .str a, .str b => some (strB a b)
  | .int i, .int j => some (decide (i = j))
  | x, y => match toD A x, toD A y with
    | some d, some e => match SeqAt.shaped d && SeqAt.shaped e with
      | true => some (PyData.eqv d e)
      | false => none
    | _, _ => none
def gEq : G2 := fun x y A => match eqX A x y with
  | some b => some (.bl b, A)
  | none => none
def gNe : G2 := fun x y A => match eqX A x y with
  | some b => some (.bl (!b), A)
  | none => none
theorem eqX_yes {K : PySem.W.Frag} {ρ : List Addr} {H : Hp} {A : AH} {x y : AV} {v u : V} {b : Bool} (w : Wd K ρ H A) (rx : VR K ρ H x v) (ry : VR K ρ H y u) (h : eqX A x y = some b) :
    (scal v u = true ∧ b = decide (v = u)) ∨ ∃ d e, Dp K H v d ∧ Dp K H u e ∧ SeqAt.shaped d = true ∧ SeqAt.shaped e = true ∧ b = PyData.eqv d e := by
  have gen : (match toD A x, toD A y with
    | some d, some e => match SeqAt.shaped d && SeqAt.shaped e with
      | true => some (PyData.eqv d e)
      | false => none
    | _, _ => none) = some b → ∃ d e, Dp K H v d ∧ Dp K H u e ∧ SeqAt.shaped d = true ∧ SeqAt.shaped e = true ∧ b = PyData.eqv d e := fun h => by
    cases h1 : toD A x with
    | none => rw [h1] at h; cases h
    | some d =>
      cases h2 : toD A y with
      | none => rw [h1, h2] at h; cases h
      | some e =>
        rw [h1, h2] at h
        dsimp only at h
        cases h3 : SeqAt.shaped d && SeqAt.shaped e with
        | false => rw [h3] at h; cases h
        | true =>
          rw [h3] at h
          cases h
          rw [Bool.and_eq_true] at h3
          exact ⟨d, e, w.dp rx h1, w.dp ry h2, h3.1, h3.2, rfl⟩
  unfold eqX at h
  split at h
  · cases h
    cases rx.str_eq
    cases ry.str_eq
    exact .inl ⟨rfl, strB_eq _ _⟩
  · cases h
    cases rx.int_eq
    cases ry.int_eq
    refine .inl ⟨rfl, ?_⟩
    simp
  · exact .inr (gen h)
def rEqX (K : PySem.W.Frag) : R2 := fun x y H Q => rEq x y H Q ∨ rEqD K x y H Q
def rNeX (K : PySem.W.Frag) : R2 := fun x y H Q => rNe x y H Q ∨ rNeD K x y H Q
theorem o_eq {X : Cx} (hu : X.A.units + 64 < cLine) : OpR X (compareOp .Eq) (rEqX X.K) := op_eq.or (op_eqD hu)
theorem o_ne {X : Cx} (hu : X.A.units + 64 < cLine) : OpR X (compareOp .NotEq) (rNeX X.K) := op_ne.or (op_neD hu)
theorem r_eq {K : PySem.W.Frag} : R2A K (rEqX K) gEq := by
  intro ρ H A x y v u z A' Q w rx ry e q
  unfold gEq at e
  cases h : eqX A x y with
  | none => rw [h] at e; cases e
  | some b =>
    rw [h] at e
    cases e
    rcases eqX_yes w rx ry h with ⟨h1, h2⟩ | ⟨d, e, h1, h2, h3, h4, h5⟩
    · exact .inl ⟨h1, by rw [← h2]; exact fin0 w (.bl _) q⟩
    · exact .inr ⟨d, e, h1, h2, h3, h4, by rw [← h5]; exact fin0 w (.bl _) q⟩
theorem r_ne {K : PySem.W.Frag} : R2A K (rNeX K) gNe := by
  intro ρ H A x y v u z A' Q w rx ry e q
  unfold gNe at e
  cases h : eqX A x y with
  | none => rw [h] at e; cases e
  | some b =>
    rw [h] at e
    cases e
    rcases eqX_yes w rx ry h with ⟨h1, h2⟩ | ⟨d, e, h1, h2, h3, h4, h5⟩
    · exact .inl ⟨h1, by rw [← h2]; exact fin0 w (.bl _) q⟩
    · exact .inr ⟨d, e, h1, h2, h3, h4, by rw [← h5]; exact fin0 w (.bl _) q⟩
/-- is None -/
def isN : AV → Bool
  | .non => true
  | _ => false
theorem isN_eq {K : PySem.W.Frag} {ρ : List Addr} {H : Hp} {x : AV} {v : V} (r : VR K ρ H x v) : isN x = decide (v = .non) := by cases r <;> rfl
def gIs : G2 := fun x y A => match y with
  | .non => some (.bl (isN x), A)
  | .bl b => match x with
    | .bl a => some (.bl (decide (a = b)), A)
    | _ => none
  | _ => none
def gIsNot : G2 := fun x y A => match y with
  | .non => some (.bl (!isN x), A)
  | .bl b => match x with
    | .bl a => some (.bl (!decide (a = b)), A)
    | _ => none
  | _ => none
theorem o_is {X : Cx} : OpR X (compareOp .Is) (fun x y H Q => (y = .non ∧ Q (.bl (decide (x = .non))) H) ∨ rIsB x y H Q) := op_isN.or op_isBl
theorem o_isnot {X : Cx} : OpR X (compareOp .IsNot) (fun x y H Q => (y = .non ∧ Q (.bl (!decide (x = .non))) H) ∨ rNotB x y H Q) := op_notN.or op_notBl
theorem r_is {K : PySem.W.Frag} : R2A K (fun x y H Q => (y = .non ∧ Q (.bl (decide (x = .non))) H) ∨ rIsB x y H Q) gIs := by
  intro ρ H A x y v u z A' Q w rx ry e q
  cases y with
  | non => cases e; exact .inl ⟨ry.non_eq, by rw [← isN_eq rx]; exact fin0 w (.bl _) q⟩
  | bl b =>
    cases x with
    | bl a => cases e; exact .inr ⟨a, b, rx.bl_eq, ry.bl_eq, fin0 w (.bl _) q⟩
    | _ => cases e
  | _ => cases e
theorem r_isnot {K : PySem.W.Frag} : R2A K (fun x y H Q => (y = .non ∧ Q (.bl (!decide (x = .non))) H) ∨ rNotB x y H Q) gIsNot := by
  intro ρ H A x y v u z A' Q w rx ry e q
  cases y with
  | non => cases e; exact .inl ⟨ry.non_eq, by rw [← isN_eq rx]; exact fin0 w (.bl _) q⟩
  | bl b =>
    cases x with
    | bl a => cases e; exact .inr ⟨a, b, rx.bl_eq, ry.bl_eq, fin0 w (.bl _) q⟩
    | _ => cases e
  | _ => cases e
/-- in, not in: a sign in a text, data among the items of a tuple or a list -/
def inX (A : AH) (x y : AV) : Option Bool := match y with
  | .str z => match x with
    | .str ⟨⟨[c]⟩⟩ => some (decide (c ∈ z.cps.toList))
    | _ => none
  | y => match x.d, toD A y with
    | some d, some (.tuple ds) => match SeqAt.shaped d && SeqAt.shaped (.tuple ds) with
      | true => some (ds.any fun z => PyData.eqv z d)
      | false => none
    | some d, some (.list ds) => match SeqAt.shaped d && SeqAt.shaped (.list ds) with
      | true => some (ds.any fun z => PyData.eqv z d)
      | false => none
    | _, _ => none
def gIn : G2 := fun x y A => match inX A x y with
  | some b => some (.bl b, A)
  | none => none
def gNotIn : G2 := fun x y A => match inX A x y with
  | some b => some (.bl (!b), A)
  | none => none
def rInTD (K : PySem.W.Frag) : R2 := fun x y H Q => ∃ d ds, Dp K H x d ∧ Dp K H y (.tuple ds) ∧ SeqAt.shaped d = true ∧ SeqAt.shaped (.tuple ds) = true ∧ Q (.bl (ds.any fun z => PyData.eqv z d)) H
def rNotInTD (K : PySem.W.Frag) : R2 := fun x y H Q => ∃ d ds, Dp K H x d ∧ Dp K H y (.tuple ds) ∧ SeqAt.shaped d = true ∧ SeqAt.shaped (.tuple ds) = true ∧ Q (.bl (!ds.any fun z => PyData.eqv z d)) H
theorem op_inTD {X : Cx} (hu : X.A.units + 65 < cLine) : OpR X (compareOp .In) (rInTD X.K) := by
  intro pins s σ H x y v u Q I rx ry h
  obtain ⟨d, ds, hd, he, sd, se, q⟩ := h
  obtain ⟨as, r1⟩ := Dp.reads I d x v hd rx
  obtain ⟨bs, r2⟩ := Dp.reads I (.tuple ds) y u he ry
  exact SeqAt.in_tuple_reads r2 r1 (SeqAt.canLay_of_shaped se) (SeqAt.canLay_of_shaped sd) (room_in_shaped sd hu) ⟨.bl _, H, I, rfl, q⟩
theorem op_notInTD {X : Cx} (hu : X.A.units + 65 < cLine) : OpR X (compareOp .NotIn) (rNotInTD X.K) := by
  intro pins s σ H x y v u Q I rx ry h
  obtain ⟨d, ds, hd, he, sd, se, q⟩ := h
  obtain ⟨as, r1⟩ := Dp.reads I d x v hd rx
  obtain ⟨bs, r2⟩ := Dp.reads I (.tuple ds) y u he ry
  exact SeqAt.notIn_tuple_reads r2 r1 (SeqAt.canLay_of_shaped se) (SeqAt.canLay_of_shaped sd) (room_in_shaped sd hu) ⟨.bl _, H, I, rfl, q⟩
def rInX (K : PySem.W.Frag) : R2 := fun x y H Q => (∃ (c : Nat) (z : Str), x = .str ⟨#[c]⟩ ∧ y = .str z ∧ Q (.bl (decide (c ∈ z.cps.toList))) H) ∨ rInTD K x y H Q ∨ rInD K x y H Q
def rNotInX (K : PySem.W.Frag) : R2 := fun x y H Q => (∃ (c : Nat) (z : Str), x = .str ⟨#[c]⟩ ∧ y = .str z ∧ Q (.bl (!decide (c ∈ z.cps.toList))) H) ∨ rNotInTD K x y H Q ∨ rNotInD K x y H Q
theorem o_in {X : Cx} (hu : X.A.units + 65 < cLine) : OpR X (compareOp .In) (rInX X.K) := op_in_sign.or ((op_inTD hu).or (op_inD hu))
theorem o_notin {X : Cx} (hu : X.A.units + 65 < cLine) : OpR X (compareOp .NotIn) (rNotInX X.K) := op_notIn_sign.or ((op_notInTD hu).or (op_notInD hu))
theorem inX_yes {K : PySem.W.Frag} {ρ : List Addr} {H : Hp} {A : AH} {x y : AV} {v u : V} {b : Bool} (w : Wd K ρ H A) (rx : VR K ρ H x v) (ry : VR K ρ H y u) (h : inX A x y = some b) :
    (∃ (c : Nat) (z : Str), v = .str ⟨#[c]⟩ ∧ u = .str z ∧ b = decide (c ∈ z.cps.toList)) ∨
    (∃ d ds, Dp K H v d ∧ Dp K H u (.tuple ds) ∧ SeqAt.shaped d = true ∧ SeqAt.shaped (.tuple ds) = true ∧ b = ds.any fun z => PyData.eqv z d) ∨
    ∃ d ds, Dp K H v d ∧ Dp K H u (.list ds) ∧ SeqAt.shaped d = true ∧ SeqAt.shaped (.list ds) = true ∧ b = ds.any fun z => PyData.eqv z d := by
  unfold inX at h
  split at h
  · split at h
    · cases h
      exact .inl ⟨_, _, rx.str_eq, ry.str_eq, rfl⟩
    · cases h
  · split at h
    · rename_i h1 h2
      split at h
      · rename_i h3
        cases h
        rw [Bool.and_eq_true] at h3
        exact .inr (.inl ⟨_, _, rx.dp h1, w.dp ry h2, h3.1, h3.2, rfl⟩)
      · cases h
    · rename_i h1 h2
      split at h
      · rename_i h3
        cases h
        rw [Bool.and_eq_true] at h3
        exact .inr (.inr ⟨_, _, rx.dp h1, w.dp ry h2, h3.1, h3.2, rfl⟩)
      · cases h
    · cases h
theorem r_in {K : PySem.W.Frag} : R2A K (rInX K) gIn := by
  intro ρ H A x y v u z A' Q w rx ry e q
  unfold gIn at e
  cases h : inX A x y with
  | none => rw [h] at e; cases e
  | some b =>
    rw [h] at e
    cases e
    rcases inX_yes w rx ry h with ⟨c, z, h1, h2, h3⟩ | ⟨d, ds, h1, h2, h3, h4, h5⟩ | ⟨d, ds, h1, h2, h3, h4, h5⟩
    · exact .inl ⟨c, z, h1, h2, by rw [← h3]; exact fin0 w (.bl _) q⟩
    · exact .inr (.inl ⟨d, ds, h1, h2, h3, h4, by rw [← h5]; exact fin0 w (.bl _) q⟩)
    · exact .inr (.inr ⟨d, ds, h1, h2, h3, h4, by rw [← h5]; exact fin0 w (.bl _) q⟩)
theorem r_notin {K : PySem.W.Frag} : R2A K (rNotInX K) gNotIn := by
  intro ρ H A x y v u z A' Q w rx ry e q
  unfold gNotIn at e
  cases h : inX A x y with
  | none => rw [h] at e; cases e
  | some b =>
    rw [h] at e
    cases e
    rcases inX_yes w rx ry h with ⟨c, z, h1, h2, h3⟩ | ⟨d, ds, h1, h2, h3, h4, h5⟩ | ⟨d, ds, h1, h2, h3, h4, h5⟩
    · exact .inl ⟨c, z, h1, h2, by rw [← h3]; exact fin0 w (.bl _) q⟩
    · exact .inr (.inl ⟨d, ds, h1, h2, h3, h4, by rw [← h5]; exact fin0 w (.bl _) q⟩)
    · exact .inr (.inr ⟨d, ds, h1, h2, h3, h4, by rw [← h5]; exact fin0 w (.bl _) q⟩)
end AX

set_option Elab.async false
set_option linter.all false
set_option maxRecDepth 100000
set_option maxHeartbeats 4000000
/-! AX4: items, slices, dicts, attributes, built-in functions and methods. -/
namespace AX
open PySem PySem.Spec PyProof.Rows L2

/-! ### dicts and attributes as two lists -/
def keyB : Key → Key → Bool
  | .inl i, .inl j => decide (i = j)
  | .inr a, .inr b => strB a b
  | _, _ => false
theorem strB_iff (a b : Str) : strB a b = decide (a = b) := by
  rw [strB_eq, Bool.eq_iff_iff, decide_eq_true_eq, decide_eq_true_eq]
  exact ⟨fun h => by injection h, fun h => by rw [h]⟩
theorem keyB_eq : ∀ a b : Key, keyB a b = decide (a = b)
  | .inl i, .inl j => by simp [keyB]
  | .inr i, .inr j => by simp [keyB, strB_iff]
  | .inl i, .inr j => by simp [keyB]
  | .inr i, .inl j => by simp [keyB]
def keyOf : AV → Option Key
  | .int i => some (.inl i)
  | .str x => some (.inr x)
  | _ => none
theorem keyOf_eq {K : PySem.W.Frag} {ρ : List Addr} {H : Hp} {x : AV} {v : V} {k : Key} (r : VR K ρ H x v) (h : keyOf x = some k) : v = kV k := by
  cases x with
  | int i => cases h; exact r.int_eq
  | str i => cases h; exact r.str_eq
  | _ => cases h
def dGet : List Key → List AV → Key → Option AV
  | k :: ks, x :: xs, k0 => match keyB k k0 with
    | true => some x
    | false => dGet ks xs k0
  | _, _, _ => none
def dUpd : List Key → List AV → Key → AV → List AV
  | k :: ks, x :: xs, k0, y => (match keyB k k0 with
    | true => y
    | false => x) :: dUpd ks xs k0 y
  | _, xs, _, _ => xs
def dPut (ks : List Key) (xs : List AV) (k : Key) (y : AV) : List Key × List AV := match dGet ks xs k with
  | some _ => (ks, dUpd ks xs k y)
  | none => (ks ++ [k], xs ++ [y])
def fGet : List Str → List AV → Str → Option AV
  | k :: ks, x :: xs, k0 => match strB k k0 with
    | true => some x
    | false => fGet ks xs k0
  | _, _, _ => none
def fPut : List Str → List AV → Str → AV → List Str × List AV
  | k :: ks, x :: xs, k0, y => match strB k k0 with
    | true => (k :: ks, y :: xs)
    | false => (k :: (fPut ks xs k0 y).1, x :: (fPut ks xs k0 y).2)
  | _, _, k0, y => ([k0], [y])
section
variable {K : PySem.W.Frag} {ρ : List Addr} {H : Hp}
theorem dGet_ok {k : Key} : ∀ {kvs : List (Key × V)} {ks : List Key} {xs : List AV}, kvs.map (·.1) = ks → VRs K ρ H xs (kvs.map (·.2)) →
    match dGet ks xs k with
    | some x => ∃ v, valV kvs k = some v ∧ VR K ρ H x v
    | none => valV kvs k = none
  | [], _, _, e, r => by
    cases e
    cases r
    exact valV_nil
  | (k1, v1) :: kvs, _, _, e, r => by
    cases e
    cases r with
    | cons r1 r2 =>
      show match dGet (k1 :: kvs.map (·.1)) _ k with
        | some x => ∃ v, valV ((k1, v1) :: kvs) k = some v ∧ VR K ρ H x v
        | none => valV ((k1, v1) :: kvs) k = none
      unfold dGet
      rw [keyB_eq]
      by_cases h : k1 = k
      · rw [decide_eq_true h]
        exact ⟨v1, valV_pos h, r1⟩
      · rw [decide_eq_false h, valV_neg h]
        exact dGet_ok rfl r2
theorem dUpd_ok {k : Key} {y : AV} {u : V} (ry : VR K ρ H y u) : ∀ {kvs : List (Key × V)} {ks : List Key} {xs : List AV}, kvs.map (·.1) = ks → VRs K ρ H xs (kvs.map (·.2)) →
    (kvs.map fun kv => if kv.1 = k then (kv.1, u) else kv).map (·.1) = ks ∧ VRs K ρ H (dUpd ks xs k y) ((kvs.map fun kv => if kv.1 = k then (kv.1, u) else kv).map (·.2))
  | [], _, _, e, r => by
    cases e
    cases r
    exact ⟨rfl, .nil⟩
  | (k1, v1) :: kvs, _, _, e, r => by
    cases e
    cases r with
    | cons r1 r2 =>
      obtain ⟨h1, h2⟩ := dUpd_ok (k := k) ry (kvs := kvs) rfl r2
      simp only [List.map_cons]
      unfold dUpd
      rw [keyB_eq]
      by_cases h : k1 = k
      · rw [decide_eq_true h, if_pos h]
        exact ⟨by rw [h1], .cons ry h2⟩
      · rw [decide_eq_false h, if_neg h]
        exact ⟨by rw [h1], .cons r1 h2⟩
theorem dPut_ok {k : Key} {y : AV} {u : V} (ry : VR K ρ H y u) {kvs : List (Key × V)} {ks : List Key} {xs : List AV} (e : kvs.map (·.1) = ks) (r : VRs K ρ H xs (kvs.map (·.2))) :
    (putK kvs k u).map (·.1) = (dPut ks xs k y).1 ∧ VRs K ρ H (dPut ks xs k y).2 ((putK kvs k u).map (·.2)) := by
  have g := dGet_ok (k := k) e r
  unfold dPut
  cases h : dGet ks xs k with
  | some x =>
    rw [h] at g
    obtain ⟨v, hv, _⟩ := g
    have ha : (kvs.any fun kv => decide (kv.1 = k)) = true := by rw [valV_any, hv] <;> rfl
    have e2 : putK kvs k u = kvs.map fun kv => if kv.1 = k then (kv.1, u) else kv := by
      unfold putK
      simp only [ha, if_true]
    rw [e2]
    exact dUpd_ok ry e r
  | none =>
    rw [h] at g
    rw [putK_new u g, List.map_append, List.map_append, e]
    exact ⟨rfl, r.append (.cons ry .nil)⟩
theorem fGet_ok {f : Str} : ∀ {fs : List (Str × V)} {ns : List Str} {xs : List AV} {x : AV}, fs.map (·.1) = ns → VRs K ρ H xs (fs.map (·.2)) → fGet ns xs f = some x → ∃ v, fs.lookup f = some v ∧ VR K ρ H x v
  | [], _, _, _, e, r, h => by
    cases e
    cases r
    cases h
  | (k1, v1) :: fs, _, _, x, e, r, h => by
    cases e
    cases r with
    | cons r1 r2 =>
      have h' : fGet (k1 :: fs.map (·.1)) _ f = some x := h
      unfold fGet at h'
      rw [strB_iff] at h'
      by_cases q : k1 = f
      · rw [decide_eq_true q] at h'
        cases h'
        refine ⟨v1, ?_, r1⟩
        have hb : (f == k1) = true := beq_iff_eq.mpr q.symm
        simp only [List.lookup, hb]
      · rw [decide_eq_false q] at h'
        obtain ⟨v, h1, h2⟩ := fGet_ok rfl r2 h'
        have hb : (f == k1) = false := beq_eq_false_iff_ne.mpr (Ne.symm q)
        exact ⟨v, by simp only [List.lookup, hb]; exact h1, h2⟩
theorem fPut_ok {f : Str} {y : AV} {u : V} (ry : VR K ρ H y u) : ∀ {fs : List (Str × V)} {ns : List Str} {xs : List AV}, fs.map (·.1) = ns → VRs K ρ H xs (fs.map (·.2)) →
    (putF f u fs).map (·.1) = (fPut ns xs f y).1 ∧ VRs K ρ H (fPut ns xs f y).2 ((putF f u fs).map (·.2))
  | [], _, _, e, r => by
    cases e
    cases r
    exact ⟨rfl, .cons ry .nil⟩
  | (k1, v1) :: fs, _, _, e, r => by
    cases e
    cases r with
    | @cons x1 _ xs _ r1 r2 =>
      obtain ⟨h1, h2⟩ := fPut_ok (f := f) ry (fs := fs) rfl r2
      show (putF f u ((k1, v1) :: fs)).map (·.1) = (fPut (k1 :: fs.map (·.1)) (x1 :: xs) f y).1 ∧ VRs K ρ H (fPut (k1 :: fs.map (·.1)) (x1 :: xs) f y).2 ((putF f u ((k1, v1) :: fs)).map (·.2))
      unfold fPut putF
      rw [strB_iff]
      by_cases q : k1 = f
      · rw [decide_eq_true q, if_pos q]
        exact ⟨rfl, .cons ry r2⟩
      · rw [decide_eq_false q, if_neg q]
        exact ⟨by rw [List.map_cons, h1], .cons r1 h2⟩
end
theorem Wd.dK {K : PySem.W.Frag} {ρ : List Addr} {H : Hp} {A : AH} (w : Wd K ρ H A) {i : Nat} {v : V} {ks : List Key} {xs : List AV} (h : VR K ρ H (.ref i) v) (e : A[i]? = some (.dK ks xs)) :
    ∃ a kvs, v = .ref a ∧ ρ[i]? = some a ∧ H a = some (.dK kvs) ∧ kvs.map (·.1) = ks ∧ VRs K ρ H xs (kvs.map (·.2)) := by
  obtain ⟨a, rfl, ha⟩ := h.ref_eq
  obtain ⟨vs, e1, r1, r⟩ := w.obj ha e
  exact ⟨a, vs, rfl, ha, e1, r1, r⟩
theorem Wd.ins {K : PySem.W.Frag} {ρ : List Addr} {H : Hp} {A : AH} (w : Wd K ρ H A) {i : Nat} {v : V} {c : Str} {ns : List Str} {xs : List AV} (h : VR K ρ H (.ref i) v) (e : A[i]? = some (.ins c ns xs)) :
    ∃ a dx fs, v = .ref a ∧ ρ[i]? = some a ∧ H a = some (.ins (He.ga K c) dx fs) ∧ fs.map (·.1) = ns ∧ VRs K ρ H xs (fs.map (·.2)) := by
  obtain ⟨a, rfl, ha⟩ := h.ref_eq
  obtain ⟨dx, fs, e1, r1, r⟩ := w.obj ha e
  exact ⟨a, dx, fs, rfl, ha, e1, r1, r⟩

/-! ### items -/
def atX {α : Type} (xs : List α) : Int → Option α
  | .ofNat n => xs[n]?
  | .negSucc n => match Nat.ble (n + 1) xs.length with
    | true => xs[xs.length - (n + 1)]?
    | false => none
theorem atX_ok {α : Type} {xs : List α} {i : Int} {x : α} (h : atX xs i = some x) : atI xs i = some x := by
  cases i with
  | ofNat n => exact atI_nat h
  | negSucc n =>
    unfold atX at h
    dsimp only at h
    cases hc : Nat.ble (n + 1) xs.length with
    | false => rw [hc] at h; cases h
    | true =>
      rw [hc] at h
      have hl := Nat.le_of_ble_eq_true hc
      unfold atI ixN
      have h1 : ¬ (0 : Int) ≤ Int.negSucc n := by omega
      have h2 : -(xs.length : Int) ≤ Int.negSucc n := by omega
      rw [if_neg h1, if_pos h2]
      have h3 : (Int.negSucc n + (xs.length : Int)).toNat = xs.length - (n + 1) := by omega
      rw [h3]
      exact h
theorem VRs.atX {K : PySem.W.Frag} {ρ : List Addr} {H : Hp} {xs : List AV} {vs : List V} (r : VRs K ρ H xs vs) {i : Int} {x : AV} (h : atX xs i = some x) : ∃ v, atI vs i = some v ∧ VR K ρ H x v := by
  cases i with
  | ofNat n =>
    obtain ⟨v, h1, h2⟩ := r.get h
    exact ⟨v, atI_nat h1, h2⟩
  | negSucc n =>
    unfold AX.atX at h
    dsimp only at h
    cases hc : Nat.ble (n + 1) xs.length with
    | false => rw [hc] at h; cases h
    | true =>
      rw [hc] at h
      obtain ⟨v, h1, h2⟩ := r.get h
      refine ⟨v, atX_ok (i := Int.negSucc n) ?_, h2⟩
      unfold AX.atX
      dsimp only
      rw [← r.length, hc]
      exact h1
def gIx : G2 := fun x y A => match x with
  | .tup xs => match y with
    | .int i => match atX xs i with
      | some z => some (z, A)
      | none => none
    | _ => none
  | .str s => match y with
    | .int i => match szOk s.length with
      | true => match atX s.cps.toList i with
        | some c => some (.str ⟨#[c]⟩, A)
        | none => none
      | false => none
    | _ => none
  | .ref j => match A[j]? with
    | some (.lst xs) => match y with
      | .int i => match atX xs i with
        | some z => some (z, A)
        | none => none
      | _ => none
    | some (.dK ks xs) => match keyOf y with
      | some k => match dGet ks xs k with
        | some z => some (z, A)
        | none => none
      | none => none
    | _ => none
  | _ => none
def rDG : R2 := fun x y H Q => ∃ a v, x = .ref a ∧ DGet H a y (some v) ∧ Q v H
theorem ix_dg {X : Cx} (hu : X.A.units + 1 < cLine) : IxR X rDG := by
  intro value slice pins s σ H x y v u Q I rx ry h hs
  obtain ⟨a, z, rfl, g, q⟩ := h
  cases (show v = Value.ref a from rx)
  exact tail_any (dict_typeIs I g) PySem.F.slot_dict_getitem.lookup (d_getItem hu I g ry fun w' s3 I3 rw' => ⟨z, H, I3, rw', q⟩) hs
def rIxX (K : PySem.W.Frag) : R2 := fun x y H Q => rIx K x y H Q ∨ rDG x y H Q
theorem o_ix {X : Cx} (hu : X.A.units + 1 < cLine) : IxR X (rIxX X.K) := ix_seq.or (ix_dg hu)
theorem r_ix {K : PySem.W.Frag} : R2A K (rIxX K) gIx := by
  intro ρ H A x y v u z A' Q w rx ry e q
  unfold gIx at e
  split at e
  · split at e
    · split at e
      · rename_i h
        cases e
        obtain ⟨a, vs, rfl, h1, r1⟩ := rx.tup_eq
        obtain ⟨v, h2, h3⟩ := r1.atX h
        exact .inl (.inr (.inl ⟨a, vs, _, v, rfl, ry.int_eq, h1, h2, fin0 w h3 q⟩))
      · cases e
    · cases e
  · split at e
    · split at e
      · rename_i hz
        split at e
        · rename_i h
          cases e
          exact .inl (.inr (.inr ⟨_, _, _, rx.str_eq, ry.int_eq, szOk_of hz, atX_ok h, fin0 w (.str _) q⟩))
        · cases e
      · cases e
    · cases e
  · split at e
    · rename_i hj
      split at e
      · split at e
        · rename_i h
          cases e
          obtain ⟨a, vs, rfl, _, h1, r1⟩ := w.lst rx hj
          obtain ⟨v, h2, h3⟩ := r1.atX h
          exact .inl (.inl ⟨a, vs, _, v, rfl, ry.int_eq, Evl.sq_of h1, h2, fin0 w h3 q⟩)
        · cases e
      · cases e
    · rename_i hj
      split at e
      · rename_i k hk
        split at e
        · rename_i hg
          cases e
          obtain ⟨a, kvs, rfl, _, h1, h2, r1⟩ := w.dK rx hj
          have g := dGet_ok (k := k) h2 r1
          rw [hg] at g
          obtain ⟨v, g1, g2⟩ := g
          have ey := keyOf_eq ry hk
          subst ey
          exact .inr ⟨a, v, rfl, by rw [← g1]; exact DGet.k h1, fin0 w g2 q⟩
        · cases e
      · cases e
    · cases e
  · cases e
section
variable {X : Cx} {E : XK} {a b c e o : Expr} {es : List Expr} {fa fb fc : ASt → M AV} {fl : ASt → M (List AV)} {pos : Pos}
theorem a_ix (hu : X.A.units + 1 < cLine) (ha : PE X a (S X.K E fa)) (hb : PE X b (S X.K E fb)) (hs : PlainIx b := by exact fun _ _ => rfl) : PE X (.Subscript a b pos) (S X.K E (aBin gIx fa fb)) :=
  wE (pe_ix (o_ix hu) ha hb hs) fun σ H Q ⟨ρ, aσ, A, w, s, y⟩ => SX.mk w s y.bind fun x A1 ρ1 H1 v y1 g1 w1 r1 =>
    SX.mk w1 (s.grow g1) (y1.bind.mono (fun _ _ q => q) fun _ _ q => q.tr g1) fun y A2 ρ2 H2 u y2 g2 w2 r2 => by
      obtain ⟨z, A', hg, q⟩ := y2.lift
      exact r_ix ρ2 H2 A2 x y v u z A' Q w2 (g2.vr r1) r2 hg ((q.tr g1).tr g2)
end

/-! ### slices -/
def sIxX (n d : Nat) : Option Int → Nat
  | none => d
  | some (.ofNat k) => match Nat.ble k n with
    | true => k
    | false => n
  | some (.negSucc k) => n - (k + 1)
theorem sIxX_eq (n : Nat) (lo : Option Int) (d : Nat) : sIxX n d lo = HT.sIx n d lo := by
  cases lo with
  | none => rfl
  | some i =>
    cases i with
    | ofNat k =>
      unfold sIxX HT.sIx
      have h0 : ¬ (Int.ofNat k < 0) := by simp
      cases hc : Nat.ble k n with
      | true =>
        have := Nat.le_of_ble_eq_true hc
        simp only [h0, if_false, hc]
        show k = min k n
        omega
      | false =>
        have : ¬ k ≤ n := fun h => by rw [Nat.ble_eq_true_of_le h] at hc; cases hc
        simp only [h0, if_false, hc]
        show n = min k n
        omega
    | negSucc k =>
      unfold sIxX HT.sIx
      have h0 : Int.negSucc k < 0 := Int.negSucc_lt_zero k
      simp only [h0, if_true]
      omega
def cutX {α : Type} (xs : List α) (lo hi : Option Int) : List α := (xs.drop (sIxX xs.length 0 lo)).take (sIxX xs.length xs.length hi - sIxX xs.length 0 lo)
theorem VRs.cut {K : PySem.W.Frag} {ρ : List Addr} {H : Hp} {xs : List AV} {vs : List V} (r : VRs K ρ H xs vs) (lo hi : Option Int) : VRs K ρ H (cutX xs lo hi) (cutV vs lo hi) := by
  unfold cutX cutV
  rw [sIxX_eq, sIxX_eq, r.length]
  exact (r.drop _).take _
def gSl (lo hi : Option Int) : G1 := fun x A => match x with
  | .tup xs => some (.tup (cutX xs lo hi), A)
  | .ref i => match A[i]? with
    | some (.lst xs) => some (.ref A.length, A ++ [.lst (cutX xs lo hi)])
    | _ => none
  | .lsf xs => some (.ref A.length, A ++ [.lst (cutX xs lo hi)])
  | _ => none
def aSl (fe : ASt → M AV) (fl fh : ASt → M (Option Int)) : ASt → M AV := fun aσ => (fe aσ).bind fun x => (fl aσ).bind fun l => (fh aσ).bind fun h => M.lift (gSl l h x)
def aPart (f : ASt → M AV) : ASt → M (Option Int) := fun aσ => (f aσ).bind fun x => match x with
  | .int i => M.pure (some i)
  | _ => M.fail
def aNoPart : ASt → M (Option Int) := fun _ => M.pure none
def rSlX (K : PySem.W.Frag) : V → Option Int → Option Int → Hp → VK → Prop := fun x lo hi H Q => rSlA K x lo hi H Q ∨ rSlL K x lo hi H Q
theorem whole_cut {xs : List V} {lo hi : Option Int} (h : HT.sIx xs.length 0 lo = 0 ∧ HT.sIx xs.length xs.length hi = xs.length) : cutV xs lo hi = xs := by
  unfold cutV
  rw [h.1, h.2, List.drop_zero]
  exact List.take_of_length_le (by omega)
theorem gSl_ok {K : PySem.W.Frag} {ρ : List Addr} {H : Hp} {A A' : AH} {x z : AV} {v : V} {lo hi : Option Int} {Q : VK} (w : Wd K ρ H A) (rx : VR K ρ H x v) (e : gSl lo hi x A = some (z, A')) (q : Post K (VR K) ρ H z A' Q) : rSlX K v lo hi H Q := by
  cases x with
  | tup xs =>
    cases e
    obtain ⟨a, vs, rfl, h1, r1⟩ := rx.tup_eq
    refine .inl ⟨a, vs, rfl, h1, fun h => ?_, fun _ p hp => finT w (r1.cut lo hi) q hp⟩
    have r2 := r1.cut lo hi
    rw [whole_cut h] at r2
    exact fin0 w (.tup h1 r2) q
  | ref i =>
    unfold gSl at e
    dsimp only at e
    cases hi' : A[i]? with
    | none => rw [hi'] at e; cases e
    | some ob =>
      cases ob with
      | lst xs =>
        rw [hi'] at e
        cases e
        obtain ⟨a, vs, rfl, _, h1, r1⟩ := w.lst rx hi'
        exact .inr ⟨a, vs, rfl, Evl.sq_of h1, fun p hp => finL w (r1.cut lo hi) q hp⟩
      | _ => rw [hi'] at e; cases e
  | lsf xs =>
    cases e
    cases rx with
    | lsf h1 r1 => exact .inr ⟨_, _, rfl, h1.sql, fun p hp => finL w (r1.cut lo hi) q hp⟩
  | _ => cases e
section
variable {X : Cx} {E : XK} {e : Expr} {lo hi : Option Expr} {fe f : ASt → M AV} {fl fh : ASt → M (Option Int)} {pos p2 : Pos}
theorem q_none : PO X none (SO X.K E aNoPart) := wO po_none fun σ H Q ⟨ρ, aσ, A, w, s, y⟩ => y.pure ρ H _ Grow.refl w rfl
theorem q_some (h : PE X e (S X.K E f)) : PO X (some e) (SO X.K E (aPart f)) := wO (po_some h) fun σ H Q ⟨ρ, aσ, A, w, s, y⟩ => SX.mk w s y.bind fun x A1 ρ1 H1 v y1 g1 w1 r1 => by
  cases x with
  | int i => exact ⟨i, r1.int_eq, y1.pure ρ1 H1 _ g1 w1 rfl⟩
  | _ => exact y1.fail
theorem a_sl (he : PE X e (S X.K E fe)) (hl : PO X lo (SO X.K E fl)) (hh : PO X hi (SO X.K E fh)) : PE X (.Subscript e (.Slice lo hi none p2) pos) (S X.K E (aSl fe fl fh)) :=
  wE (pe_slice (sl_tupA.or sl_list) he hl hh) fun σ H Q ⟨ρ, aσ, A, w, s, y⟩ => SX.mk w s y.bind fun x A1 ρ1 H1 v y1 g1 w1 r1 =>
    SX.mk w1 (s.grow g1) (y1.bind.mono (fun _ _ q => q) fun _ _ q => q.tr g1) fun l A2 ρ2 H2 u y2 g2 w2 r2 =>
      SX.mk w2 ((s.grow g1).grow g2) (y2.bind.mono (fun _ _ q => q) fun _ _ q => q.tr (g1.trans g2)) fun h A3 ρ3 H3 u' y3 g3 w3 r3 => by
        obtain ⟨z, A', hg, q⟩ := y3.lift
        cases (show l = u from r2)
        cases (show h = u' from r3)
        exact gSl_ok w3 (g3.vr (g2.vr r1)) hg (q.tr ((g1.trans g2).trans g3))
end

/-! ### y in d -/
def gInD (neg : Bool) : G2 := fun y x A => match x with
  | .ref i => match A[i]? with
    | some (.dK ks xs) => match keyOf y with
      | some k => some (.bl (neg != (dGet ks xs k).isSome), A)
      | none => none
    | _ => none
  | _ => none
def rInDk (neg : Bool) : R2 := fun y x H Q => ∃ a o, x = .ref a ∧ DGet H a y o ∧ Q (.bl (neg != o.isSome)) H
theorem o_inD {X : Cx} (hu : X.A.units + 1 < cLine) : OpR X (compareOp .In) (rInDk false) := by
  intro pins s σ H y x v u Q I ry rx h
  obtain ⟨a, o, rfl, g, q⟩ := h
  cases (show u = Value.ref a from rx)
  exact d_in hu I g ry fun s3 I3 => ⟨.bl (false != o.isSome), H, I3, by cases o <;> rfl, q⟩
theorem o_notinD {X : Cx} (hu : X.A.units + 1 < cLine) : OpR X (compareOp .NotIn) (rInDk true) := by
  intro pins s σ H y x v u Q I ry rx h
  obtain ⟨a, o, rfl, g, q⟩ := h
  cases (show u = Value.ref a from rx)
  exact d_notIn hu I g ry fun s3 I3 => ⟨.bl (true != o.isSome), H, I3, by cases o <;> rfl, q⟩
theorem r_inD {K : PySem.W.Frag} {neg : Bool} : R2A K (rInDk neg) (gInD neg) := by
  intro ρ H A y x u v z A' Q w ry rx e q
  unfold gInD at e
  split at e
  · split at e
    · rename_i hj
      split at e
      · rename_i k hk
        cases e
        obtain ⟨a, kvs, rfl, _, h1, h2, r1⟩ := w.dK rx hj
        have g := dGet_ok (k := k) h2 r1
        have ey := keyOf_eq ry hk
        subst ey
        refine ⟨a, _, rfl, DGet.k h1, ?_⟩
        cases hg : dGet _ _ k with
        | some x =>
          rw [hg] at g q
          obtain ⟨v, g1, _⟩ := g
          rw [g1]
          exact fin0 w (.bl _) q
        | none =>
          rw [hg] at g q
          rw [show valV kvs k = none from g]
          exact fin0 w (.bl _) q
      · cases e
    · cases e
  · cases e
end AX

set_option Elab.async false
set_option linter.all false
set_option maxRecDepth 100000
set_option maxHeartbeats 4000000
/-! AX5: built-in functions and methods. -/
namespace AX
open PySem PySem.Spec PyProof.Rows L2

/-! ### types -/
def tyX (A : AH) : AV → Option Ty
  | .non => some .non
  | .bl _ => some .bool
  | .int _ => some .int
  | .str _ => some .str
  | .tup _ => some .tuple
  | .ref i => match A[i]? with
    | some (.lst _) => some .list
    | some (.dK _ _) => some .dict
    | _ => none
  | _ => none
def isT : Ty → Ty → Bool
  | .non, .non => true
  | .bool, .bool => true
  | .bool, .int => true
  | .int, .int => true
  | .str, .str => true
  | .tuple, .tuple => true
  | .list, .list => true
  | .dict, .dict => true
  | _, _ => false
theorem isT_ok (t u : Ty) : kitB t.name u.name = some (isT t u) := by cases t <;> cases u <;> first | rfl | decide +kernel
theorem tyX_ok {K : PySem.W.Frag} {ρ : List Addr} {H : Hp} {A : AH} {x : AV} {v : V} {t : Ty} (w : Wd K ρ H A) (r : VR K ρ H x v) (h : tyX A x = some t) : TyX K H v (.type t.name) := by
  cases x with
  | non => cases h; cases r; exact .base .non
  | bl b => cases h; cases r; exact .base (.bl _)
  | int b => cases h; cases r; exact .base (.int _)
  | str b => cases h; cases r; exact .base (.str _)
  | tup xs =>
    cases h
    obtain ⟨a, vs, rfl, h1, _⟩ := r.tup_eq
    rcases h1 with (h1 | ⟨o, h1⟩) | ⟨o, its, n, hk, hc, _⟩
    · exact .base (.tup h1)
    · exact .fTuple h1
    · exact .kTuple hk hc
  | ref i =>
    unfold tyX at h
    dsimp only at h
    cases hi : A[i]? with
    | none => rw [hi] at h; cases h
    | some o =>
      cases o with
      | lst xs =>
        rw [hi] at h
        cases h
        obtain ⟨a, vs, rfl, _, h1, _⟩ := w.lst r hi
        exact .base (.lst h1)
      | dK ks xs =>
        rw [hi] at h
        cases h
        obtain ⟨a, vs, rfl, _, h1, _⟩ := w.dK r hi
        exact .base (.dK h1)
      | ins c ns xs => rw [hi] at h; cases h
      | dT w ks xs => rw [hi] at h; cases h
      | slt c xs => rw [hi] at h; cases h
      | tab P q => rw [hi] at h; cases h
  | _ => cases h
/-! ### functions -/
def gIsi : GL := fun xs A => match xs with
  | [x, .ty u] => match tyX A x with
    | some t => some (.bl (isT t u), A)
    | none => none
  | _ => none
def lenX (A : AH) : AV → Option Nat
  | .str x => match szOk x.length with
    | true => some x.length
    | false => none
  | .tup xs => some xs.length
  | .ref i => match A[i]? with
    | some (.lst xs) => some xs.length
    | _ => none
  | _ => none
def gLen : GL := fun xs A => match xs with
  | [x] => match lenX A x with
    | some n => some (.int (n : Int), A)
    | none => none
  | _ => none
def boolsL : List AV → Option (List Bool)
  | [] => some []
  | .bl b :: r => match boolsL r with
    | some bs => some (b :: bs)
    | none => none
  | _ :: _ => none
def intsL : List AV → Option (List Int)
  | [] => some []
  | .int b :: r => match intsL r with
    | some bs => some (b :: bs)
    | none => none
  | _ :: _ => none
def gAll : GL := fun xs A => match xs with
  | [.ref i] => match A[i]? with
    | some (.lst ys) => match boolsL ys with
      | some bs => some (.bl (bs.all id), A)
      | none => none
    | _ => none
  | _ => none
def gAny : GL := fun xs A => match xs with
  | [.ref i] => match A[i]? with
    | some (.lst ys) => match boolsL ys with
      | some bs => some (.bl (bs.any id), A)
      | none => none
    | _ => none
  | _ => none
def gSum : GL := fun xs A => match xs with
  | [.ref i] => match A[i]? with
    | some (.lst ys) => match intsL ys with
      | some bs => some (.int bs.sum, A)
      | none => none
    | _ => none
  | _ => none
def gAbs : GL := fun xs A => match xs with
  | [.int i] => some (.int (if i < 0 then -i else i), A)
  | _ => none
def gInt : GL := fun xs A => match xs with
  | [.int i] => some (.int i, A)
  | [.bl b] => some (.int (if b then 1 else 0), A)
  | [.str s] => match Nat.ble s.length 640 with
    | true => match PySem.intText? s with
      | some n => some (.int n, A)
      | none => none
    | false => none
  | _ => none
def seqX (A : AH) : AV → Option (List AV)
  | .tup xs => some xs
  | .ref i => match A[i]? with
    | some (.lst xs) => some xs
    | _ => none
  | _ => none
def gTuple : GL := fun xs A => match xs with
  | [x] => match seqX A x with
    | some ys => some (.tup ys, A)
    | none => none
  | _ => none
def gList : GL := fun xs A => match xs with
  | [x] => match seqX A x with
    | some ys => some (.ref A.length, A ++ [.lst ys])
    | none => none
  | _ => none
section
variable {K : PySem.W.Frag} {ρ : List Addr} {H : Hp} {A : AH}
theorem VRs.l1 {x : AV} {vs : List V} (r : VRs K ρ H [x] vs) : ∃ v, vs = [v] ∧ VR K ρ H x v := by
  cases r with
  | cons r1 r2 => cases r2; exact ⟨_, rfl, r1⟩
theorem VRs.l2 {x y : AV} {vs : List V} (r : VRs K ρ H [x, y] vs) : ∃ v u, vs = [v, u] ∧ VR K ρ H x v ∧ VR K ρ H y u := by
  cases r with
  | cons r1 r2 =>
    obtain ⟨u, rfl, r3⟩ := r2.l1
    exact ⟨_, u, rfl, r1, r3⟩
theorem bools_ok : ∀ {xs : List AV} {vs : List V} {bs : List Bool}, VRs K ρ H xs vs → boolsL xs = some bs → vs = bs.map V.bl
  | _, _, _, .nil, e => by cases e; rfl
  | _, _, _, .cons (x := x) (xs := xs) r rs, e => by
    cases x with
    | bl b =>
      unfold boolsL at e
      cases h : boolsL xs with
      | none => rw [h] at e; cases e
      | some bs =>
        rw [h] at e
        cases e
        rw [bools_ok rs h, r.bl_eq] <;> rfl
    | _ => cases e
theorem ints_ok : ∀ {xs : List AV} {vs : List V} {bs : List Int}, VRs K ρ H xs vs → intsL xs = some bs → vs = bs.map V.int
  | _, _, _, .nil, e => by cases e; rfl
  | _, _, _, .cons (x := x) (xs := xs) r rs, e => by
    cases x with
    | int b =>
      unfold intsL at e
      cases h : intsL xs with
      | none => rw [h] at e; cases e
      | some bs =>
        rw [h] at e
        cases e
        rw [ints_ok rs h, r.int_eq] <;> rfl
    | _ => cases e
theorem seqX_ok {x : AV} {v : V} {xs : List AV} (w : Wd K ρ H A) (r : VR K ρ H x v) (h : seqX A x = some xs) : ∃ a vs, v = .ref a ∧ VRs K ρ H xs vs ∧ (SqL K H a vs ∨ (SqT K H a vs ∧ x = .tup xs)) := by
  cases x with
  | tup ys =>
    cases h
    obtain ⟨a, vs, rfl, h1, r1⟩ := r.tup_eq
    exact ⟨a, vs, rfl, r1, .inr ⟨h1, rfl⟩⟩
  | ref i =>
    unfold seqX at h
    dsimp only at h
    cases hi : A[i]? with
    | none => rw [hi] at h; cases h
    | some o =>
      cases o with
      | lst ys =>
        rw [hi] at h
        cases h
        obtain ⟨a, vs, rfl, _, h1, r1⟩ := w.lst r hi
        exact ⟨a, vs, rfl, r1, .inl (Evl.sq_of h1)⟩
      | _ => rw [hi] at h; cases h
  | _ => cases h
end
def rLenX (K : PySem.W.Frag) : List V → Hp → VK → Prop := fun xs H Q => ∃ x n, xs = [x] ∧ LenV K x H n ∧ Q (.int n) H
def rAbsX : List V → Hp → VK → Prop := fun xs H Q => ∃ i, xs = [.int i] ∧ Q (.int (if i < 0 then -i else i)) H
def rIntX : List V → Hp → VK → Prop := fun xs H Q => ((∃ i, xs = [.int i] ∧ Q (.int i) H) ∨ ∃ k, xs = [.bl k] ∧ Q (.int (if k then 1 else 0)) H) ∨ ∃ a n, xs = [.str a] ∧ PySem.intText? a = some n ∧ a.length ≤ 640 ∧ Q (.int n) H
def rTupX (K : PySem.W.Frag) : List V → Hp → VK → Prop := fun xs H Q => ∃ p ys, xs = [.ref p] ∧ ((SqL K H p ys ∧ ∀ l, H l = none → Q (.ref l) (upd H l (.tup ys))) ∨ (SqT K H p ys ∧ Q (.ref p) H))
def rListX (K : PySem.W.Frag) : List V → Hp → VK → Prop := fun xs H Q => ∃ p ys, xs = [.ref p] ∧ (SqL K H p ys ∨ SqT K H p ys) ∧ ∀ l, H l = none → Q (.ref l) (upd H l (.lst ys))
section
variable {X : Cx}
theorem c_len : CallR X (.builtin "len") (rLenX X.K) := call_len
theorem c_abs : CallR X (.builtin "abs") rAbsX := call_abs
theorem c_int : CallR X (.type "int") rIntX := fun pins s σ H xs us Q I r h => h.elim (call_int1 pins s σ H xs us Q I r) (call_int_str pins s σ H xs us Q I r)
theorem c_tuple : CallR X (.type "tuple") (rTupX X.K) := call_tuple_of
theorem c_list : CallR X (.type "list") (rListX X.K) := call_list_of
end
section
variable {K : PySem.W.Frag}
theorem r_isi : RLA K (rIsi K) gIsi := by
  intro ρ H A xs vs z A' Q w r e q
  unfold gIsi at e
  split at e
  · split at e
    · rename_i h
      cases e
      obtain ⟨v, u, rfl, r1, r2⟩ := r.l2
      exact ⟨v, u, _, _, _, rfl, by rw [r2.ty_eq]; exact .ty _, tyX_ok w r1 h, kit_ty (isT_ok _ _), fin0 w (.bl _) q⟩
    · cases e
  · cases e
theorem r_len : RLA K (rLenX K) gLen := by
  intro ρ H A xs vs z A' Q w r e q
  unfold gLen at e
  split at e
  · rename_i x
    split at e
    · rename_i n h
      cases e
      obtain ⟨v, rfl, r1⟩ := r.l1
      refine ⟨v, n, rfl, ?_, fin0 w (.int _) q⟩
      unfold lenX at h
      split at h
      · split at h
        · rename_i hz
          cases h
          rw [r1.str_eq]
          exact ⟨szOk_of hz, rfl⟩
        · cases h
      · cases h
        obtain ⟨a, vs, rfl, h1, r2⟩ := r1.tup_eq
        exact .inr ⟨vs, h1, r2.length⟩
      · split at h
        · rename_i hi
          cases h
          obtain ⟨a, vs, rfl, _, h1, r2⟩ := w.lst r1 hi
          exact .inl ⟨vs, Evl.sq_of h1, r2.length⟩
        · cases h
      · cases h
    · cases e
  · cases e
theorem r_all : RLA K (rAll K) gAll := by
  intro ρ H A xs vs z A' Q w r e q
  unfold gAll at e
  split at e
  · split at e
    · rename_i hi
      split at e
      · rename_i hb
        cases e
        obtain ⟨v, rfl, r1⟩ := r.l1
        obtain ⟨a, vs, rfl, _, h1, r2⟩ := w.lst r1 hi
        exact ⟨a, _, rfl, by rw [← bools_ok r2 hb]; exact Evl.sq_of h1, fin0 w (.bl _) q⟩
      · cases e
    · cases e
  · cases e
theorem r_any : RLA K (rAny K) gAny := by
  intro ρ H A xs vs z A' Q w r e q
  unfold gAny at e
  split at e
  · split at e
    · rename_i hi
      split at e
      · rename_i hb
        cases e
        obtain ⟨v, rfl, r1⟩ := r.l1
        obtain ⟨a, vs, rfl, _, h1, r2⟩ := w.lst r1 hi
        exact ⟨a, _, rfl, by rw [← bools_ok r2 hb]; exact Evl.sq_of h1, fin0 w (.bl _) q⟩
      · cases e
    · cases e
  · cases e
theorem r_sum : RLA K (rSum K) gSum := by
  intro ρ H A xs vs z A' Q w r e q
  unfold gSum at e
  split at e
  · split at e
    · rename_i hi
      split at e
      · rename_i hb
        cases e
        obtain ⟨v, rfl, r1⟩ := r.l1
        obtain ⟨a, vs, rfl, _, h1, r2⟩ := w.lst r1 hi
        exact ⟨a, _, rfl, by rw [← ints_ok r2 hb]; exact Evl.sq_of h1, fin0 w (.int _) q⟩
      · cases e
    · cases e
  · cases e
theorem r_abs : RLA K rAbsX gAbs := by
  intro ρ H A xs vs z A' Q w r e q
  unfold gAbs at e
  split at e
  · cases e
    obtain ⟨v, rfl, r1⟩ := r.l1
    exact ⟨_, by rw [r1.int_eq], fin0 w (.int _) q⟩
  · cases e
theorem r_int : RLA K rIntX gInt := by
  intro ρ H A xs vs z A' Q w r e q
  unfold gInt at e
  split at e
  · cases e
    obtain ⟨v, rfl, r1⟩ := r.l1
    exact .inl (.inl ⟨_, by rw [r1.int_eq], fin0 w (.int _) q⟩)
  · cases e
    obtain ⟨v, rfl, r1⟩ := r.l1
    exact .inl (.inr ⟨_, by rw [r1.bl_eq], fin0 w (.int _) q⟩)
  · split at e
    · rename_i hz
      split at e
      · rename_i hn
        cases e
        obtain ⟨v, rfl, r1⟩ := r.l1
        exact .inr ⟨_, _, by rw [r1.str_eq], hn, Nat.le_of_ble_eq_true hz, fin0 w (.int _) q⟩
      · cases e
    · cases e
  · cases e
theorem r_tuple : RLA K (rTupX K) gTuple := by
  intro ρ H A xs vs z A' Q w r e q
  unfold gTuple at e
  split at e
  · split at e
    · rename_i hs
      cases e
      obtain ⟨v, rfl, r1⟩ := r.l1
      obtain ⟨a, vs, rfl, r2, h | ⟨h, e⟩⟩ := seqX_ok w r1 hs
      · exact ⟨a, vs, rfl, .inl ⟨h, fun p hp => finT w r2 q hp⟩⟩
      · exact ⟨a, vs, rfl, .inr ⟨h, fin0 w (.tup h r2) q⟩⟩
    · cases e
  · cases e
theorem r_list : RLA K (rListX K) gList := by
  intro ρ H A xs vs z A' Q w r e q
  unfold gList at e
  split at e
  · split at e
    · rename_i hs
      cases e
      obtain ⟨v, rfl, r1⟩ := r.l1
      obtain ⟨a, vs, rfl, r2, h⟩ := seqX_ok w r1 hs
      exact ⟨a, vs, rfl, h.imp id (·.1), fun p hp => finL w r2 q hp⟩
    · cases e
  · cases e
end

/-! ### methods -/
def isLst : AV → AH → Bool := fun x A => match x with
  | .ref i => match A[i]? with
    | some (.lst _) => true
    | _ => false
  | _ => false
def isStr : AV → AH → Bool := fun x _ => match x with
  | .str _ => true
  | _ => false
def isDct : AV → AH → Bool := fun x A => match x with
  | .ref i => match A[i]? with
    | some (.dK _ _) => true
    | _ => false
  | _ => false
def PTy (K : PySem.W.Frag) (T : String) (p : AV → AH → Bool) : Prop := ∀ ρ H A x v, Wd K ρ H A → VR K ρ H x v → p x A = true → tyV K T v H
theorem p_lst {K : PySem.W.Frag} : PTy K "list" isLst := by
  intro ρ H A x v w r h
  unfold isLst at h
  split at h
  · split at h
    · rename_i hi
      obtain ⟨a, vs, rfl, _, h1, _⟩ := w.lst r hi
      exact .inl ⟨rfl, vs, Evl.sq_of h1⟩
    · cases h
  · cases h
theorem p_str {K : PySem.W.Frag} : PTy K "str" isStr := by
  intro ρ H A x v w r h
  unfold isStr at h
  split at h
  · rw [r.str_eq]; exact (rfl : "str" = "str")
  · cases h
theorem p_dct {K : PySem.W.Frag} : PTy K "dict" isDct := by
  intro ρ H A x v w r h
  unfold isDct at h
  split at h
  · split at h
    · rename_i hi
      obtain ⟨a, vs, rfl, _, h1, _⟩ := w.dK r hi
      exact .inr (.inr (.inl ⟨rfl, .inl ⟨vs, h1⟩⟩))
    · cases h
  · cases h
def M.chk (p : AH → Bool) : M Unit := fun A => match p A with
  | true => some ([], A, .ok ())
  | false => none
theorem Yes.chk {A : AH} {p : AH → Bool} {k : Unit → AH → Prop} {x : AExc → AH → Prop} (h : Yes (M.chk p) A k x) : p A = true ∧ k () A := by
  obtain ⟨l, A', r, e, _, q⟩ := h
  unfold M.chk at e
  cases hp : p A with
  | true => rw [hp] at e; cases e; exact ⟨rfl, q⟩
  | false => rw [hp] at e; cases e
def aMt (p : AV → AH → Bool) (g : GM) (fo : ASt → M AV) (f : ASt → M (List AV)) : ASt → M AV := fun aσ => (fo aσ).bind fun x => (M.chk (p x)).bind fun _ => (f aσ).bind fun xs => M.lift (g x xs)
section
variable {X : Cx} {E : XK} {e : Expr} {fo : ASt → M AV} {fl : ASt → M (List AV)}
theorem a_mt {T : String} {r : V → List V → Hp → VK → Prop} {p : AV → AH → Bool} {g : GM} (hp : PTy X.K T p) (hr : RMA X.K r g) (h : PE X e (tBM X.K T r (S X.K E fo) (SL X.K E fl))) : PE X e (S X.K E (aMt p g fo fl)) :=
  wE h fun σ H Q ⟨ρ, aσ, A, w, s, y⟩ => SX.mk w s y.bind fun x A1 ρ1 H1 v y1 g1 w1 r1 => by
    obtain ⟨hc, y2⟩ := y1.bind.chk
    exact ⟨hp ρ1 H1 A1 x v w1 r1 hc, SX.mk w1 (s.grow g1) (y2.bind.mono (fun _ _ q => q) fun _ _ q => q.tr g1) fun xs A2 ρ2 H2 vs y3 g2 w2 r2 => by
      obtain ⟨z, A', hg, q⟩ := y3.lift
      exact hr ρ2 H2 A2 x xs v vs z A' Q w2 (g2.vr r1) r2 hg ((q.tr g1).tr g2)⟩
theorem a_mt0 {T : String} {r : V → List V → Hp → VK → Prop} {p : AV → AH → Bool} {g : GM} (hp : PTy X.K T p) (hr : RMA X.K r g) (h : PE X e (tBM0 X.K T r (S X.K E fo))) : PE X e (S X.K E (aMt p g fo aNil)) :=
  wE h fun σ H Q ⟨ρ, aσ, A, w, s, y⟩ => SX.mk w s y.bind fun x A1 ρ1 H1 v y1 g1 w1 r1 => by
    obtain ⟨hc, y2⟩ := y1.bind.chk
    obtain ⟨z, A', hg, q⟩ := y2.bind.pure.lift
    exact ⟨hp ρ1 H1 A1 x v w1 r1 hc, hr ρ1 H1 A1 x [] v [] z A' Q w1 r1 .nil hg (q.tr g1)⟩
end
def gAppend : GM := fun x xs A => match x, xs with
  | .ref i, [y] => match A[i]? with
    | some (.lst ys) => match szOk (ys.length + 1) with
      | true => some (.non, A.set i (.lst (ys ++ [y])))
      | false => none
    | _ => none
  | _, _ => none
def gExtend : GM := fun x xs A => match x, xs with
  | .ref i, [.ref j] => match A[i]?, A[j]? with
    | some (.lst ys), some (.lst zs) => match szOk (ys.length + zs.length) with
      | true => some (.non, A.set i (.lst (ys ++ zs)))
      | false => none
    | _, _ => none
  | _, _ => none
def gInsert : GM := fun x xs A => match x, xs with
  | .ref i, [.int (.ofNat k), y] => match A[i]? with
    | some (.lst ys) => match szOk (ys.length + 1) && Nat.ble k 100000 with
      | true => some (.non, A.set i (.lst (ys.take k ++ [y] ++ ys.drop k)))
      | false => none
    | _ => none
  | _, _ => none
def gPop : GM := fun x xs A => match x, xs with
  | .ref i, [] => match A[i]? with
    | some (.lst ys) => match ys[ys.length - 1]? with
      | some z => some (z, A.set i (.lst ys.dropLast))
      | none => none
    | _ => none
  | _, _ => none
def gDigit : GM := fun x xs A => match x, xs with
  | .str a, [] => some (.bl (Txt.isdigit a), A)
  | _, _ => none
section
variable {K : PySem.W.Frag}
theorem VRs.dropLast {ρ : List Addr} {H : Hp} {xs : List AV} {vs : List V} (r : VRs K ρ H xs vs) : VRs K ρ H xs.dropLast vs.dropLast := by
  rw [List.dropLast_eq_take, List.dropLast_eq_take, r.length]
  exact r.take _
theorem r_append : RMA K rAppend gAppend := by
  intro ρ H A x xs v vs z A' Q w rx r e q
  unfold gAppend at e
  split at e
  · split at e
    · rename_i hi
      split at e
      · rename_i hz
        cases e
        obtain ⟨u, rfl, r1⟩ := r.l1
        obtain ⟨a, ws, rfl, ha, h1, r2⟩ := w.lst rx hi
        exact ⟨a, ws, u, rfl, rfl, h1, by rw [← r2.length]; exact Evl.sz_lt (Nat.le_of_ble_eq_true hz), finS w ha (r2.append (.cons r1 .nil)) .non q⟩
      · cases e
    · cases e
  · cases e
theorem r_extend : RMA K rExtend gExtend := by
  intro ρ H A x xs v vs z A' Q w rx r e q
  unfold gExtend at e
  split at e
  · split at e
    · rename_i hi hj
      split at e
      · rename_i hz
        cases e
        obtain ⟨u, rfl, r1⟩ := r.l1
        obtain ⟨a, ws, rfl, ha, h1, r2⟩ := w.lst rx hi
        obtain ⟨b, zs, rfl, hb, h3, r3⟩ := w.lst r1 hj
        exact ⟨a, b, ws, zs, rfl, rfl, h1, h3, by rw [← r2.length, ← r3.length]; exact szOk_of hz, finS w ha (r2.append r3) .non q⟩
      · cases e
    · cases e
  · cases e
def rInsertX : V → List V → Hp → VK → Prop := fun x vs H Q => ∃ (l : Addr) (xs : List V) (i : Int) (y : V), x = .ref l ∧ vs = [.int i, y] ∧ H l = some (.lst xs) ∧ xs.length < sizeLine ∧ 0 ≤ i ∧ i < 2 ^ 63 ∧
    Q .non (upd H l (.lst (xs.take i.toNat ++ [y] ++ xs.drop i.toNat)))
theorem r_insert : RMA K rInsertX gInsert := by
  intro ρ H A x xs v vs z A' Q w rx r e q
  unfold gInsert at e
  split at e
  · split at e
    · rename_i hi
      split at e
      · rename_i hz
        cases e
        rw [Bool.and_eq_true] at hz
        obtain ⟨u, u2, rfl, r1, r3⟩ := r.l2
        obtain ⟨a, ws, rfl, ha, h1, r2⟩ := w.lst rx hi
        have hk := Nat.le_of_ble_eq_true hz.2
        exact ⟨a, ws, _, u2, rfl, by rw [r1.int_eq] <;> rfl, h1, by rw [← r2.length]; exact Evl.sz_lt (Nat.le_of_ble_eq_true hz.1), Int.natCast_nonneg _, by show ((_ : Nat) : Int) < 2 ^ 63; omega,
          finS w ha (((r2.take _).append (.cons r3 .nil)).append (r2.drop _)) .non q⟩
      · cases e
    · cases e
  · cases e
theorem r_pop : RMA K rPop gPop := by
  intro ρ H A x xs v vs z A' Q w rx r e q
  unfold gPop at e
  split at e
  · split at e
    · rename_i hi
      split at e
      · rename_i hz
        cases e
        cases r
        obtain ⟨a, ws, rfl, ha, h1, r2⟩ := w.lst rx hi
        obtain ⟨u, h2, r3⟩ := r2.get hz
        exact ⟨a, ws, u, rfl, rfl, h1, by rw [← r2.length]; exact h2, finS w ha r2.dropLast r3 q⟩
      · cases e
    · cases e
  · cases e
def rDigitX : V → List V → Hp → VK → Prop := fun x xs H Q => ∃ a, x = .str a ∧ xs = [] ∧ True ∧ Q (.bl (Txt.isdigit a)) H
theorem r_digit : RMA K rDigitX gDigit := by
  intro ρ H A x xs v vs z A' Q w rx r e q
  unfold gDigit at e
  split at e
  · cases e
    cases r
    exact ⟨_, rx.str_eq, rfl, trivial, fin0 w (.bl _) q⟩
  · cases e
end
end AX

set_option Elab.async false
set_option linter.all false
set_option maxRecDepth 100000
set_option maxHeartbeats 4000000
/-! AX6: attributes, statements, targets, what a def is, calls. -/
namespace AX
open PySem PySem.Spec PyProof.Rows L2

/-! ### attributes -/
def gFld (c f : Str) : G1 := fun x A => match x with
  | .ref i => match A[i]? with
    | some (.ins c' ns vs) => match strB c' c with
      | true => match fGet ns vs f with
        | some z => some (z, A)
        | none => none
      | false => none
    | _ => none
  | _ => none
section
variable {X : Cx} {E : XK} {e o value : Expr} {fa fv : ASt → M AV} {pos pos' tpos : Pos} {f : Str}
theorem strB_true {a b : Str} (h : strB a b = true) : a = b := of_decide_eq_true ((strB_iff a b).symm.trans h)
theorem a_fld (c : Str) (hc : Cls X.K (He.ga X.K c)) (hn : NoAttr X.K (He.ga X.K c) f) (he : PE X e (S X.K E fa)) (hb : attributeBase e f X.env (eval e X.env) = eval e X.env := by rfl) : PE X (.Attribute e f pos) (S X.K E (aUn (gFld c f) fa)) :=
  wE (pe_fld he hb) fun σ H Q ⟨ρ, aσ, A, w, s, y⟩ => SX.mk w s y.bind fun x A1 ρ1 H1 v y1 g1 w1 r1 => by
    obtain ⟨z, A', hg, q⟩ := y1.lift
    unfold gFld at hg
    split at hg
    · split at hg
      · rename_i hi
        split at hg
        · rename_i hs
          split at hg
          · rename_i hf
            cases hg
            obtain ⟨a, dx, fs, rfl, _, h1, h2, r2⟩ := w1.ins r1 hi
            have ec := strB_true hs
            subst ec
            obtain ⟨u, h3, r3⟩ := fGet_ok h2 r2 hf
            exact ⟨a, _, dx, fs, u, rfl, h1, hc, hn, h3, fin0 w1 r3 (q.tr g1)⟩
          · cases hg
        · cases hg
      · cases hg
    · cases hg
end

/-! ### statements -/
inductive AOut where
  | nx (s : ASt) | rt (v : AV) | bk (s : ASt) | ct (s : ASt)
def PostO (K : PySem.W.Frag) (ρ : List Addr) (H : Hp) (o : AOut) (A' : AH) (D : Ends) : Prop :=
  ∀ ρ' H', Grow ρ H ρ' H' → Wd K ρ' H' A' → match o with
    | .nx s => ∀ σ', SR K ρ' H' s σ' → D.nx σ' H'
    | .rt x => ∀ v, VR K ρ' H' x v → D.rt v H'
    | .bk s => ∀ σ', SR K ρ' H' s σ' → D.bk σ' H'
    | .ct s => ∀ σ', SR K ρ' H' s σ' → D.ct σ' H'
def SS (K : PySem.W.Frag) (E : XK) (f : ASt → M AOut) : TS := fun D σ H =>
  ∃ ρ aσ A, Wd K ρ H A ∧ SR K ρ H aσ σ ∧ Yes (f aσ) A (fun o A' => PostO K ρ H o A' D) (fun e A' => PostX K ρ H e A' E)
theorem PostO.tr {K : PySem.W.Frag} {ρ ρ1 : List Addr} {H H1 : Hp} {o : AOut} {A' : AH} {D : Ends} (h : PostO K ρ H o A' D) (g : Grow ρ H ρ1 H1) : PostO K ρ1 H1 o A' D := fun ρ' H' g1 w => h ρ' H' (g.trans g1) w
def bNext : ASt → M AOut := fun aσ => M.pure (.nx aσ)
def bSeq (f g : ASt → M AOut) : ASt → M AOut := fun aσ => (f aσ).bind fun o => match o with
  | .nx s => g s
  | .rt v => M.pure (.rt v)
  | .bk s => M.pure (.bk s)
  | .ct s => M.pure (.ct s)
def bDrop (f : ASt → M AV) : ASt → M AOut := fun aσ => (f aσ).bind fun _ => M.pure (.nx aσ)
def bRet (f : ASt → M AV) : ASt → M AOut := fun aσ => (f aσ).bind fun v => M.pure (.rt v)
def bRetN : ASt → M AOut := fun _ => M.pure (.rt .non)
def bIf (c : ASt → M Bool) (f g : ASt → M AOut) : ASt → M AOut := fun aσ => (c aσ).bind fun b => match b with
  | true => f aσ
  | false => g aσ
def bSet (i : Nat) (f : ASt → M AV) : ASt → M AOut := fun aσ => (f aσ).bind fun v => M.pure (.nx (aσ.set i (some v)))
def bPar (i j : Nat) (f : ASt → M (List AV)) : ASt → M AOut := fun aσ => (f aσ).bind fun vs => match vs with
  | [v, w] => M.pure (.nx ((aσ.set i (some v)).set j (some w)))
  | _ => M.fail
def bPar3 (i j l : Nat) (f : ASt → M (List AV)) : ASt → M AOut := fun aσ => (f aσ).bind fun vs => match vs with
  | [v, w, u] => M.pure (.nx (((aσ.set i (some v)).set j (some w)).set l (some u)))
  | _ => M.fail
def bAug (i : Nat) (g : G2) (f : ASt → M AV) : ASt → M AOut := fun aσ => (aVar i aσ).bind fun x => (f aσ).bind fun y => (M.lift (g x y)).bind fun z => M.pure (.nx (aσ.set i (some z)))
abbrev AG := AV → ASt → M ASt
def SG (K : PySem.W.Frag) (E : XK) (f : AG) : TG := fun v σ H Q =>
  ∃ ρ aσ A x, Wd K ρ H A ∧ SR K ρ H aσ σ ∧ VR K ρ H x v ∧ Yes (f x aσ) A (fun s A' => ∀ ρ' H' σ', Grow ρ H ρ' H' → Wd K ρ' H' A' → SR K ρ' H' s σ' → Q σ' H') (fun e A' => PostX K ρ H e A' E)
def SGs (K : PySem.W.Frag) (E : XK) (f : List AV → ASt → M ASt) : TGs := fun v σ H Q =>
  ∃ ρ aσ A x, Wd K ρ H A ∧ SR K ρ H aσ σ ∧ VRs K ρ H x v ∧ Yes (f x aσ) A (fun s A' => ∀ ρ' H' σ', Grow ρ H ρ' H' → Wd K ρ' H' A' → SR K ρ' H' s σ' → Q σ' H') (fun e A' => PostX K ρ H e A' E)
def agName (i : Nat) : AG := fun x s => M.pure (s.set i (some x))
def agNil : List AV → ASt → M ASt := fun xs s => match xs with
  | [] => M.pure s
  | _ => M.fail
def agCons (g : AG) (h : List AV → ASt → M ASt) : List AV → ASt → M ASt := fun xs s => match xs with
  | x :: r => (g x s).bind fun s' => h r s'
  | [] => M.fail
def agTup (n : Nat) (h : List AV → ASt → M ASt) : AG := fun x s => match x with
  | .tup xs => match Nat.beq xs.length n with
    | true => h xs s
    | false => M.fail
  | _ => M.fail
def agSub (fo fi : ASt → M AV) (g : AV → AV → AV → AH → Option AH) : AG := fun v s => (fo s).bind fun o => (fi s).bind fun i => (M.lift fun A => (g o i v A).map fun A' => ((), A')).bind fun _ => M.pure s
def bAsg (f : ASt → M AV) (g : AG) : ASt → M AOut := fun aσ => (f aσ).bind fun v => (g v aσ).bind fun s => M.pure (.nx s)
theorem wG {X : Cx} {e : Expr} {t t' : TG} (h : PG X e t) (w : ∀ v σ H Q, t' v σ H Q → t v σ H Q) : PG X e t' := ⟨fun pins s σ H v u Q I r q => h.run pins s σ H v u Q I r (w v σ H Q q)⟩
theorem wGs {X : Cx} {e : List Expr} {t t' : TGs} (h : PGs X e t) (w : ∀ v σ H Q, t' v σ H Q → t v σ H Q) : PGs X e t' := ⟨fun pins s σ H v u Q I r q => h.run pins s σ H v u Q I r (w v σ H Q q)⟩
section
variable {X : Cx} {E : XK} {st : Stmt} {rest a b : List Stmt} {e c o value : Expr} {f g : ASt → M AOut} {fe fa fv : ASt → M AV} {ft : ASt → M Bool} {fl : ASt → M (List AV)} {pos : Pos}
theorem s_never : PS X st (SS X.K E fun _ => M.fail) := ⟨fun _ _ _ _ _ _ ⟨_, _, _, _, _, y⟩ => y.fail⟩
theorem b_never {sts : List Stmt} : PSs X sts (SS X.K E fun _ => M.fail) := ⟨fun _ _ _ _ _ _ ⟨_, _, _, _, _, y⟩ => y.fail⟩
theorem b_nil : PSs X [] (SS X.K E bNext) := wSs pss_nil fun D σ H ⟨ρ, aσ, A, w, s, y⟩ => y.pure ρ H Grow.refl w σ s
theorem b_one (h : PS X st (SS X.K E f)) : PSs X [st] (SS X.K E f) := pss_one h
theorem b_cons (h1 : PS X st (SS X.K E f)) (h2 : PSs X rest (SS X.K E g)) : PSs X (st :: rest) (SS X.K E (bSeq f g)) :=
  wSs (pss_cons h1 h2) fun D σ H ⟨ρ, aσ, A, w, s, y⟩ => ⟨ρ, aσ, A, w, s, y.bind.mono (fun o A1 y1 ρ' H' g1 w1 => by
    cases o with
    | nx s1 => exact fun σ' sr => ⟨ρ', s1, A1, w1, sr, y1.mono (fun _ _ q => q.tr g1) fun _ _ q => q.tr g1⟩
    | rt x => exact y1.pure ρ' H' g1 w1
    | bk x => exact y1.pure ρ' H' g1 w1
    | ct x => exact y1.pure ρ' H' g1 w1) fun _ _ q => q⟩
theorem s_pass : PS X (.Pass pos) (SS X.K E bNext) := wS ps_pass fun D σ H ⟨ρ, aσ, A, w, s, y⟩ => y.pure ρ H Grow.refl w σ s
theorem s_expr (he : PE X e (S X.K E fe)) (hs : swapsWith e none pos.line X.env = pure false := by rfl) : PS X (.Expr e pos) (SS X.K E (bDrop fe)) :=
  wS (ps_expr he hs) fun D σ H ⟨ρ, aσ, A, w, s, y⟩ => SX.mk w s y.bind fun x A1 ρ1 H1 v y1 g1 w1 r1 => y1.pure ρ1 H1 g1 w1 σ (s.grow g1)
theorem s_ret (he : PE X e (S X.K E fe)) : PS X (.Return (some e) pos) (SS X.K E (bRet fe)) :=
  wS (ps_ret he) fun D σ H ⟨ρ, aσ, A, w, s, y⟩ => SX.mk w s y.bind fun x A1 ρ1 H1 v y1 g1 w1 r1 => y1.pure ρ1 H1 g1 w1 v r1
theorem s_retN : PS X (.Return none pos) (SS X.K E bRetN) := wS ps_retN fun D σ H ⟨ρ, aσ, A, w, s, y⟩ => y.pure ρ H Grow.refl w _ .non
theorem s_if (hc : PT X c (ST X.K E ft)) (ha : PSs X a (SS X.K E f)) (hb : PSs X b (SS X.K E g)) : PS X (.If c a b pos) (SS X.K E (bIf ft f g)) :=
  wS (ps_if hc ha hb) fun D σ H ⟨ρ, aσ, A, w, s, y⟩ => SX.mk w s y.bind fun x A1 ρ1 H1 v y1 g1 w1 r1 => by
    cases (show x = v from r1)
    cases x with
    | true => exact ⟨ρ1, aσ, A1, w1, s.grow g1, y1.mono (fun _ _ q => q.tr g1) fun _ _ q => q.tr g1⟩
    | false => exact ⟨ρ1, aσ, A1, w1, s.grow g1, y1.mono (fun _ _ q => q.tr g1) fun _ _ q => q.tr g1⟩
theorem s_set {i : Nat} {x : Str} {pos' : Pos} (hN : X.N.Nodup) (hi : X.N[i]? = some x) (hx : Loc X.env.scope x) (he : PE X e (S X.K E fe)) (hs : swapsWith e (some (.Name x pos')) pos.line X.env = pure false := by rfl)
    (hf : X.fn x = true ∨ X.env.scope.names.lookup x = some .local := by first | exact .inl rfl | exact .inr rfl | assumption) : PS X (.Assign [.Name x pos'] e pos) (SS X.K E (bSet i fe)) :=
  wS (ps_set hN hi hx he hs hf) fun D σ H ⟨ρ, aσ, A, w, s, y⟩ => SX.mk w s y.bind fun x A1 ρ1 H1 v y1 g1 w1 r1 => y1.pure ρ1 H1 g1 w1 _ ((s.grow g1).set r1 i)
theorem s_par {i j : Nat} {x y : Str} {a b : Expr} {px py pt : Pos} {kt k2 pt2} (hc : X.calm = true) (hN : X.N.Nodup) (hi : X.N[i]? = some x) (hj : X.N[j]? = some y) (hij : i ≠ j)
    (hx : X.env.scope.names.lookup x = some .local) (hy : X.env.scope.names.lookup y = some .local) (ha : PA X [a, b] (SL X.K E fl))
    (hw : swappedStores [.Tuple [.Name x px, .Name y py] kt pt] (.Tuple [a, b] k2 pt2) X.env = pure (some [x, y]))
    (hs : swapsWithSole [.Tuple [.Name x px, .Name y py] kt pt] (.Tuple [a, b] k2 pt2) pos.line X.env = pure false := by rfl) :
    PS X (.Assign [.Tuple [.Name x px, .Name y py] kt pt] (.Tuple [a, b] k2 pt2) pos) (SS X.K E (bPar i j fl)) :=
  wS (ps_par hc hN hi hj hij hx hy ha hw hs) fun D σ H ⟨ρ, aσ, A, w, s, y⟩ => SX.mk w s y.bind fun xs A1 ρ1 H1 vs y1 g1 w1 r1 => by
    match xs, r1, y1 with
    | [x1, x2], r1, y1 =>
      obtain ⟨v, u, rfl, r2, r3⟩ := r1.l2
      exact ⟨v, u, rfl, y1.pure ρ1 H1 g1 w1 _ (((s.grow g1).set r2 i).set r3 j)⟩
    | [], _, y1 => exact y1.fail
    | [_], _, y1 => exact y1.fail
    | _ :: _ :: _ :: _, _, y1 => exact y1.fail
/-! targets -/
theorem g_name {i : Nat} {x : Str} (hN : X.N.Nodup) (hi : X.N[i]? = some x) (hx : Loc X.env.scope x) (hf : X.fn x = true ∨ X.env.scope.names.lookup x = some .local := by first | exact .inl rfl | exact .inr rfl | assumption) : PG X (.Name x pos) (SG X.K E (agName i)) :=
  wG (pg_name hN hi hx hf) fun v σ H Q ⟨ρ, aσ, A, x, w, s, r, y⟩ => y.pure ρ H _ Grow.refl w (s.set r i)
theorem gs_nil : PGs X [] (SGs X.K E agNil) := wGs pgs_nil fun v σ H Q ⟨ρ, aσ, A, x, w, s, r, y⟩ => by
  cases r with
  | nil => exact ⟨rfl, y.pure ρ H σ Grow.refl w s⟩
  | cons _ _ => exact y.fail
theorem gs_cons {e : Expr} {es : List Expr} {t : AG} {u : List AV → ASt → M ASt} (h1 : PG X e (SG X.K E t)) (h2 : PGs X es (SGs X.K E u))
    (hs : (assignEach (e :: es) X.env).map (·.2) = assign e X.env :: (assignEach es X.env).map (·.2) := by rfl) : PGs X (e :: es) (SGs X.K E (agCons t u)) :=
  wGs (pgs_cons h1 h2 hs) fun v σ H Q ⟨ρ, aσ, A, x, w, s, r, y⟩ => by
    cases r with
    | nil => exact y.fail
    | @cons x1 v1 xs vs r1 rs =>
      exact ⟨v1, vs, rfl, ρ, aσ, A, x1, w, s, r1, y.bind.mono (fun s1 A1 y1 ρ1 H1 σ1 g1 w1 sr1 => ⟨ρ1, s1, A1, xs, w1, sr1, g1.vrs rs, y1.mono (fun _ _ q ρ' H' σ' g w s => q ρ' H' σ' (g1.trans g) w s) fun _ _ q => q.tr g1⟩) fun _ _ q => q⟩
theorem g_tup {es : List Expr} {k : Nat} {t : List AV → ASt → M ASt} {n : Nat} (hc : X.calm = true) (h : PGs X es (SGs X.K E t))
    (hn : (assignEach es X.env).length = n := by rfl) (hst : (assignEach es X.env).findIdx? (·.1) = none := by rfl) : PG X (.Tuple es k pos) (SG X.K E (agTup n t)) :=
  wG (pg_tup hc h hn hst) fun v σ H Q ⟨ρ, aσ, A, x, w, s, r, y⟩ => by
    cases x with
    | tup xs =>
      obtain ⟨a, vs, rfl, h1, r1⟩ := r.tup_eq
      unfold agTup at y
      dsimp only at y
      cases hl : Nat.beq xs.length n with
      | false => rw [hl] at y; exact y.fail
      | true =>
        rw [hl] at y
        exact ⟨a, vs, rfl, h1, by rw [← r1.length]; exact Nat.eq_of_beq_eq_true hl, ρ, aσ, A, xs, w, s, r1, y⟩
    | _ => exact y.fail
def PSA (K : PySem.W.Frag) (t : TSet) (g : AV → AV → AV → AH → Option AH) : Prop :=
  ∀ ρ H A o i v o' i' v' A' (Q : Hp → Prop), Wd K ρ H A → VR K ρ H o o' → VR K ρ H i i' → VR K ρ H v v' → g o i v A = some A' → (∀ H', Grow ρ H ρ H' → Wd K ρ H' A' → Q H') → t o' i' v' H Q
theorem g_sub {o i : Expr} {fo fi : ASt → M AV} {t : TSet} {g : AV → AV → AV → AH → Option AH} (ho : PE X o (S X.K E fo)) (hi : PE X i (S X.K E fi)) (hs : PSet X t) (hr : PSA X.K t g)
    (ha : ∀ v, assign (.Subscript o i pos) X.env v = (do
      let ov ← holding [v] (eval o X.env)
      let iv ← holding [v, ov] (eval i X.env)
      standAt pos
      holding [v, ov, iv] (setItem ov iv v)
      release [v, ov, iv] []) := by intro _; rfl) : PG X (.Subscript o i pos) (SG X.K E (agSub fo fi g)) :=
  wG (pg_sub ho hi hs ha) fun v σ H Q ⟨ρ, aσ, A, x, w, s, r, y⟩ => SX.mk w s y.bind fun o1 A1 ρ1 H1 o1' y1 g1 w1 r1 =>
    SX.mk w1 (s.grow g1) (y1.bind.mono (fun _ _ q => q) fun _ _ q => q.tr g1) fun i1 A2 ρ2 H2 i1' y2 g2 w2 r2 => by
      obtain ⟨_, A3, hg, q⟩ := y2.bind.lift
      cases hA : g o1 i1 x A2 with
      | none => rw [hA] at hg; cases hg
      | some A4 =>
        rw [hA] at hg
        cases hg
        exact hr ρ2 H2 A2 o1 i1 x o1' i1' v A3 _ w2 (g2.vr r1) r2 ((g1.trans g2).vr r) hA fun H' g3 w3 => q.pure ρ2 H' σ ((g1.trans g2).trans g3) w3 (s.grow ((g1.trans g2).trans g3))
theorem s_asg {tg e : Expr} {ag : AG} (he : PE X e (S X.K E fe)) (hg : PG X tg (SG X.K E ag)) (hs : swapsWithSole [tg] e pos.line X.env = pure false := by rfl) (hw : swappedStores [tg] e X.env = pure none := by rfl)
    (h1 : (assignEach [tg] X.env).map (·.2) = [assign tg X.env] := by rfl) : PS X (.Assign [tg] e pos) (SS X.K E (bAsg fe ag)) :=
  wS (ps_asg he hg hs hw h1) fun D σ H ⟨ρ, aσ, A, w, s, y⟩ => SX.mk w s y.bind fun x A1 ρ1 H1 v y1 g1 w1 r1 =>
    ⟨ρ1, aσ, A1, x, w1, s.grow g1, r1, y1.bind.mono (fun s1 A2 y2 ρ' H' σ' g2 w2 sr2 => y2.pure ρ' H' (g1.trans g2) w2 σ' sr2) fun _ _ q => q.tr g1⟩
end
/-! xs[i] = v, d[k] = v -/
def setX : List AV → Int → AV → Option (List AV) := fun xs i v => match i with
  | .ofNat n => match Nat.blt n xs.length with
    | true => some (xs.set n v)
    | false => none
  | .negSucc n => match Nat.ble (n + 1) xs.length with
    | true => some (xs.set (xs.length - (n + 1)) v)
    | false => none
def gSetI : AV → AV → AV → AH → Option AH := fun o i v A => match o with
  | .ref j => match A[j]? with
    | some (.lst xs) => match i with
      | .int k => match setX xs k v with
        | some ys => some (A.set j (.lst ys))
        | none => none
      | _ => none
    | some (.dK ks xs) => match keyOf i with
      | some k => match szOk (ks.length + 1) with
        | true => some (A.set j (.dK (dPut ks xs k v).1 (dPut ks xs k v).2))
        | false => none
      | none => none
    | _ => none
  | _ => none
def rSetX : TSet := fun o i v H Q => rSetL o i v H Q ∨ ∃ a H4, o = .ref a ∧ DPut H a i v H4 ∧ Q H4
theorem p_set {X : Cx} (hu : X.A.units + 1 < cLine) : PSet X rSetX := by
  intro pins s σ H o i v ov iv u Q I ro ri rv h
  rcases h with h | ⟨a, H4, rfl, g, q⟩
  · exact set_list pins s σ H o i v ov iv u Q I ro ri rv h
  · cases (show ov = Value.ref a from ro)
    exact d_setItem hu I g ri rv fun s4 I4 => ⟨H4, I4, q⟩
theorem setX_ok {K : PySem.W.Frag} {ρ : List Addr} {H : Hp} {xs ys : List AV} {vs : List V} {k : Int} {x : AV} {v : V} (r : VRs K ρ H xs vs) (rv : VR K ρ H x v) (h : setX xs k x = some ys) : ∃ j, ixN vs.length k = some j ∧ VRs K ρ H ys (vs.set j v) := by
  cases k with
  | ofNat n =>
    unfold setX at h
    dsimp only at h
    cases hc : Nat.blt n xs.length with
    | false => rw [hc] at h; cases h
    | true =>
      rw [hc] at h
      cases h
      have hl : n < xs.length := Nat.blt_eq.mp hc
      exact ⟨n, Evl.ixN_nat (by rw [← r.length]; exact hl), r.set n rv⟩
  | negSucc n =>
    unfold setX at h
    dsimp only at h
    cases hc : Nat.ble (n + 1) xs.length with
    | false => rw [hc] at h; cases h
    | true =>
      rw [hc] at h
      cases h
      have hl := Nat.le_of_ble_eq_true hc
      refine ⟨xs.length - (n + 1), ?_, r.set _ rv⟩
      unfold ixN
      have h1 : ¬ (0 : Int) ≤ Int.negSucc n := by omega
      have h2 : -(vs.length : Int) ≤ Int.negSucc n := by rw [← r.length]; omega
      rw [if_neg h1, if_pos h2]
      have h3 : (Int.negSucc n + (vs.length : Int)).toNat = xs.length - (n + 1) := by rw [← r.length]; omega
      rw [h3]
theorem r_set {K : PySem.W.Frag} : PSA K rSetX gSetI := by
  intro ρ H A o i v o' i' v' A' Q w ro ri rv e q
  unfold gSetI at e
  split at e
  · split at e
    · rename_i hj
      split at e
      · split at e
        · rename_i hs
          cases e
          obtain ⟨a, ws, rfl, ha, h1, r2⟩ := w.lst ro hj
          obtain ⟨jj, h2, r3⟩ := setX_ok r2 rv hs
          have tx : Tx H (upd H a (.lst (ws.set jj v'))) := tx_upd (w.notup (List.mem_of_getElem? ha)) (w.noxd (List.mem_of_getElem? ha))
          obtain ⟨w2, g2⟩ := w.store (u := .lst (ws.set jj v')) (o := .lst _) ha ⟨_, upd_same, by have := r3.mono tx []; rwa [List.append_nil] at this⟩
          exact .inl ⟨a, ws, _, jj, rfl, ri.int_eq, h1, h2, q _ g2 w2⟩
        · cases e
      · cases e
    · rename_i hj
      split at e
      · rename_i k hk
        split at e
        · rename_i hz
          cases e
          obtain ⟨a, kvs, rfl, ha, h1, h2, r2⟩ := w.dK ro hj
          have ek := keyOf_eq ri hk
          subst ek
          obtain ⟨p1, p2⟩ := dPut_ok (k := k) rv h2 r2
          have tx : Tx H (upd H a (.dK (putK kvs k v'))) := tx_upd (w.notup (List.mem_of_getElem? ha)) (w.noxd (List.mem_of_getElem? ha))
          obtain ⟨w2, g2⟩ := w.store (u := .dK (putK kvs k v')) (o := .dK _ _) ha ⟨_, upd_same, p1, by have := p2.mono tx []; rwa [List.append_nil] at this⟩
          have hl : kvs.length < sizeLine := by
            have e1 : kvs.length = (kvs.map (·.1)).length := by simp
            rw [e1, h2]
            exact Evl.sz_lt (Nat.le_of_ble_eq_true hz)
          exact .inr ⟨a, _, rfl, DPut.k h1 hl, q _ g2 w2⟩
        · cases e
      · cases e
    · cases e
  · cases e
end AX

set_option Elab.async false
set_option linter.all false
set_option maxRecDepth 100000
set_option maxHeartbeats 4000000
/-! AX7: what is walked; for; comprehensions. -/
namespace AX
open PySem PySem.Spec PyProof.Rows L2 RZ

abbrev AIt := Nat × (Nat → AH → Option (Option AV))
def ItR (K : PySem.W.Frag) (ρ0 : List Addr) (H0 : Hp) (J : It) (g : Nat → AH → Option (Option AV)) : Prop := ∀ ρ H A i, Grow ρ0 H0 ρ H → Wd K ρ H A → match g i A with
  | some (some x) => J.go i H ∧ ∀ v H', J.yld i H v H' → Grow ρ H ρ H' ∧ Wd K ρ H' A ∧ VR K ρ H' x v
  | some none => J.stop i H
  | none => True
theorem ItR.grow {K : PySem.W.Frag} {ρ0 ρ1 : List Addr} {H0 H1 : Hp} {J : It} {g : Nat → AH → Option (Option AV)} (h : ItR K ρ0 H0 J g) (gr : Grow ρ0 H0 ρ1 H1) : ItR K ρ1 H1 J g := fun ρ H A i g1 w => h ρ H A i (gr.trans g1) w
def SI (K : PySem.W.Frag) (E : XK) (f : ASt → M AIt) : TI := fun σ H R =>
  ∃ ρ aσ A, Wd K ρ H A ∧ SR K ρ H aσ σ ∧ Yes (f aσ) A (fun g A' => ∀ ρ' H' J, Grow ρ H ρ' H' → Wd K ρ' H' A' → ItR K ρ' H' J g.2 → R J H') (fun e A' => PostX K ρ H e A' E)
/-! ### a tuple, a list, a text; range; zip of two tuples -/
def itOf : AV → M AIt
  | .tup xs => M.pure (xs.length + 1, fun i _ => some xs[i]?)
  | .str z => M.pure (z.cps.toList.length + 1, fun i _ => some (match z.cps.toList[i]? with
    | some c => some (.str ⟨#[c]⟩)
    | none => none))
  | .ref j => M.lift fun A => match A[j]? with
    | some (.lst xs) => some ((xs.length + 1, fun i A => match A[j]? with
      | some (.lst ys) => some ys[i]?
      | _ => none), A)
    | _ => none
  | _ => M.fail
def aIt (fe : ASt → M AV) : ASt → M AIt := fun aσ => (fe aσ).bind itOf
theorem itr_tup {K : PySem.W.Frag} {ρ : List Addr} {H : Hp} {a : Addr} {xs : List AV} {vs : List V} (h : SqT K H a vs) (r : VRs K ρ H xs vs) : ItR K ρ H (Itt K a) fun i _ => some xs[i]? := fun ρ' H' A i g w => by
  have h' := g.tx.sq h
  have r' := g.vrs r
  dsimp only
  cases hx : xs[i]? with
  | some x =>
    obtain ⟨v, h1, h2⟩ := r'.get hx
    refine ⟨⟨vs, v, h', h1⟩, fun u H2 y => ?_⟩
    obtain ⟨e1, e2⟩ := y
    subst e1
    have := e2 vs h'
    rw [h1] at this
    cases this
    exact ⟨Grow.refl, w, h2⟩
  | none => exact ⟨vs, h', by rw [← r'.length]; exact List.getElem?_eq_none_iff.mp hx⟩
theorem itr_str {K : PySem.W.Frag} {ρ : List Addr} {H : Hp} (z : Str) : ItR K ρ H (Its z) fun i _ => some (match z.cps.toList[i]? with
    | some c => some (.str ⟨#[c]⟩)
    | none => none) := fun ρ' H' A i g w => by
  dsimp only
  have e0 : z.cps.toList[i]? = z.cps[i]? := by simp
  cases hx : z.cps.toList[i]? with
  | some c =>
    refine ⟨?_, fun u H2 y => ?_⟩
    · have := (List.getElem?_eq_some_iff.mp hx).1
      show i < z.cps.size
      simpa using this
    · obtain ⟨e1, c', e2, e3⟩ := y
      rw [← e0, hx] at e2
      cases e2
      subst e1 e3
      exact ⟨Grow.refl, w, .str _⟩
  | none =>
    have := List.getElem?_eq_none_iff.mp hx
    show z.cps.size ≤ i
    simpa using this
theorem itr_lst {K : PySem.W.Frag} {ρ : List Addr} {H : Hp} {a : Addr} {j : Nat} (ha : ρ[j]? = some a) : ItR K ρ H (Itl K a) fun i A => match A[j]? with
      | some (.lst ys) => some ys[i]?
      | _ => none := fun ρ' H' A i g w => by
  obtain ⟨n, en, _⟩ := g.pre
  have ha' : ρ'[j]? = some a := by rw [en, List.getElem?_append_left (List.getElem?_eq_some_iff.mp ha).1]; exact ha
  dsimp only
  cases hA : A[j]? with
  | none => exact trivial
  | some o =>
    cases o with
    | lst ys =>
      obtain ⟨vs, h1, r⟩ := w.obj ha' hA
      have h' : SqL K H' a vs := Evl.sq_of h1
      have uniq : ∀ {xs : List V}, SqL K H' a xs → (∀ v, xs[i]? = some v → True) := fun _ _ _ => trivial
      dsimp only
      cases hx : ys[i]? with
      | some x =>
        obtain ⟨v, h3, h2⟩ := r.get hx
        refine ⟨⟨vs, v, h', h3⟩, fun u H2 y => ?_⟩
        obtain ⟨e1, e2⟩ := y
        subst e1
        have := e2 vs h'
        rw [h3] at this
        cases this
        exact ⟨Grow.refl, w, h2⟩
      | none => exact ⟨vs, h', by rw [← r.length]; exact List.getElem?_eq_none_iff.mp hx⟩
    | _ => exact trivial
def aRng (f : ASt → M (List AV)) : ASt → M AIt := fun aσ => (f aσ).bind fun xs => match xs with
  | [.int (.ofNat n)] => match szOk n with
    | true => M.pure (n + 1, fun i _ => some (match Nat.blt i n with
      | true => some (.int (Int.ofNat i))
      | false => none))
    | false => M.fail
  | _ => M.fail
def aZip (f : ASt → M (List AV)) : ASt → M AIt := fun aσ => (f aσ).bind fun xs => match xs with
  | [.tup xs, .tup ys] => M.pure (xs.length + 1, fun i _ => some (match xs[i]?, ys[i]? with
      | some x, some y => some (.tup [x, y])
      | _, _ => none))
  | _ => M.fail
theorem itr_rng {K : PySem.W.Frag} {ρ : List Addr} {H : Hp} (n : Nat) : ItR K ρ H (Itr 0 n) fun i _ => some (match Nat.blt i n with
      | true => some (.int (Int.ofNat i))
      | false => none) := fun ρ' H' A i g w => by
  dsimp only
  cases hx : Nat.blt i n with
  | true =>
    refine ⟨Nat.blt_eq.mp hx, fun u H2 y => ?_⟩
    obtain ⟨e1, e2⟩ := y
    subst e1 e2
    refine ⟨Grow.refl, w, ?_⟩
    rw [show (0 : Int) + (i : Int) = Int.ofNat i from Int.zero_add _]
    exact .int _
  | false =>
    show n ≤ i
    have : ¬ i < n := fun h => by rw [Nat.blt_eq.mpr h] at hx; cases hx
    omega
theorem itr_zip {K : PySem.W.Frag} {ρ : List Addr} {H : Hp} {a b : Addr} {xs ys : List AV} {vs us : List V} (h1 : SqT K H a vs) (r1 : VRs K ρ H xs vs) (h2 : SqT K H b us) (r2 : VRs K ρ H ys us) :
    ItR K ρ H (ItzT K a b) fun i _ => some (match xs[i]?, ys[i]? with
      | some x, some y => some (.tup [x, y])
      | _, _ => none) := fun ρ' H' A i g w => by
  have h1' := g.tx.sq h1
  have r1' := g.vrs r1
  have h2' := g.tx.sq h2
  have r2' := g.vrs r2
  dsimp only
  cases hx : xs[i]? with
  | none => exact ⟨vs, us, h1', h2', .inl (by rw [← r1'.length]; exact List.getElem?_eq_none_iff.mp hx)⟩
  | some x =>
    cases hy : ys[i]? with
    | none => exact ⟨vs, us, h1', h2', .inr (by rw [← r2'.length]; exact List.getElem?_eq_none_iff.mp hy)⟩
    | some y =>
      obtain ⟨v, e1, q1⟩ := r1'.get hx
      obtain ⟨u, e2, q2⟩ := r2'.get hy
      refine ⟨⟨vs, us, v, u, h1', h2', e1, e2⟩, fun z H2 yl => ?_⟩
      obtain ⟨T, x1, y1, ez, hT, eH, k1, k2⟩ := yl
      have a1 := k1 vs h1'
      have a2 := k2 us h2'
      rw [e1] at a1
      rw [e2] at a2
      cases a1
      cases a2
      subst ez eH
      obtain ⟨w2, g2⟩ := w.out (u := .tup [v, u]) hT
      exact ⟨g2, w2, .tup (Evl.st_of upd_same) (.cons (g2.vr q1) (.cons (g2.vr q2) .nil))⟩
section
variable {X : Cx} {E : XK} {tg e a : Expr} {fe : ASt → M AV} {fl : ASt → M (List AV)}
theorem i_seq (he : PE X e (S X.K E fe)) : PI X tg e (SI X.K E (aIt fe)) := by
  refine ⟨fun pins s σ H R I ⟨ρ, aσ, A, w, sr, y⟩ => ?_⟩
  obtain ⟨l, A', r, e0, hl, q⟩ := y.bind
  have he' : ∀ (Q : VK), (match r with
      | .ok x => ∀ ρ' H' v, Grow ρ H ρ' H' → Wd X.K ρ' H' A' → VR X.K ρ' H' x v → Q v H'
      | .error e => PostX X.K ρ H e A' E) → S X.K E fe σ H Q := fun Q h => ⟨ρ, aσ, A, w, sr, l, A', r, e0, hl, by
    cases r with
    | ok x => exact h
    | error e => exact h⟩
  cases r with
  | error ex => exact (pi_list (tg := tg) he).run pins s σ H R I (he' _ q)
  | ok x =>
    cases x with
    | tup xs =>
      refine (pi_tup (tg := tg) he).run pins s σ H R I (he' _ fun ρ' H' v g w' r' => ?_)
      obtain ⟨a, vs, rfl, h1, r1⟩ := r'.tup_eq
      exact ⟨a, rfl, ⟨vs, h1⟩, (show Yes (M.pure _) A' _ _ from q).pure ρ' H' _ g w' (itr_tup h1 r1)⟩
    | str z =>
      refine (pi_str (tg := tg) he).run pins s σ H R I (he' _ fun ρ' H' v g w' r' => ?_)
      exact ⟨z, r'.str_eq, (show Yes (M.pure _) A' _ _ from q).pure ρ' H' _ g w' (itr_str z)⟩
    | ref j =>
      refine (pi_list (tg := tg) he).run pins s σ H R I (he' _ fun ρ' H' v g w' r' => ?_)
      obtain ⟨gg, A2, hg, q2⟩ := (show Yes (M.lift _) A' _ _ from q).lift
      cases hj : A'[j]? with
      | none => rw [hj] at hg; cases hg
      | some o =>
        cases o with
        | lst xs =>
          rw [hj] at hg
          cases hg
          obtain ⟨a, vs, rfl, ha, h1, r1⟩ := w'.lst r' hj
          exact ⟨a, rfl, ⟨vs, Evl.sq_of h1⟩, q2 ρ' H' _ g w' (itr_lst ha)⟩
        | _ => rw [hj] at hg; cases hg
    | _ => exact (show Yes (M.fail) A' _ _ from q).fail
theorem i_rng {p pos : Pos} (hg : Gl X "range") (hm : X.mg "range" = none) (ha : PA X [a] (SL X.K E fl)) (hs : starEach [a] X.env = [(false, eval a X.env)] := by rfl) : PI X tg (.Call (.Name "range" p) [a] [] pos) (SI X.K E (aRng fl)) := by
  refine ⟨fun pins s σ H R I ⟨ρ, aσ, A, w, sr, y⟩ => (pi_range1 hg hm ha hs).run pins s σ H R I (SX.mk w sr y.bind fun xs A1 ρ1 H1 vs y1 g1 w1 r1 => ?_)⟩
  split at y1
  · split at y1
    · rename_i n _ hz
      obtain ⟨v, rfl, r2⟩ := r1.l1
      have hn := Nat.le_of_ble_eq_true hz
      refine ⟨(n : Int), by rw [r2.int_eq] <;> rfl, by omega, by omega, ?_⟩
      have q := y1.pure ρ1 H1 (Itr 0 n) g1 w1 (itr_rng n)
      exact q
    · exact y1.fail
  · exact y1.fail
theorem i_zip {b : Expr} {p pos tpos : Pos} {elts : List Expr} {kk : Nat} (hg : Gl X "zip") (hm : X.mg "zip" = none) (ha : PA X [a, b] (SL X.K E fl))
    (hs : starEach [a, b] X.env = (false, eval a X.env) :: starEach [b] X.env := by rfl) (hpl : (backTo pos (starEach [b] X.env)).any (·.1) = false := by rfl) :
    PI X (.Tuple elts kk tpos) (.Call (.Name "zip" p) [a, b] [] pos) (SI X.K E (aZip fl)) := by
  refine ⟨fun pins s σ H R I ⟨ρ, aσ, A, w, sr, y⟩ => (pi_zipA hg hm ha hs hpl).run pins s σ H R I (SX.mk w sr y.bind fun xs A1 ρ1 H1 vs y1 g1 w1 r1 => ?_)⟩
  split at y1
  · obtain ⟨v, u, rfl, r2, r3⟩ := r1.l2
    obtain ⟨a, vs, rfl, h1, q1⟩ := r2.tup_eq
    obtain ⟨b, us, rfl, h2, q2⟩ := r3.tup_eq
    exact ⟨a, b, vs, us, rfl, .inr ⟨h1, h2, y1.pure ρ1 H1 _ g1 w1 (itr_zip h1 q1 h2 q2)⟩⟩
  · exact y1.fail
end

/-! ### for -/
def M.get {α : Type} (h : AH → Option α) : M α := fun A => match h A with
  | some a => some ([], A, .ok a)
  | none => none
theorem Yes.get {α : Type} {h : AH → Option α} {A : AH} {k : α → AH → Prop} {x : AExc → AH → Prop} (y : Yes (M.get h) A k x) : ∃ a, h A = some a ∧ k a A := by
  obtain ⟨l, A', r, e, _, q⟩ := y
  unfold M.get at e
  cases hp : h A with
  | none => rw [hp] at e; cases e
  | some a => rw [hp] at e; cases e; exact ⟨a, rfl, q⟩
def loopF (g : Nat → AH → Option (Option AV)) (tg : AG) (body : ASt → M AOut) : Nat → Nat → ASt → M AOut
  | 0, _, _ => M.fail
  | n + 1, i, s => (M.get (g i)).bind fun o => match o with
    | none => M.pure (.nx s)
    | some x => (tg x s).bind fun s1 => (body s1).bind fun o => match o with
      | .nx s2 => loopF g tg body n (i + 1) s2
      | .ct s2 => loopF g tg body n (i + 1) s2
      | .bk s2 => M.pure (.nx s2)
      | .rt v => M.pure (.rt v)
def bFor (fi : ASt → M AIt) (tg : AG) (body : ASt → M AOut) : ASt → M AOut := fun aσ => (fi aσ).bind fun ng => loopF ng.2 tg body ng.1 0 aσ
section
variable {X : Cx} {E : XK} {tg iter : Expr} {body : List Stmt} {fi : ASt → M AIt} {ag : AG} {fb : ASt → M AOut} {pos : Pos}
theorem s_for (hp : PassesOwn (model X.prog X.w) X.A X.env X.xe) (hc : X.calm = true) (hi : PI X tg iter (SI X.K E fi)) (hg : PG X tg (SG X.K E ag)) (hb : PSs X body (SS X.K E fb)) (hs : ∀ x, foldedSetIterable iter X.env x = pure x := by intro _; rfl) : PS X (.For tg iter body [] pos) (SS X.K E (bFor fi ag fb)) :=
  wS (ps_for hp hc hi hg hb hs) fun D σ H ⟨ρ, aσ, A, w, s, y⟩ => ⟨ρ, aσ, A, w, s, y.bind.mono (fun ng A1 y1 ρ1 H1 J g1 w1 it => by
    refine ⟨fun i m σ2 H2 => ∃ ρ2 aσ2 A2, Grow ρ1 H1 ρ2 H2 ∧ Wd X.K ρ2 H2 A2 ∧ SR X.K ρ2 H2 aσ2 σ2 ∧ Yes (loopF ng.2 ag fb m i aσ2) A2 (fun o A' => PostO X.K ρ H o A' D) (fun e A' => PostX X.K ρ H e A' E), ?_, ?_⟩
    · refine ⟨ng.1, ρ1, aσ, A1, Grow.refl, w1, s.grow g1, y1⟩
    · rintro i m σ2 H2 ⟨ρ2, aσ2, A2, g2, w2, s2, y2⟩
      have g12 := g1.trans g2
      cases m with
      | zero => exact (show Yes M.fail A2 _ _ from y2).fail
      | succ m =>
        obtain ⟨o, ho, y3⟩ := (show Yes ((M.get (ng.2 i)).bind _) A2 _ _ from y2).bind.get
        have hit := it ρ2 H2 A2 i g2 w2
        rw [ho] at hit
        cases o with
        | none =>
          refine .inl ⟨hit, ?_⟩
          exact y3.pure ρ2 H2 g12 w2 σ2 s2
        | some x =>
          refine .inr ⟨hit.1, fun σ' H' => ∃ m', m' < m + 1 ∧ ∃ ρ2 aσ2 A2, Grow ρ1 H1 ρ2 H' ∧ Wd X.K ρ2 H' A2 ∧ SR X.K ρ2 H' aσ2 σ' ∧ Yes (loopF ng.2 ag fb m' (i + 1) aσ2) A2 (fun o A' => PostO X.K ρ H o A' D) (fun e A' => PostX X.K ρ H e A' E), fun σ' H' h => h, fun v H' yl => ?_⟩
          obtain ⟨g3, w3, r3⟩ := hit.2 v H' yl
          have g13 := g12.trans g3
          refine ⟨ρ2, aσ2, A2, x, w3, s2.grow g3, r3, y3.bind.mono (fun s4 A4 y4 ρ4 H4 σ4 g4 w4 sr4 => ?_) fun _ _ q => q.tr g13⟩
          refine ⟨ρ4, s4, A4, w4, sr4, y4.bind.mono (fun o A5 y5 ρ5 H5 g5 w5 => ?_) fun _ _ q => q.tr (g13.trans g4)⟩
          have g25 := (g3.trans g4).trans g5
          cases o with
          | nx s6 => exact fun σ' sr => ⟨m, Nat.lt_succ_self m, ρ5, s6, A5, g2.trans g25, w5, sr, y5⟩
          | ct s6 => exact fun σ' sr => ⟨m, Nat.lt_succ_self m, ρ5, s6, A5, g2.trans g25, w5, sr, y5⟩
          | bk s6 => exact fun σ' sr => y5.pure ρ5 H5 (g12.trans g25) w5 σ' sr
          | rt v => exact fun u r => y5.pure ρ5 H5 (g12.trans g25) w5 u r) fun _ _ q => q⟩
end

/-! ### comprehensions -/
/-- targets of a comprehension: names, tuples of names; vs their slots -/
def TgR (K : PySem.W.Frag) (t : TG) (ag : AV → ASt → AH → Option ASt) (vs : List Nat) : Prop := ∀ ρ H A x v aσ σ s (Q : L2.St → Hp → Prop), Wd K ρ H A → VR K ρ H x v → SR K ρ H aσ σ → ag x aσ A = some s → (∀ σ2, SR K ρ H s σ2 → wipe σ2 vs = wipe σ vs → Q σ2 H) → t v σ H Q
def TgsR (K : PySem.W.Frag) (t : TGs) (ag : List AV → ASt → AH → Option ASt) (vs : List Nat) : Prop := ∀ ρ H A x v aσ σ s (Q : L2.St → Hp → Prop), Wd K ρ H A → VRs K ρ H x v → SR K ρ H aσ σ → ag x aσ A = some s → (∀ σ2, SR K ρ H s σ2 → wipe σ2 vs = wipe σ vs → Q σ2 H) → t v σ H Q
def cName (i : Nat) : AV → ASt → AH → Option ASt := fun x s _ => some (s.set i (some x))
def cNil : List AV → ASt → AH → Option ASt := fun xs s _ => match xs with
  | [] => some s
  | _ => none
def cCons (g : AV → ASt → AH → Option ASt) (h : List AV → ASt → AH → Option ASt) : List AV → ASt → AH → Option ASt := fun xs s A => match xs with
  | x :: r => match g x s A with
    | some s' => h r s' A
    | none => none
  | [] => none
def cTup (n : Nat) (h : List AV → ASt → AH → Option ASt) : AV → ASt → AH → Option ASt := fun x s A => match x with
  | .tup xs => match Nat.beq xs.length n with
    | true => h xs s A
    | false => none
  | _ => none
/-- .. from a list -/
def cLst (n : Nat) (h : List AV → ASt → AH → Option ASt) : AV → ASt → AH → Option ASt := fun x s A => match x with
  | .ref i => match A[i]? with
    | some (.lst xs) => match Nat.beq xs.length n with
      | true => h xs s A
      | false => none
    | _ => none
  | _ => none
theorem wipe_get (σ : L2.St) : ∀ (vs : List Nat) (i : Nat), (wipe σ vs)[i]? = if i ∈ vs then (if i < σ.length then some none else none) else σ[i]?
  | [], i => by simp [wipe]
  | v :: vs, i => by
    unfold wipe
    by_cases h : i = v
    · subst h
      by_cases hl : i < σ.length
      · rw [List.getElem?_set_self (by rw [wipe_length]; exact hl)]
        simp [hl]
      · rw [List.getElem?_eq_none_iff.mpr (by rw [List.length_set, wipe_length]; omega)]
        simp [hl]
    · rw [List.getElem?_set_ne (Ne.symm h), wipe_get σ vs i]
      simp [h]
theorem wipe_set {σ : L2.St} {vs : List Nat} {i : Nat} (hi : i ∈ vs) (x : Option V) : wipe (σ.set i x) vs = wipe σ vs := by
  apply List.ext_getElem?
  intro j
  rw [wipe_get, wipe_get, List.length_set]
  by_cases h : j ∈ vs
  · simp [h]
  · simp only [h, if_false]
    rw [List.getElem?_set_ne fun e => h (by rw [← e]; exact hi)]
theorem tg_name {K : PySem.W.Frag} {vs : List Nat} (i : Nat) (hi : i ∈ vs) : TgR K (gName i) (cName i) vs := fun ρ H A x v aσ σ s Q w r sr e q => by
  cases e
  exact q _ (sr.set r i) (wipe_set hi _)
theorem tgs_nil {K : PySem.W.Frag} {vs : List Nat} : TgsR K gNil cNil vs := fun ρ H A x v aσ σ s Q w r sr e q => by
  cases r with
  | nil => cases e; exact ⟨rfl, q σ sr rfl⟩
  | cons _ _ => cases e
theorem tgs_cons {K : PySem.W.Frag} {vs : List Nat} {t : TG} {u : TGs} {g : AV → ASt → AH → Option ASt} {h : List AV → ASt → AH → Option ASt} (h1 : TgR K t g vs) (h2 : TgsR K u h vs) : TgsR K (gCons t u) (cCons g h) vs := fun ρ H A x v aσ σ s Q w r sr e q => by
  cases r with
  | nil => cases e
  | @cons x1 v1 xs vs1 r1 rs =>
    unfold cCons at e
    dsimp only at e
    cases hg : g x1 aσ A with
    | none => rw [hg] at e; cases e
    | some s1 =>
      rw [hg] at e
      exact ⟨v1, vs1, rfl, h1 ρ H A x1 v1 aσ σ s1 _ w r1 sr hg fun σ2 sr2 e2 => h2 ρ H A xs vs1 s1 σ2 s Q w rs sr2 e fun σ3 sr3 e3 => q σ3 sr3 (e3.trans e2)⟩
theorem tg_tup {K : PySem.W.Frag} {vs : List Nat} {n : Nat} {u : TGs} {h : List AV → ASt → AH → Option ASt} (h2 : TgsR K u h vs) : TgR K (gTup K n u) (cTup n h) vs := fun ρ H A x v aσ σ s Q w r sr e q => by
  unfold cTup at e
  split at e
  · split at e
    · rename_i hl
      obtain ⟨a, us, rfl, h1, r1⟩ := r.tup_eq
      exact ⟨a, us, rfl, h1, by rw [← r1.length]; exact Nat.eq_of_beq_eq_true hl, h2 ρ H A _ us aσ σ s Q w r1 sr e q⟩
    · cases e
  · cases e
theorem tg_lst {K : PySem.W.Frag} {vs : List Nat} {n : Nat} {u : TGs} {h : List AV → ASt → AH → Option ASt} (h2 : TgsR K u h vs) : TgR K (gLst K n u) (cLst n h) vs := fun ρ H A x v aσ σ s Q w r sr e q => by
  unfold cLst at e
  split at e
  · split at e
    · rename_i hA
      split at e
      · rename_i hl
        obtain ⟨a, us, rfl, _, h1, r1⟩ := w.lst r hA
        exact ⟨a, us, rfl, Evl.sq_of h1, by rw [← r1.length]; exact Nat.eq_of_beq_eq_true hl, h2 ρ H A _ us aσ σ s Q w r1 sr e q⟩
      · cases e
    · cases e
  · cases e
def wipeA (s : ASt) : List Nat → ASt
  | [] => s
  | v :: vs => (wipeA s vs).set v none
theorem SR.wipe {K : PySem.W.Frag} {ρ : List Addr} {H : Hp} {aσ : ASt} {σ : L2.St} (s : SR K ρ H aσ σ) : ∀ vs : List Nat, SR K ρ H (wipeA aσ vs) (L2.wipe σ vs)
  | [] => s
  | v :: vs => by
    have ih := SR.wipe s vs
    unfold wipeA L2.wipe
    refine ⟨by rw [List.length_set, List.length_set]; exact ih.1, fun i x h => ?_⟩
    by_cases e : i = v
    · subst e
      by_cases hl : i < (wipeA aσ vs).length
      · rw [List.getElem?_set_self hl] at h; cases h
      · rw [List.getElem?_eq_none_iff.mpr (by rw [List.length_set]; omega)] at h; cases h
    · rw [List.getElem?_set_ne (Ne.symm e)] at h
      obtain ⟨u, h1, h2⟩ := ih.2 i x h
      exact ⟨u, by rw [List.getElem?_set_ne (Ne.symm e)]; exact h1, h2⟩

theorem wipe_idem (σ : L2.St) (vs : List Nat) : L2.wipe (L2.wipe σ vs) vs = L2.wipe σ vs := by
  apply List.ext_getElem?
  intro j
  rw [wipe_get, wipe_length, wipe_get]
  by_cases h : j ∈ vs
  · simp [h]
  · simp [h]
section
variable {K : PySem.W.Frag} {ρ ρ' : List Addr} {H H' : Hp} {A : AH} {D : Addr} {u o : HO}
theorem Grow.notin (g : Grow ρ H ρ' H') (h : H D = some o) (hn : D ∉ ρ) : D ∉ ρ' := fun hm => by
  obtain ⟨n, e, f⟩ := g.pre
  rw [e] at hm
  rcases List.mem_append.mp hm with q | q
  · exact hn q
  · rw [f D q] at h; cases h
/-- an object that was not there at H may change -/
theorem Grow.mut (g : Grow ρ H ρ' H') (hD : H D = none) (tx : Tx H' (upd H' D u)) : Grow ρ H ρ' (upd H' D u) := by
  refine ⟨g.pre, fun a o' h hn => ?_, fun a h => ?_, g.tx.trans tx⟩
  · rw [upd_ne (ne_of_none h hD)]
    exact g.keep a o' h hn
  · by_cases q : a = D
    · subst q; rw [upd_same] at h; cases h
    · rw [upd_ne q] at h; exact g.dom a h
theorem tx_of {H : Hp} {vs : List V} (h : H D = some (.lst vs)) : Tx H (upd H D u) := tx_upd (fun xs r => by
  rcases r with r | ⟨o, r⟩ <;> rw [h] at r <;> cases r) (fun o e => by rw [h] at e; cases e; exact id)
theorem tx_ofK {H : Hp} {vs : List (Key × V)} (h : H D = some (.dK vs)) : Tx H (upd H D u) := tx_upd (fun xs r => by
  rcases r with r | ⟨o, r⟩ <;> rw [h] at r <;> cases r) (fun o e => by rw [h] at e; cases e; exact id)
theorem Wd.beside (w : Wd K ρ H A) (hn : D ∉ ρ) (tx : Tx H (upd H D u)) : Wd K ρ (upd H D u) A := ⟨w.len, w.nd, fun j b o' hb ho => by
  have hne : b ≠ D := fun e => hn (e ▸ List.mem_of_getElem? hb)
  have := (w.at_ j b o' hb ho).mono tx [] (upd_ne hne)
  rwa [List.append_nil] at this⟩
theorem VRs.tx {xs : List AV} {vs : List V} (r : VRs K ρ H xs vs) (tx : Tx H H') : VRs K ρ H' xs vs := by
  have := r.mono tx []
  rwa [List.append_nil] at this
end
/-- no exception leaves a block -/
abbrev EF : XK := fun _ _ _ => False
def M.nox {α : Type} (m : M α) : M α := fun A => match m A with
  | some (l, A', .ok a) => some (l, A', .ok a)
  | _ => none
theorem Yes.nox {α : Type} {m : M α} {A : AH} {k : α → AH → Prop} {x : AExc → AH → Prop} (y : Yes (M.nox m) A k x) : Yes m A k (fun _ _ => False) := by
  obtain ⟨l, A', r, e, hl, q⟩ := y
  unfold M.nox at e
  cases hp : m A with
  | none => rw [hp] at e; cases e
  | some p =>
    obtain ⟨l1, A1, r1⟩ := p
    rw [hp] at e
    cases r1 with
    | ok a => cases e; exact ⟨_, _, _, hp, hl, q⟩
    | error _ => cases e
theorem noX {K : PySem.W.Frag} {ρ : List Addr} {H : Hp} {e : AExc} {A : AH} {E : XK} (h : False) : PostX K ρ H e A E := h.elim
/-- the tests of a block: none, one -/
def aYes : ASt → M Bool := fun _ => M.pure true
section
variable {X : Cx} {E : XK} {c : Expr} {f : ASt → M Bool}
theorem ts_nil : PTs X [] (ST X.K E aYes) := ⟨fun pins s σ H Q I ⟨ρ, aσ, A, w, sr, y⟩ => pts_nil.run pins s σ H Q I (y.pure ρ H true Grow.refl w rfl)⟩
theorem ts_one (h : PT X c (ST X.K E f)) : PTs X [c] (ST X.K E f) := pts_one h
end
def loopC (g : Nat → AH → Option (Option AV)) (ag : AV → ASt → AH → Option ASt) (ft : ASt → M Bool) (fe : ASt → M AV) (s : ASt) : Nat → Nat → List AV → M (List AV)
  | 0, _, _ => M.fail
  | n + 1, i, acc => (M.get (g i)).bind fun o => match o with
    | none => M.pure acc
    | some x => (M.get (ag x s)).bind fun s1 => (ft s1).nox.bind fun b => match b with
      | true => (fe s1).nox.bind fun y => (M.chk fun _ => szOk (acc.length + 1)).bind fun _ => loopC g ag ft fe s n (i + 1) (acc ++ [y])
      | false => loopC g ag ft fe s n (i + 1) acc
def aLc (fi : ASt → M AIt) (ag : AV → ASt → AH → Option ASt) (ft : ASt → M Bool) (fe : ASt → M AV) (vs : List Nat) : ASt → M AV := fun aσ => (fi aσ).bind fun ng => (loopC ng.2 ag ft fe (wipeA aσ vs) ng.1 0 []).bind fun acc => M.lift (fun A => some (.ref A.length, A ++ [.lst acc]))
/-- the new list's walk -/
theorem lc_sound {K : PySem.W.Frag} {E : XK} {fi : ASt → M AIt} {t : TG} {ag : AV → ASt → AH → Option ASt} {ft : ASt → M Bool} {fe : ASt → M AV} {vs : List Nat} (hg : TgR K t ag vs) : ∀ σ H Q, S K E (aLc fi ag ft fe vs) σ H Q → tLc (SI K E fi) t (ST K EF ft) (S K EF fe) vs σ H Q :=
  fun σ H Q ⟨ρ, aσ, A, w, s, y⟩ => ⟨ρ, aσ, A, w, s, y.bind.mono (fun ng A1 y1 ρ1 H1 J g1 w1 it D hD => by
    obtain ⟨w2, g2⟩ := w1.out (u := .lst []) hD
    refine ⟨fun i m H2 => ∃ ρ2 A2 acc vacc, Grow ρ1 H1 ρ2 H2 ∧ Wd K ρ2 H2 A2 ∧ H2 D = some (.lst vacc) ∧ D ∉ ρ2 ∧ VRs K ρ2 H2 acc vacc ∧
      Yes (loopC ng.2 ag ft fe (wipeA aσ vs) m i acc) A2 (fun acc A' => Yes (M.lift (fun A => some (.ref A.length, A ++ [.lst acc]))) A' (fun x A' => Post K (VR K) ρ H x A' Q) (fun e A' => PostX K ρ H e A' E)) (fun e A' => PostX K ρ H e A' E), ?_, ?_⟩
    · refine ⟨ng.1, ρ1, A1, [], [], g2, w2, upd_same, fun hm => ?_, .nil, y1.bind⟩
      obtain ⟨u, h, _⟩ := w1.own hm
      rw [hD] at h; cases h
    · rintro i m H2 ⟨ρ2, A2, acc, vacc, g3, w3, hDl, hDn, ra, y2⟩
      have g13 := g1.trans g3
      cases m with
      | zero => exact (show Yes M.fail A2 _ _ from y2).fail
      | succ m =>
        obtain ⟨o, ho, y3⟩ := (show Yes ((M.get (ng.2 i)).bind _) A2 _ _ from y2).bind.get
        have hit := it ρ2 H2 A2 i g3 w3
        rw [ho] at hit
        cases o with
        | none =>
          refine .inl ⟨hit, ?_⟩
          obtain ⟨z, A', hz, q⟩ := y3.pure.lift
          cases hz
          -- the list becomes an own object
          have gn : Grow ρ2 H2 ρ2 H2 := Grow.refl
          have wn : Wd K (ρ2 ++ [D]) H2 (A2 ++ [.lst acc]) := by
            refine ⟨by rw [List.length_append, List.length_append, w3.len] <;> rfl, ?_, fun j b o' hb ho => ?_⟩
            · rw [List.nodup_append]
              refine ⟨w3.nd, by simp, fun a ha b hb => ?_⟩
              have : b = D := by simpa using hb
              subst this
              exact fun e => hDn (e ▸ ha)
            · by_cases hj : j < ρ2.length
              · rw [List.getElem?_append_left hj] at hb
                rw [List.getElem?_append_left (by rw [← w3.len]; exact hj)] at ho
                exact (w3.at_ j b o' hb ho).mono (Tx.refl _) [D] rfl
              · have hj2 : j = ρ2.length := by
                  have := (List.getElem?_eq_some_iff.mp hb).1
                  rw [List.length_append] at this
                  simp at this
                  omega
                subst hj2
                rw [List.getElem?_append_right (Nat.le_refl _)] at hb
                rw [w3.len, List.getElem?_append_right (Nat.le_refl _)] at ho
                simp at hb ho
                subst hb; subst ho
                exact ⟨vacc, hDl, ra.mono (Tx.refl _) [D]⟩
          obtain ⟨n, en, fn⟩ := g13.pre
          have gw : Grow ρ H (ρ2 ++ [D]) H2 := ⟨⟨n ++ [D], by rw [en, List.append_assoc], fun a ha => by
            rcases List.mem_append.mp ha with h | h
            · exact fn a h
            · have : a = D := by simpa using h
              subst this
              exact g1.dom a hD⟩, g13.keep, g13.dom, g13.tx⟩
          exact q (ρ2 ++ [D]) H2 (.ref D) gw wn (.ref (by rw [← w3.len]; simp))
        | some x =>
          refine .inr ⟨hit.1, fun H' => ∃ m', m' < m + 1 ∧ ∃ ρ2 A2 acc vacc, Grow ρ1 H1 ρ2 H' ∧ Wd K ρ2 H' A2 ∧ H' D = some (.lst vacc) ∧ D ∉ ρ2 ∧ VRs K ρ2 H' acc vacc ∧
            Yes (loopC ng.2 ag ft fe (wipeA aσ vs) m' (i + 1) acc) A2 (fun acc A' => Yes (M.lift (fun A => some (.ref A.length, A ++ [.lst acc]))) A' (fun x A' => Post K (VR K) ρ H x A' Q) (fun e A' => PostX K ρ H e A' E)) (fun e A' => PostX K ρ H e A' E), fun H' h => h, fun v H' yl => ?_⟩
          obtain ⟨g4, w4, r4⟩ := hit.2 v H' yl
          obtain ⟨s1, hs1, y4⟩ := y3.bind.get
          have hD4 : H' D = some (.lst vacc) := g4.keep D _ hDl hDn
          refine hg ρ2 H' A2 x v (wipeA aσ vs) (wipe σ vs) s1 _ w4 r4 ((s.grow (g13.trans g4)).wipe vs) hs1 fun σ2 sr2 ew => ⟨by rw [ew]; exact wipe_idem σ vs, ?_⟩
          refine ⟨ρ2, s1, A2, w4, sr2, y4.bind.nox.mono (fun b A5 y5 ρ5 H5 b' g5 w5 eb => ?_) fun _ _ h => noX h⟩
          cases eb
          have hD5 : H5 D = some (.lst vacc) := g5.keep D _ hD4 hDn
          have hDn5 : D ∉ ρ5 := g5.notin hD4 hDn
          cases b with
          | true =>
            rw [if_pos rfl]
            refine ⟨ρ5, s1, A5, w5, sr2.grow g5, y5.bind.nox.mono (fun z A6 y6 ρ6 H6 z' g6 w6 r6 => ?_) fun _ _ h => noX h⟩
            have hD6 : H6 D = some (.lst vacc) := g6.keep D _ hD5 hDn5
            have hDn6 : D ∉ ρ6 := g6.notin hD5 hDn5
            obtain ⟨hsz, y7⟩ := y6.bind.chk
            have ra6 : VRs K ρ6 H6 acc vacc := ((g4.trans g5).trans g6).vrs ra
            refine ⟨vacc, hD6, by rw [← ra6.length]; exact Evl.sz_lt (Nat.le_of_ble_eq_true hsz), m, Nat.lt_succ_self m, ρ6, A6, acc ++ [z], vacc ++ [z'], ?_, ?_, upd_same, hDn6, ?_, y7⟩
            · exact (g3.trans ((g4.trans g5).trans g6)).mut hD (tx_of hD6)
            · exact w6.beside hDn6 (tx_of hD6)
            · exact (ra6.append (.cons r6 .nil)).tx (tx_of hD6)
          | false =>
            rw [if_neg Bool.false_ne_true]
            exact ⟨m, Nat.lt_succ_self m, ρ5, A5, acc, vacc, g3.trans (g4.trans g5), w5, hD5, hDn5, (g4.trans g5).vrs ra, y5⟩) fun _ _ q => q⟩
end AX

set_option Elab.async false
set_option linter.all false
set_option maxRecDepth 100000
set_option maxHeartbeats 4000000
/-! AX8: defs, calls, instances; further statements. -/
namespace AX
open PySem PySem.Spec PyProof.Rows L2

/-! ### what a def promises: its run -/
def spA (K : PySem.W.Frag) (n : Nat) (g : List AV → M AV) : Sp := fun vs H Q E => vs.length = n ∧ ∃ ρ A xs, Wd K ρ H A ∧ VRs K ρ H xs vs ∧ Yes (g xs) A (fun v A' => Post K (VR K) ρ H v A' Q) (fun e A' => PostX K ρ H e A' E)
section
variable (P : Program) (w : World) (K : PySem.W.Frag) (mg : Str → Option Value) (base : Heap)
/-- a def of the module -/
structure CalA (k : Nat) (x : Str) (n : Nat) (g : List AV → M AV) : Prop where
  ex : ∃ (fd : FuncData) (ps : List Str), FnOk P w K mg base (L2N.CX P w) k (He.ga K x) fd ps (spA K n g) ∧ mg x = some (.ref (He.ga K x)) ∧ PySem.W.keepIn K (.ref (He.ga K x)) = true ∧ Binds K fd ps []
/-- a method of the class c -/
structure MetA (k : Nat) (c m : Str) (n : Nat) (g : List AV → M AV) : Prop where
  ex : ∃ (f : Addr) (fd : FuncData) (ps : List Str), Cls K (He.ga K c) ∧ Meth K (He.ga K c) m f ∧ FnOk P w K mg base (L2N.CX P w) k f fd ps (spA K n g) ∧ Binds K fd ps []
/-- a class that may be made; ds the defaults that fill up -/
structure MakA (k : Nat) (c : Str) (n : Nat) (ds : List AV) (g : List AV → M AV) : Prop where
  ex : ∃ (f : Addr) (fd : FuncData) (ps : List Str) (dvs : List V) (dus : List Value), Mk K (He.ga K c) f ∧ FnOk P w K mg base (L2N.CX P w) k f fd ps (spA K n g) ∧ mg c = some (.ref (He.ga K c)) ∧ Binds K fd ps dus ∧ Vals dvs dus ∧ ∀ ρ H, VRs K ρ H ds dvs
end
/-- a run that leans on less -/
theorem CalA.imp {P : Program} {w : World} {K : PySem.W.Frag} {mg : Str → Option Value} {base : Heap} {k n : Nat} {x : Str} {g g' : List AV → M AV} (c : CalA P w K mg base k x n g)
    (h : ∀ xs A l A' r, xs.length = n → g' xs A = some (l, A', r) → (∀ p ∈ l, p) → ∃ l', g xs A = some (l', A', r) ∧ ∀ p ∈ l', p) : CalA P w K mg base k x n g' := by
  obtain ⟨fd, ps, F, r⟩ := c.ex
  refine ⟨fd, ps, F.imp fun vs H Q E ⟨hl, ρ, A, xs, wd, rv, l, A', r, e, hp, q⟩ => ?_, r⟩
  obtain ⟨l', e', hp'⟩ := h xs A l A' r (rv.length.trans hl) e hp
  exact ⟨hl, ρ, A, xs, wd, rv, l', A', r, e', hp', q⟩
theorem MetA.imp {P : Program} {w : World} {K : PySem.W.Frag} {mg : Str → Option Value} {base : Heap} {k n : Nat} {c x : Str} {g g' : List AV → M AV} (m : MetA P w K mg base k c x n g)
    (h : ∀ xs A l A' r, xs.length = n → g' xs A = some (l, A', r) → (∀ p ∈ l, p) → ∃ l', g xs A = some (l', A', r) ∧ ∀ p ∈ l', p) : MetA P w K mg base k c x n g' := by
  obtain ⟨f, fd, ps, c1, c2, F, r⟩ := m.ex
  refine ⟨f, fd, ps, c1, c2, F.imp fun vs H Q E ⟨hl, ρ, A, xs, wd, rv, l, A', r, e, hp, q⟩ => ?_, r⟩
  obtain ⟨l', e', hp'⟩ := h xs A l A' r (rv.length.trans hl) e hp
  exact ⟨hl, ρ, A, xs, wd, rv, l', A', r, e', hp', q⟩

def startA (n : Nat) (xs : List AV) : ASt := xs.map some ++ List.replicate (n - xs.length) none
/-- the run of a def by its body's -/
def runB (n : Nat) (f : ASt → M AOut) : List AV → M AV := fun xs => (f (startA n xs)).bind fun o => match o with
  | .rt v => M.pure v
  | .nx _ => M.pure .non
  | _ => M.fail
theorem sr_start {K : PySem.W.Frag} {ρ : List Addr} {H : Hp} {xs : List AV} {vs : List V} (N : List Str) (r : VRs K ρ H xs vs) : SR K ρ H (startA N.length xs) (L2.start N vs) := by
  unfold startA L2.start
  have hl := r.length
  refine ⟨by rw [List.length_append, List.length_append, List.length_map, List.length_map, List.length_replicate, List.length_replicate, hl], fun i x h => ?_⟩
  by_cases hi : i < xs.length
  · rw [List.getElem?_append_left (by rw [List.length_map]; exact hi), List.getElem?_map] at h
    rw [List.getElem?_append_left (by rw [List.length_map, ← hl]; exact hi), List.getElem?_map]
    cases hx : xs[i]? with
    | none => rw [hx] at h; cases h
    | some y =>
      rw [hx] at h
      cases h
      obtain ⟨v, h1, h2⟩ := r.get hx
      exact ⟨v, by rw [h1] <;> rfl, h2⟩
  · rw [List.getElem?_append_right (by rw [List.length_map]; omega), List.getElem?_replicate] at h
    split at h <;> cases h
/-- the body's reading at the entry -/
theorem body_at {K : PySem.W.Frag} {N : List Str} {n : Nat} {f : ASt → M AOut} {vs : List V} {H : Hp} {Q : VK} {E : XK} (h : spA K n (runB N.length f) vs H Q E) : SS K E f { nx := fun _ H' => Q .non H', rt := Q } (L2.start N vs) H := by
  obtain ⟨hl, ρ, A, xs, wd, rv, y⟩ := h
  refine ⟨ρ, startA N.length xs, A, wd, sr_start N rv, y.bind.mono (fun o A' y1 ρ' H' g w => ?_) fun _ _ q => q⟩
  cases o with
  | rt v => exact fun u r => y1.pure ρ' H' u g w r
  | nx s => exact fun _ _ => y1.pure ρ' H' .non g w .non
  | bk s => exact fun _ _ => y1.fail
  | ct s => exact fun _ _ => y1.fail
section
variable {P : Program} {w : World} {K : PySem.W.Frag} {mg : Str → Option Value} {base : Heap}
abbrev TkE (X : Cx) (E : XK) : Prop := L2N.Takes X fun c d _ H => E c d H
/-- a body's text runs as f -/
def BodyOk (P : Program) (w : World) (K : PySem.W.Frag) (mg : Str → Option Value) (base : Heap) (k : Nat) (N : List Str) (qual : Str) (sc : Scope) (fa : Addr) (body : List Stmt) (f : ASt → M AOut) : Prop :=
  ∀ (cdv : Value) (A : Around) (outer : List Env) (s : Shared) (H : Hp) (E : XK), Room k (A.deeper (envOfC qual sc s.heap.objs.size fa cdv)) →
    TkE (cxOf (L2N.CX P w) P w K mg base N qual sc fa cdv A outer s H E) E → PSs (cxOf (L2N.CX P w) P w K mg base N qual sc fa cdv A outer s H E) body (SS K E f)
theorem fn_mk {x qual : Str} {params : Arguments} {body : List Stmt} {sc : Scope} {dvs : List V} {kws : List (Str × V)} {fa : Addr} {fd : FuncData} {N ps : List Str} {k : Nat} {f : ASt → M AOut}
    (F : FunD K x qual params body sc dvs kws fa fd) (S : FnScope N ps sc) (hb : BodyOk P w K mg base k N qual sc fa body f) : FnOk P w K mg base (L2N.CX P w) (k + 1) fa fd ps (spA K ps.length (runB N.length f)) :=
  F.ok S (fun vs H Q E h => h.1) fun cdv A outer s H vs Q E hr h => ⟨SS K E f, hb cdv A outer s H E hr (L2N.takes_of rfl rfl rfl rfl), body_at h⟩
theorem cal_mk {x : Str} {params : Arguments} {body : List Stmt} {sc : Scope} {N ps : List Str} {k : Nat} {f : ASt → M AOut} (F : ∃ fd, FunD K x x params body sc [] [] (He.ga K x) fd) (hm : mg x = some (.ref (He.ga K x))) (S : FnScope N ps sc)
    (hbi : ∀ (kV doc pm : Value) (an : Option Addr) (cdv ct : Value) (us : List Value), us.length = ps.length → bindArgs (PySem.W.fnOf x x params body sc .none kV doc pm an cdv ct) ⟨us, []⟩ = pure (ps.zip us))
    (hb : BodyOk P w K mg base k N x sc (He.ga K x) body f) : CalA P w K mg base (k + 1) x ps.length (runB N.length f) := by
  obtain ⟨fd, F⟩ := F
  exact ⟨fd, ps, fn_mk F S hb, hm, F.kp, F.bindsN hbi⟩
theorem met_mk {c m qual : Str} {params : Arguments} {body : List Stmt} {sc : Scope} {N ps : List Str} {k : Nat} {f : ASt → M AOut} {fa : Addr} (hc : Cls K (He.ga K c)) (hm : Meth K (He.ga K c) m fa) (F : ∃ fd, FunD K m qual params body sc [] [] fa fd) (S : FnScope N ps sc)
    (hbi : ∀ (kV doc pm : Value) (an : Option Addr) (cdv ct : Value) (us : List Value), us.length = ps.length → bindArgs (PySem.W.fnOf m qual params body sc .none kV doc pm an cdv ct) ⟨us, []⟩ = pure (ps.zip us))
    (hb : BodyOk P w K mg base k N qual sc fa body f) : MetA P w K mg base (k + 1) c m ps.length (runB N.length f) := by
  obtain ⟨fd, F⟩ := F
  exact ⟨fa, fd, ps, hc, hm, fn_mk F S hb, F.bindsN hbi⟩
theorem mak_mk {c qual : Str} {params : Arguments} {body : List Stmt} {sc : Scope} {N ps : List Str} {k : Nat} {f : ASt → M AOut} {fa : Addr} (hm : Mk K (He.ga K c) fa) (hg : mg c = some (.ref (He.ga K c))) (F : ∃ fd, FunD K "__init__" qual params body sc [] [] fa fd) (S : FnScope N ps sc)
    (hbi : ∀ (kV doc pm : Value) (an : Option Addr) (cdv ct : Value) (us : List Value), us.length = ps.length → bindArgs (PySem.W.fnOf "__init__" qual params body sc .none kV doc pm an cdv ct) ⟨us, []⟩ = pure (ps.zip us))
    (hb : BodyOk P w K mg base k N qual sc fa body f) : MakA P w K mg base (k + 1) c ps.length [] (runB N.length f) := by
  obtain ⟨fd, F⟩ := F
  exact ⟨fa, fd, ps, [], [], hm, fn_mk F S hb, hg, F.bindsN hbi, .nil, fun _ _ => .nil⟩
end

/-! ### calls -/
def lenOk (xs : List AV) (n : Nat) : AH → Bool := fun _ => Nat.beq xs.length n
def aCall (n : Nat) (g : List AV → M AV) (fl : ASt → M (List AV)) : ASt → M AV := fun aσ => (fl aσ).bind fun xs => (M.chk (lenOk xs n)).bind fun _ => g xs
mutual
def AV.pur : AV → Bool
  | .ref _ => false
  | .tup xs => AV.purs xs
  | .tud xs => AV.purs xs
  | .lsf xs => AV.purs xs
  | _ => true
def AV.purs : List AV → Bool
  | [] => true
  | x :: xs => match x.pur with
    | true => AV.purs xs
    | false => false
end
/-- a call that is handed no own object and gives none: on a heap of its own -/
def M.apart (xs : List AV) (m : M AV) : M AV := fun A => match AV.purs xs with
  | false => none
  | true => match m [] with
    | none => none
    | some (l, _, .ok v) => match v.pur with
      | true => some (l, A, .ok v)
      | false => none
    | some (l, _, .error e) => match AV.purs e.vs with
      | true => some (l, A, .error e)
      | false => none
def aCallR (n : Nat) (g : List AV → M AV) (fl : ASt → M (List AV)) : ASt → M AV := fun aσ => (fl aσ).bind fun xs => (M.chk (lenOk xs n)).bind fun _ => M.apart xs (g xs)
section
variable {K : PySem.W.Frag} {ρ ρ' : List Addr} {H : Hp}
mutual
theorem VR.pure : ∀ {x : AV} {v : V}, VR K ρ H x v → x.pur = true → VR K ρ' H x v
  | _, _, .non, _ => .non
  | _, _, .bl b, _ => .bl b
  | _, _, .int i, _ => .int i
  | _, _, .str x, _ => .str x
  | _, _, .tup h hs, e => .tup h (VRs.pure hs (by unfold AV.pur at e; exact e))
  | _, _, .tud h hs, e => .tud h (VRs.pure hs (by unfold AV.pur at e; exact e))
  | _, _, .lsf h hs, e => .lsf h (VRs.pure hs (by unfold AV.pur at e; exact e))
  | _, _, .ref h, e => by unfold AV.pur at e; cases e
  | _, _, .fn n, _ => .fn n
  | _, _, .ty n, _ => .ty n
theorem VRs.pure : ∀ {xs : List AV} {vs : List V}, VRs K ρ H xs vs → AV.purs xs = true → VRs K ρ' H xs vs
  | _, _, .nil, _ => .nil
  | _, _, .cons (x := x) h hs, e => by
    unfold AV.purs at e
    cases hx : x.pur with
    | false => rw [hx] at e; cases e
    | true => rw [hx] at e; exact .cons (VR.pure h hx) (VRs.pure hs e)
end
end
theorem Wd.nil {K : PySem.W.Frag} {H : Hp} : Wd K [] H [] := ⟨rfl, List.nodup_nil, fun i a o h _ => by simp at h⟩
/-- all is kept -/
theorem Grow.of_nil {K : PySem.W.Frag} {ρ ρ' : List Addr} {H H' : Hp} {A : AH} (g : Grow [] H ρ' H') (w : Wd K ρ H A) : Grow ρ H ρ H' ∧ Wd K ρ H' A := by
  have k : ∀ a o, H a = some o → H' a = some o := fun a o h => g.keep a o h (by simp)
  refine ⟨⟨⟨[], by simp, by simp⟩, fun a o h _ => k a o h, g.dom, g.tx⟩, ⟨w.len, w.nd, fun i a o ha ho => ?_⟩⟩
  have q := w.at_ i a o ha ho
  obtain ⟨u, hu, _⟩ := q.own
  have := q.mono g.tx [] ((k a u hu).trans hu.symm)
  rwa [List.append_nil] at this
theorem Yes.apart {K : PySem.W.Frag} {ρ : List Addr} {H : Hp} {A : AH} {xs : List AV} {m : M AV} {Q : VK} {E : XK} (w : Wd K ρ H A) (y : Yes (M.apart xs m) A (fun v A' => Post K (VR K) ρ H v A' Q) (fun e A' => PostX K ρ H e A' E)) :
    AV.purs xs = true ∧ Yes m [] (fun v A' => Post K (VR K) [] H v A' Q) (fun e A' => PostX K [] H e A' E) := by
  obtain ⟨l, A', r, e, hl, q⟩ := y
  unfold M.apart at e
  cases hx : AV.purs xs with
  | false => rw [hx] at e; cases e
  | true =>
    rw [hx] at e
    dsimp only at e
    cases hm : m [] with
    | none => rw [hm] at e; cases e
    | some p =>
      obtain ⟨l1, A1, r1⟩ := p
      rw [hm] at e
      cases r1 with
      | ok v =>
        dsimp only at e
        cases hv : v.pur with
        | false => rw [hv] at e; cases e
        | true =>
          rw [hv] at e
          cases e
          refine ⟨rfl, _, _, _, hm, hl, fun ρ' H' v' g w' r => ?_⟩
          obtain ⟨g2, w2⟩ := g.of_nil w
          exact q ρ H' v' g2 w2 (r.pure hv)
      | error ex =>
        dsimp only at e
        cases hv : AV.purs ex.vs with
        | false => rw [hv] at e; cases e
        | true =>
          rw [hv] at e
          cases e
          refine ⟨rfl, _, _, _, hm, hl, fun ρ' H' c d g w' r => ?_⟩
          obtain ⟨g2, w2⟩ := g.of_nil w
          obtain ⟨r1, a, fs, r2, r3, r4, r5⟩ := r
          exact q ρ H' c d g2 w2 ⟨r1, a, fs, r2, r3, r4, r5.pure hv⟩
def isIns (c m : Str) (x : AV) : AH → Bool := fun A => match x with
  | .ref i => match A[i]? with
    | some (.ins c' ns _) => match strB c' c with
      | true => !(ns.any fun n => strB n m)
      | false => false
    | _ => false
  | _ => false
def aMeth (c m : Str) (n : Nat) (g : List AV → M AV) (fo : ASt → M AV) (fl : ASt → M (List AV)) : ASt → M AV := fun aσ => (fo aσ).bind fun x => (M.chk (isIns c m x)).bind fun _ => (fl aσ).bind fun xs => (M.chk (lenOk (x :: xs) n)).bind fun _ => g (x :: xs)
def aMake (c : Str) (n : Nat) (ds : List AV) (g : List AV → M AV) (fl : ASt → M (List AV)) : ASt → M AV := fun aσ => (fl aσ).bind fun xs => (M.lift fun A => some (AV.ref A.length, A ++ [.ins c [] []])).bind fun o =>
  (M.chk (lenOk (o :: (xs ++ ds)) n)).bind fun _ => (g (o :: (xs ++ ds))).bind fun v => match v with
    | .non => M.pure o
    | _ => M.fail
theorem pX {X : Cx} {E : XK} (tk : TkE X E) : Passes (L2N.CX X.prog X.w) X E := L2N.passes_call tk fun _ _ _ _ h => h
theorem tkF {X : Cx} : TkE X EF := fun u s' ⟨a, B, sI, pins, σ, H, cls, d, e, I, nb, up, sky, na, os, ag, w⟩ => w.elim
theorem lk_none {fs : List (Str × V)} {m : Str} (h : (fs.map (·.1)).any (fun n => strB n m) = false) : fs.lookup m = none := by
  induction fs with
  | nil => rfl
  | cons p r ih =>
    obtain ⟨k, v⟩ := p
    rw [List.map_cons, List.any_cons, Bool.or_eq_false_iff] at h
    have hk : k ≠ m := fun e => by rw [strB_iff, decide_eq_true e] at h; cases h.1
    have hb : (m == k) = false := beq_eq_false_iff_ne.mpr (Ne.symm hk)
    simp only [List.lookup, hb]
    exact ih h.2
section
variable {X : Cx} {E : XK} {e o : Expr} {es : List Expr} {fo : ASt → M AV} {fl : ASt → M (List AV)} {x m c : Str} {p pos apos : Pos} {n k j : Nat} {g : List AV → M AV} {ds : List AV}
theorem a_call (c : CalA X.prog X.w X.K X.mg X.base k x n g) (hr : Room j X.A) (tk : TkE X E) (hk : k ≤ j) (hg : Gl X x) (ha : PA X (e :: es) (SL X.K E fl))
    (hdb : (x == ("__debug__" : Str)) = false := by decide) (he : starEach (e :: es) X.env = (false, eval e X.env) :: starEach es X.env := by rfl) (hpl : (backTo pos (starEach es X.env)).any (·.1) = false := by rfl) :
    PE X (.Call (.Name x p) (e :: es) [] pos) (S X.K E (aCall n g fl)) := by
  obtain ⟨fd, ps, F, hm, kp, b⟩ := c.ex
  refine wE (pe_call F (hr.mono hk) hg hm kp b .nil (pX tk) ha hdb he hpl) fun σ H Q ⟨ρ, aσ, A, w, s, y⟩ => SX.mk w s y.bind fun xs A1 ρ1 H1 vs y1 g1 w1 r1 => ?_
  obtain ⟨hl, y2⟩ := y1.bind.chk
  rw [List.append_nil]
  exact ⟨by rw [← r1.length]; exact Nat.eq_of_beq_eq_true hl, ρ1, A1, xs, w1, r1, y2.mono (fun _ _ q => q.tr g1) fun _ _ q => q.tr g1⟩
theorem a_call0 (c : CalA X.prog X.w X.K X.mg X.base k x n g) (hr : Room j X.A) (tk : TkE X E) (hk : k ≤ j) (hg : Gl X x) (hdb : (x == ("__debug__" : Str)) = false := by decide) : PE X (.Call (.Name x p) [] [] pos) (S X.K E (aCall n g aNil)) := by
  obtain ⟨fd, ps, F, hm, kp, b⟩ := c.ex
  refine wE (pe_call0 F (hr.mono hk) hg hm kp b .nil (pX tk) hdb) fun σ H Q ⟨ρ, aσ, A, w, s, y⟩ => ?_
  obtain ⟨hl, y2⟩ := y.bind.pure.bind.chk
  exact ⟨Nat.eq_of_beq_eq_true hl, ρ, A, [], w, .nil, y2⟩
theorem a_callR (c : CalA X.prog X.w X.K X.mg X.base k x n g) (hr : Room j X.A) (tk : TkE X E) (hk : k ≤ j) (hg : Gl X x) (ha : PA X (e :: es) (SL X.K E fl))
    (hdb : (x == ("__debug__" : Str)) = false := by decide) (he : starEach (e :: es) X.env = (false, eval e X.env) :: starEach es X.env := by rfl) (hpl : (backTo pos (starEach es X.env)).any (·.1) = false := by rfl) :
    PE X (.Call (.Name x p) (e :: es) [] pos) (S X.K E (aCallR n g fl)) := by
  obtain ⟨fd, ps, F, hm, kp, b⟩ := c.ex
  refine wE (pe_call F (hr.mono hk) hg hm kp b .nil (pX tk) ha hdb he hpl) fun σ H Q ⟨ρ, aσ, A, w, s, y⟩ => SX.mk w s y.bind fun xs A1 ρ1 H1 vs y1 g1 w1 r1 => ?_
  obtain ⟨hl, y2⟩ := y1.bind.chk
  obtain ⟨hp, y3⟩ := (y2.mono (fun _ _ q => Post.tr q g1) fun _ _ q => PostX.tr q g1).apart w1
  rw [List.append_nil]
  exact ⟨by rw [← r1.length]; exact Nat.eq_of_beq_eq_true hl, [], [], xs, Wd.nil, r1.pure hp, y3⟩
theorem a_meth {pl : Sem Bool} (d : MetA X.prog X.w X.K X.mg X.base k c m n g) (hr : Room j X.A) (tk : TkE X E) (hk : k ≤ j) (he : PE X o (S X.K E fo)) (ha : PA X (e :: es) (SL X.K E fl))
    (hst : starEach (e :: es) X.env = (false, eval e X.env) :: starEach es X.env := by rfl) (hpl : (backTo pos (starEach es X.env)).any (·.1) = false := by rfl)
    (ht : eval (.Call (.Attribute o m apos) (e :: es) [] pos) X.env = (do
      let ov ← eval o X.env
      standAt apos.atName
      let (f, first) ← holding [ov] (getMethod ov m pl)
      callWith pos f first (backTo pos (starEach (e :: es) X.env)) (backToKw pos (keywordEach [] X.env))) := by rfl) :
    PE X (.Call (.Attribute o m apos) (e :: es) [] pos) (S X.K E (aMeth c m n g fo fl)) := by
  obtain ⟨f, fd, ps, hc, hm, F, b⟩ := d.ex
  refine wE (pe_meth (pl := pl) he hc hm F (hr.mono hk) b .nil (pX tk) ha hst hpl ht) fun σ H Q ⟨ρ, aσ, A, w, s, y⟩ => SX.mk w s y.bind fun x A1 ρ1 H1 v y1 g1 w1 r1 => ?_
  obtain ⟨hi, y2⟩ := y1.bind.chk
  unfold isIns at hi
  split at hi
  · split at hi
    · rename_i hA
      split at hi
      · rename_i hs
        obtain ⟨a, dx, fs, rfl, ha, h1, h2, r2⟩ := w1.ins r1 hA
        have ec := strB_true hs
        subst ec
        refine ⟨a, dx, fs, rfl, h1, lk_none (by rw [h2]; simpa using hi), SX.mk w1 (s.grow g1) (y2.bind.mono (fun _ _ q => q) fun _ _ q => q.tr g1) fun xs A3 ρ3 H3 vs y3 g3 w3 r3 => ?_⟩
        obtain ⟨hl, y4⟩ := y3.bind.chk
        rw [List.append_nil]
        have rr : VRs X.K ρ3 H3 (_ :: xs) (.ref a :: vs) := .cons (g3.vr r1) r3
        exact ⟨by rw [← rr.length]; exact Nat.eq_of_beq_eq_true hl, ρ3, A3, _, w3, rr, y4.mono (fun _ _ q => Post.tr q (g1.trans g3)) fun _ _ q => q.tr (g1.trans g3)⟩
      · cases hi
    · cases hi
  · cases hi
theorem a_meth0 {pl : Sem Bool} (d : MetA X.prog X.w X.K X.mg X.base k c m n g) (hr : Room j X.A) (tk : TkE X E) (hk : k ≤ j) (he : PE X o (S X.K E fo))
    (ht : eval (.Call (.Attribute o m apos) [] [] pos) X.env = (do
      let ov ← eval o X.env
      standAt apos.atName
      let (f, first) ← holding [ov] (getMethod ov m pl)
      callWith pos f first (backTo pos (starEach [] X.env)) (backToKw pos (keywordEach [] X.env))) := by rfl) :
    PE X (.Call (.Attribute o m apos) [] [] pos) (S X.K E (aMeth c m n g fo aNil)) := by
  obtain ⟨f, fd, ps, hc, hm, F, b⟩ := d.ex
  refine wE (pe_meth0 (pl := pl) he hc hm F (hr.mono hk) b .nil (pX tk) ht) fun σ H Q ⟨ρ, aσ, A, w, s, y⟩ => SX.mk w s y.bind fun x A1 ρ1 H1 v y1 g1 w1 r1 => ?_
  obtain ⟨hi, y2⟩ := y1.bind.chk
  unfold isIns at hi
  split at hi
  · split at hi
    · rename_i hA
      split at hi
      · rename_i hs
        obtain ⟨a, dx, fs, rfl, ha, h1, h2, r2⟩ := w1.ins r1 hA
        have ec := strB_true hs
        subst ec
        obtain ⟨hl, y4⟩ := y2.bind.pure.bind.chk
        refine ⟨a, dx, fs, rfl, h1, lk_none (by rw [h2]; simpa using hi), ?_⟩
        exact ⟨Nat.eq_of_beq_eq_true hl, ρ1, A1, _, w1, .cons r1 .nil, y4.mono (fun _ _ q => Post.tr q g1) fun _ _ q => q.tr g1⟩
      · cases hi
    · cases hi
  · cases hi
theorem a_make (d : MakA X.prog X.w X.K X.mg X.base k c n ds g) (hr : Room j X.A) (tk : TkE X E) (hk : k + 1 ≤ j) (hg : Gl X c) (ha : PA X (e :: es) (SL X.K E fl))
    (hdb : (c == ("__debug__" : Str)) = false := by decide) (he : starEach (e :: es) X.env = (false, eval e X.env) :: starEach es X.env := by rfl) (hpl : (backTo pos (starEach es X.env)).any (·.1) = false := by rfl) :
    PE X (.Call (.Name c p) (e :: es) [] pos) (S X.K E (aMake c n ds g fl)) := by
  obtain ⟨f, fd, ps, dvs, dus, hm, F, hmg, b, hd, rd⟩ := d.ex
  refine wE (pe_make hm F (hr.mono hk) hg hmg b hd (pX tk) ha hdb he hpl) fun σ H Q ⟨ρ, aσ, A, w, s, y⟩ => SX.mk w s y.bind fun xs A1 ρ1 H1 vs y1 g1 w1 r1 x dx hx hdx hne => ?_
  obtain ⟨z, A2, hz, y2⟩ := y1.bind.lift
  cases hz
  obtain ⟨wa, ga⟩ := w1.out (u := .own x) hdx
  have hx2 : upd H1 dx (.own x) x = none := by rw [upd_ne (Ne.symm hne)]; exact hx
  obtain ⟨wb, gb⟩ := wa.new (u := .ins (He.ga X.K c) dx []) (o := .ins c [] []) hx2 ⟨dx, [], upd_same, rfl, .nil⟩
  have g2 := ga.trans gb
  obtain ⟨hl, y3⟩ := y2.bind.chk
  have rr : VRs X.K (ρ1 ++ [x]) (upd (upd H1 dx (.own x)) x (.ins (He.ga X.K c) dx [])) (.ref A1.length :: (xs ++ ds)) (.ref x :: (vs ++ dvs)) := .cons (.ref (by rw [← w1.len]; simp)) ((g2.vrs r1).append (rd _ _))
  refine ⟨by rw [← rr.length]; exact Nat.eq_of_beq_eq_true hl, ρ1 ++ [x], A1 ++ [.ins c [] []], _, wb, rr, y3.bind.mono (fun v A4 y4 ρ4 H4 v4 g4 w4 r4 => ?_) fun _ _ q => q.tr (g1.trans g2)⟩
  cases v with
  | non =>
    refine ⟨r4.non_eq, ?_⟩
    exact y4.pure ρ4 H4 (.ref x) ((g1.trans g2).trans g4) w4 (g4.vr (.ref (by rw [← w1.len]; simp)))
  | _ => exact y4.fail
end

/-! ### o.f = v, o.f op= v, name op= v, o[i] op= v, three names -/
def bFld (c f : Str) (fo fv : ASt → M AV) : ASt → M AOut := fun aσ => (fv aσ).bind fun y => (fo aσ).bind fun x => (M.lift fun A => match x with
  | .ref i => match A[i]? with
    | some (.ins c' ns vs) => match strB c' c && Nat.blt ns.length 900 with
      | true => some ((), A.set i (.ins c' (fPut ns vs f y).1 (fPut ns vs f y).2))
      | false => none
    | _ => none
  | _ => none).bind fun _ => M.pure (.nx aσ)
def bFldAug (c f : Str) (g : G2) (fo fv : ASt → M AV) : ASt → M AOut := fun aσ => (fo aσ).bind fun x => (M.lift (gFld c f x)).bind fun old => (fv aσ).bind fun y => (M.lift (g old y)).bind fun z => (M.lift fun A => match x with
  | .ref i => match A[i]? with
    | some (.ins c' ns vs) => match strB c' c && Nat.blt ns.length 900 with
      | true => some ((), A.set i (.ins c' (fPut ns vs f z).1 (fPut ns vs f z).2))
      | false => none
    | _ => none
  | _ => none).bind fun _ => M.pure (.nx aσ)
theorem Wd.putF {K : PySem.W.Frag} {ρ : List Addr} {H : Hp} {A : AH} (w : Wd K ρ H A) {i : Nat} {a dx : Addr} {c f : Str} {ns : List Str} {vs : List AV} {fs : List (Str × V)} {y : AV} {u : V} (ha : ρ[i]? = some a) (h1 : H a = some (.ins (He.ga K c) dx fs)) (h2 : fs.map (·.1) = ns)
    (r : VRs K ρ H vs (fs.map (·.2))) (ry : VR K ρ H y u) : Wd K ρ (upd H a (.ins (He.ga K c) dx (L2.putF f u fs))) (A.set i (.ins c (fPut ns vs f y).1 (fPut ns vs f y).2)) ∧ Grow ρ H ρ (upd H a (.ins (He.ga K c) dx (L2.putF f u fs))) := by
  obtain ⟨p1, p2⟩ := fPut_ok (f := f) ry h2 r
  have tx : Tx H (upd H a (.ins (He.ga K c) dx (L2.putF f u fs))) := tx_upd (w.notup (List.mem_of_getElem? ha)) (w.noxd (List.mem_of_getElem? ha))
  exact w.store ha ⟨dx, _, upd_same, p1, p2.tx tx⟩
section
variable {X : Cx} {E : XK} {e o value : Expr} {fe fa fv : ASt → M AV} {fl : ASt → M (List AV)} {pos pos' tpos : Pos} {f : Str}
theorem s_fld (c : Str) (hc : Cls X.K (He.ga X.K c)) (hn : NoAttr X.K (He.ga X.K c) f) (ha : PE X o (S X.K E fa)) (hv : PE X value (S X.K E fv)) (hs : swapsWith value (some (.Attribute o f pos')) pos.line X.env = pure false := by rfl) :
    PS X (.Assign [.Attribute o f pos'] value pos) (SS X.K E (bFld c f fa fv)) :=
  wS (ps_fld ha hv hs) fun D σ H ⟨ρ, aσ, A, w, s, y⟩ => SX.mk w s y.bind fun y0 A1 ρ1 H1 v y1 g1 w1 r1 =>
    SX.mk w1 (s.grow g1) (y1.bind.mono (fun _ _ q => q) fun _ _ q => q.tr g1) fun x A2 ρ2 H2 u y2 g2 w2 r2 => by
      obtain ⟨_, A3, hg, q⟩ := y2.bind.lift
      split at hg
      · split at hg
        · rename_i hA
          split at hg
          · rename_i hs
            cases hg
            rw [Bool.and_eq_true] at hs
            obtain ⟨a, dx, fs, rfl, ha, h1, h2, r3⟩ := w2.ins r2 hA
            have ec := strB_true hs.1
            subst ec
            have hlen : fs.length < 1000 := by
              have e1 : fs.length = (fs.map (·.1)).length := by simp
              rw [e1, h2]
              have := Nat.blt_eq.mp hs.2
              omega
            obtain ⟨w3, g3⟩ := w2.putF (f := f) ha h1 h2 r3 (g2.vr r1)
            exact ⟨a, _, dx, fs, rfl, h1, hc, hn, hlen, q.pure ρ2 _ ((g1.trans g2).trans g3) w3 σ (s.grow ((g1.trans g2).trans g3))⟩
          · cases hg
        · cases hg
      · cases hg
theorem s_fldaug (c : Str) {op : Operator} {rd : V → V → Hp → VK → Prop} {g : G2} (hc : Cls X.K (He.ga X.K c)) (hn : NoAttr X.K (He.ga X.K c) f) (ha : PE X o (S X.K E fa)) (hv : PE X value (S X.K E fv)) (ho : InOp X op rd) (hr : R2A X.K rd g) :
    PS X (.AugAssign (.Attribute o f tpos) op value pos) (SS X.K E (bFldAug c f g fa fv)) :=
  wS (ps_fldaug ha hv ho) fun D σ H ⟨ρ, aσ, A, w, s, y⟩ => SX.mk w s y.bind fun x A1 ρ1 H1 u y1 g1 w1 r1 => by
    obtain ⟨old, A2, hg, y2⟩ := y1.bind.lift
    unfold gFld at hg
    cases x with
    | ref i =>
      dsimp only at hg y2
      split at hg
      · rename_i hi
        split at hg
        · rename_i hs
          split at hg
          · rename_i hf
            cases hg
            obtain ⟨a, dx, fs, rfl, ha, h1, h2, r2⟩ := w1.ins r1 hi
            have ec := strB_true hs
            subst ec
            obtain ⟨u, h3, r3⟩ := fGet_ok h2 r2 hf
            refine ⟨a, _, dx, fs, u, rfl, h1, hc, hn, h3, SX.mk w1 (s.grow g1) (y2.bind.mono (fun _ _ q => q) fun _ _ q => q.tr g1) fun y0 A3 ρ3 H3 yv y3 g3 w3 r4 => ?_⟩
            obtain ⟨z, A4, hz, y4⟩ := y3.bind.lift
            refine hr ρ3 H3 A3 _ y0 u yv z A4 _ w3 (g3.vr r3) r4 hz fun ρ5 H5 zv g5 w5 r5 => ?_
            obtain ⟨_, A6, hg6, q6⟩ := y4.bind.lift
            split at hg6
            · rename_i c6 ns6 vs6 hA
              split at hg6
              · rename_i hs6
                cases hg6
                rw [Bool.and_eq_true] at hs6
                obtain ⟨a', dx', fs', ea, ha', h1', h2', r3'⟩ := w5.ins (g5.vr (g3.vr r1)) hA
                cases ea
                have ec6 := strB_true hs6.1
                subst ec6
                have hlen : fs'.length < 1000 := by
                  have e1 : fs'.length = (fs'.map (·.1)).length := by simp
                  rw [e1, h2']
                  have := Nat.blt_eq.mp hs6.2
                  omega
                obtain ⟨w7, g7⟩ := w5.putF (f := f) ha' h1' h2' r3' r5
                have gg := ((g1.trans g3).trans g5).trans g7
                exact ⟨dx', fs', h1', hlen, q6.pure ρ5 _ gg w7 σ (s.grow gg)⟩
              · cases hg6
            · cases hg6
          · cases hg
        · cases hg
      · cases hg
    | _ => cases hg
theorem s_aug {i : Nat} {x : Str} {op : Operator} {r : R2} {g : G2} {pos' : Pos} (hN : X.N.Nodup) (hi : X.N[i]? = some x) (hx : Loc X.env.scope x) (he : PE X e (S X.K E fe)) (ho : OpR X (inplaceOp op) r) (hr : R2A X.K r g)
    (hf : X.fn x = true ∨ X.env.scope.names.lookup x = some .local := by first | exact .inl rfl | exact .inr rfl | assumption) : PS X (.AugAssign (.Name x pos') op e pos) (SS X.K E (bAug i g fe)) :=
  wS (ps_aug (ti := r) hN hi hx he ho hf) fun D σ H ⟨ρ, aσ, A, w, s, y⟩ => by
    have y0 := y.bind
    unfold aVar at y0
    cases h : aσ[i]? with
    | none => rw [h] at y0; exact y0.fail
    | some oo =>
      cases oo with
      | none => rw [h] at y0; exact y0.fail
      | some xv =>
        rw [h] at y0
        obtain ⟨v, e1, r1⟩ := s.2 i xv h
        refine ⟨v, e1, SX.mk w s y0.pure.bind fun y2 A2 ρ2 H2 u y3 g2 w2 r2 => ?_⟩
        obtain ⟨z, A3, hz, y4⟩ := y3.bind.lift
        exact hr ρ2 H2 A2 xv y2 v u z A3 _ w2 (g2.vr r1) r2 hz fun ρ4 H4 zv g4 w4 r4 => y4.pure ρ4 H4 (g2.trans g4) w4 _ ((s.grow (g2.trans g4)).set r4 i)
theorem s_par3 {i j l : Nat} {x y z : Str} {a b c : Expr} {px py pz pt pos : Pos} {kt k2 pt2} (hc : X.calm = true) (hN : X.N.Nodup) (hi : X.N[i]? = some x) (hj : X.N[j]? = some y) (hl : X.N[l]? = some z) (hij : i ≠ j) (hil : i ≠ l) (hjl : j ≠ l)
    (hx : X.env.scope.names.lookup x = some .local) (hy : X.env.scope.names.lookup y = some .local) (hz : X.env.scope.names.lookup z = some .local) (ha : PA X [a, b, c] (SL X.K E fl))
    (hw : swappedStores [.Tuple [.Name x px, .Name y py, .Name z pz] kt pt] (.Tuple [a, b, c] k2 pt2) X.env = pure (some [x, y, z]))
    (hs : swapsWithSole [.Tuple [.Name x px, .Name y py, .Name z pz] kt pt] (.Tuple [a, b, c] k2 pt2) pos.line X.env = pure false := by rfl) :
    PS X (.Assign [.Tuple [.Name x px, .Name y py, .Name z pz] kt pt] (.Tuple [a, b, c] k2 pt2) pos) (SS X.K E (bPar3 i j l fl)) :=
  wS (ps_par3 hc hN hi hj hl hij hil hjl hx hy hz ha hw hs) fun D σ H ⟨ρ, aσ, A, w, s, y⟩ => SX.mk w s y.bind fun xs A1 ρ1 H1 vs y1 g1 w1 r1 => by
    match xs, r1, y1 with
    | [x1, x2, x3], r1, y1 =>
      cases r1 with
      | cons q1 r2 =>
        obtain ⟨v, u, rfl, q2, q3⟩ := r2.l2
        exact ⟨_, v, u, rfl, y1.pure ρ1 H1 g1 w1 _ ((((s.grow g1).set q1 i).set q2 j).set q3 l)⟩
    | [], _, y1 => exact y1.fail
    | [_], _, y1 => exact y1.fail
    | [_, _], _, y1 => exact y1.fail
    | _ :: _ :: _ :: _ :: _, _, y1 => exact y1.fail
end
end AX

set_option Elab.async false
set_option linter.all false
set_option maxRecDepth 100000
set_option maxHeartbeats 4000000
/-! AX9: comprehensions as expressions, dict comprehensions, unpacking of lists, calls of a local name, truth. -/
namespace AX
open PySem PySem.Spec PyProof.Rows L2

section
variable {X : Cx} {E : XK} {elt kx vx tg iter : Expr} {ifs : List Expr} {scope : Scope} {own : List (Str × Nat)} {pos spos : Pos} {fi : ASt → M AIt} {t : TG} {ag : AV → ASt → AH → Option ASt} {ft : ASt → M Bool} {fe fk fv : ASt → M AV} {vs : List Nat}
theorem a_lc (hc : X.calm = true) (hN : X.N.Nodup) (hi : PI X tg iter (SI X.K E fi)) (ok : BlkOk X.N X.env.scope scope own) (htg : TgR X.K t ag vs)
    (hg : ∀ (s : Shared) (H : Hp) (C : Addr) (cl : List (Str × Addr)) (fp : List Addr), PG (X.blk s H scope (compEnvC scope cl C X.env) fp) tg t) (ht : ∀ (s : Shared) (H : Hp) (C : Addr) (cl : List (Str × Addr)) (fp : List Addr), PTs (X.blk s H scope (compEnvC scope cl C X.env) fp) ifs (ST X.K EF ft))
    (he : ∀ (s : Shared) (H : Hp) (C : Addr) (cl : List (Str × Addr)) (fp : List Addr), PE (X.blk s H scope (compEnvC scope cl C X.env) fp) elt (S X.K EF fe)) (hs : ∀ x, foldedSetIterable iter X.env x = pure x := by intro _; rfl) (hv : own.map (·.2) = vs := by rfl) :
    PE X (.ListComp elt [⟨tg, iter, ifs, 0⟩] scope pos) (S X.K E (aLc fi ag ft fe vs)) := by subst hv; exact wE (pe_lc hc hN hi ok hg ht he hs) (lc_sound htg)
theorem s_setLc {i : Nat} {y : Str} {py : Pos} (hc : X.calm = true) (hN : X.N.Nodup) (hy : X.N[i]? = some y) (hyl : X.env.scope.names.lookup y = some .local)
    (hsw : swapsWith (.ListComp elt [⟨tg, iter, ifs, 0⟩] scope pos) (some (.Name y py)) spos.line X.env = pure true) (hi : PI X tg iter (SI X.K E fi)) (ok : BlkOk X.N X.env.scope scope own) (htg : TgR X.K t ag vs)
    (hg : ∀ (s : Shared) (H : Hp) (C : Addr) (cl : List (Str × Addr)) (fp : List Addr), PG (X.blk s H scope (compEnvC scope cl C X.env) fp) tg t) (ht : ∀ (s : Shared) (H : Hp) (C : Addr) (cl : List (Str × Addr)) (fp : List Addr), PTs (X.blk s H scope (compEnvC scope cl C X.env) fp) ifs (ST X.K EF ft))
    (he : ∀ (s : Shared) (H : Hp) (C : Addr) (cl : List (Str × Addr)) (fp : List Addr), PE (X.blk s H scope (compEnvC scope cl C X.env) fp) elt (S X.K EF fe)) (hs : ∀ x, foldedSetIterable iter X.env x = pure x := by intro _; rfl) (hv : own.map (·.2) = vs := by rfl) :
    PS X (.Assign [.Name y py] (.ListComp elt [⟨tg, iter, ifs, 0⟩] scope pos) spos) (SS X.K E (bSet i (aLc fi ag ft fe vs))) := by
  subst hv
  exact wS (ps_setLc hc hN hy hyl hsw hi ok hg ht he hs) fun D σ H ⟨ρ, aσ, A, w, s, y⟩ => lc_sound htg σ H _ (SX.mk w s y.bind fun x A1 ρ1 H1 v y1 g1 w1 r1 => y1.pure ρ1 H1 g1 w1 _ ((s.grow g1).set r1 i))
end

/-! ### {k: v for ..} -/
def loopD (g : Nat → AH → Option (Option AV)) (ag : AV → ASt → AH → Option ASt) (ft : ASt → M Bool) (fk fv : ASt → M AV) (s : ASt) : Nat → Nat → List Key → List AV → M (List Key × List AV)
  | 0, _, _, _ => M.fail
  | n + 1, i, ks, xs => (M.get (g i)).bind fun o => match o with
    | none => M.pure (ks, xs)
    | some x => (M.get (ag x s)).bind fun s1 => (ft s1).nox.bind fun b => match b with
      | true => (fk s1).nox.bind fun y => (fv s1).nox.bind fun z => (M.chk fun _ => szOk (ks.length + 1)).bind fun _ => (M.opt (keyOf y)).bind fun k => loopD g ag ft fk fv s n (i + 1) (dPut ks xs k z).1 (dPut ks xs k z).2
      | false => loopD g ag ft fk fv s n (i + 1) ks xs
def aDc (fi : ASt → M AIt) (ag : AV → ASt → AH → Option ASt) (ft : ASt → M Bool) (fk fv : ASt → M AV) (vs : List Nat) : ASt → M AV := fun aσ => (fi aσ).bind fun ng => (loopD ng.2 ag ft fk fv (wipeA aσ vs) ng.1 0 [] []).bind fun p => M.lift (fun A => some (.ref A.length, A ++ [.dK p.1 p.2]))
/-- an object that stands at D becomes an own one -/
theorem Wd.take {K : PySem.W.Frag} {ρ : List Addr} {H : Hp} {A : AH} {D : Addr} {o : AO} (w : Wd K ρ H A) (hD : D ∉ ρ) (r : OR K (ρ ++ [D]) H D o) : Wd K (ρ ++ [D]) H (A ++ [o]) := by
  refine ⟨by rw [List.length_append, List.length_append, w.len] <;> rfl, ?_, fun j b o' hb ho => ?_⟩
  · rw [List.nodup_append]
    refine ⟨w.nd, by simp, fun a ha b hb => ?_⟩
    have : b = D := by simpa using hb
    subst this
    exact fun e => hD (e ▸ ha)
  · by_cases hj : j < ρ.length
    · rw [List.getElem?_append_left hj] at hb
      rw [List.getElem?_append_left (by rw [← w.len]; exact hj)] at ho
      exact (w.at_ j b o' hb ho).mono (Tx.refl _) [D] rfl
    · have hj2 : j = ρ.length := by
        have := (List.getElem?_eq_some_iff.mp hb).1
        rw [List.length_append] at this
        simp at this
        omega
      subst hj2
      rw [List.getElem?_append_right (Nat.le_refl _)] at hb
      rw [w.len, List.getElem?_append_right (Nat.le_refl _)] at ho
      simp at hb ho
      subst hb; subst ho
      exact r
theorem Grow.take {ρ ρ' : List Addr} {H H' : Hp} {D : Addr} (g : Grow ρ H ρ' H') (hD : H D = none) : Grow ρ H (ρ' ++ [D]) H' := by
  obtain ⟨n, en, fn⟩ := g.pre
  exact ⟨⟨n ++ [D], by rw [en, List.append_assoc], fun a ha => by
    rcases List.mem_append.mp ha with h | h
    · exact fn a h
    · have : a = D := by simpa using h
      subst this
      exact hD⟩, g.keep, g.dom, g.tx⟩
theorem dc_sound {K : PySem.W.Frag} {E : XK} {fi : ASt → M AIt} {t : TG} {ag : AV → ASt → AH → Option ASt} {ft : ASt → M Bool} {fk fv : ASt → M AV} {vs : List Nat} (hg : TgR K t ag vs) : ∀ σ H Q, S K E (aDc fi ag ft fk fv vs) σ H Q → tDc (SI K E fi) t (ST K EF ft) (S K EF fk) (S K EF fv) vs σ H Q :=
  fun σ H Q ⟨ρ, aσ, A, w, s, y⟩ => ⟨ρ, aσ, A, w, s, y.bind.mono (fun ng A1 y1 ρ1 H1 J g1 w1 it D hD => by
    obtain ⟨w2, g2⟩ := w1.out (u := .dK []) hD
    refine ⟨fun i m H2 => ∃ ρ2 A2 ks xs kvs, Grow ρ1 H1 ρ2 H2 ∧ Wd K ρ2 H2 A2 ∧ H2 D = some (.dK kvs) ∧ D ∉ ρ2 ∧ kvs.map (·.1) = ks ∧ VRs K ρ2 H2 xs (kvs.map (·.2)) ∧
      Yes (loopD ng.2 ag ft fk fv (wipeA aσ vs) m i ks xs) A2 (fun p A' => Yes (M.lift (fun A => some (.ref A.length, A ++ [.dK p.1 p.2]))) A' (fun x A' => Post K (VR K) ρ H x A' Q) (fun e A' => PostX K ρ H e A' E)) (fun e A' => PostX K ρ H e A' E), ?_, ?_⟩
    · refine ⟨ng.1, ρ1, A1, [], [], [], g2, w2, upd_same, fun hm => ?_, rfl, .nil, y1.bind⟩
      obtain ⟨u, h, _⟩ := w1.own hm
      rw [hD] at h; cases h
    · rintro i m H2 ⟨ρ2, A2, ks, xs, kvs, g3, w3, hDl, hDn, hk, ra, y2⟩
      have g13 := g1.trans g3
      cases m with
      | zero => exact (show Yes M.fail A2 _ _ from y2).fail
      | succ m =>
        obtain ⟨o, ho, y3⟩ := (show Yes ((M.get (ng.2 i)).bind _) A2 _ _ from y2).bind.get
        have hit := it ρ2 H2 A2 i g3 w3
        rw [ho] at hit
        cases o with
        | none =>
          refine .inl ⟨hit, ?_⟩
          obtain ⟨z, A', hz, q⟩ := y3.pure.lift
          cases hz
          exact q (ρ2 ++ [D]) H2 (.ref D) (g13.take (g1.dom D hD)) (w3.take hDn ⟨kvs, hDl, hk, ra.mono (Tx.refl _) [D]⟩) (.ref (by rw [← w3.len]; simp))
        | some x =>
          refine .inr ⟨hit.1, fun H' => ∃ m', m' < m + 1 ∧ ∃ ρ2 A2 ks xs kvs, Grow ρ1 H1 ρ2 H' ∧ Wd K ρ2 H' A2 ∧ H' D = some (.dK kvs) ∧ D ∉ ρ2 ∧ kvs.map (·.1) = ks ∧ VRs K ρ2 H' xs (kvs.map (·.2)) ∧
            Yes (loopD ng.2 ag ft fk fv (wipeA aσ vs) m' (i + 1) ks xs) A2 (fun p A' => Yes (M.lift (fun A => some (.ref A.length, A ++ [.dK p.1 p.2]))) A' (fun x A' => Post K (VR K) ρ H x A' Q) (fun e A' => PostX K ρ H e A' E)) (fun e A' => PostX K ρ H e A' E), fun H' h => h, fun v H' yl => ?_⟩
          obtain ⟨g4, w4, r4⟩ := hit.2 v H' yl
          obtain ⟨s1, hs1, y4⟩ := y3.bind.get
          have hD4 : H' D = some (.dK kvs) := g4.keep D _ hDl hDn
          refine hg ρ2 H' A2 x v (wipeA aσ vs) (wipe σ vs) s1 _ w4 r4 ((s.grow (g13.trans g4)).wipe vs) hs1 fun σ2 sr2 ew => ⟨by rw [ew]; exact wipe_idem σ vs, ?_⟩
          refine ⟨ρ2, s1, A2, w4, sr2, y4.bind.nox.mono (fun b A5 y5 ρ5 H5 b' g5 w5 eb => ?_) fun _ _ h => noX h⟩
          cases eb
          have hD5 : H5 D = some (.dK kvs) := g5.keep D _ hD4 hDn
          have hDn5 : D ∉ ρ5 := g5.notin hD4 hDn
          cases b with
          | true =>
            rw [if_pos rfl]
            refine ⟨ρ5, s1, A5, w5, sr2.grow g5, y5.bind.nox.mono (fun yk A6 y6 ρ6 H6 yk' g6 w6 r6 => ?_) fun _ _ h => noX h⟩
            have hD6 : H6 D = some (.dK kvs) := g6.keep D _ hD5 hDn5
            have hDn6 : D ∉ ρ6 := g6.notin hD5 hDn5
            refine ⟨ρ6, s1, A6, w6, (sr2.grow g5).grow g6, y6.bind.nox.mono (fun z A7 y7 ρ7 H7 z' g7 w7 r7 => ?_) fun _ _ h => noX h⟩
            have hD7 : H7 D = some (.dK kvs) := g7.keep D _ hD6 hDn6
            have hDn7 : D ∉ ρ7 := g7.notin hD6 hDn6
            obtain ⟨hsz, y8⟩ := y7.bind.chk
            obtain ⟨k, hkey, y9⟩ := y8.bind.opt
            have gg := ((g4.trans g5).trans g6).trans g7
            obtain ⟨p1, p2⟩ := dPut_ok (k := k) r7 hk (gg.vrs ra)
            have hl : kvs.length < sizeLine := by
              have e1 : kvs.length = (kvs.map (·.1)).length := by simp
              rw [e1, hk]
              exact Evl.sz_lt (Nat.le_of_ble_eq_true hsz)
            have tx : Tx H7 (upd H7 D (.dK (putK kvs k z'))) := tx_ofK hD7
            exact ⟨kvs, k, keyOf_eq (g7.vr r6) hkey, hD7, hl, m, Nat.lt_succ_self m, ρ7, A7, _, _, putK kvs k z', (g3.trans gg).mut hD tx, w7.beside hDn7 tx, upd_same, hDn7, p1, p2.tx tx, y9⟩
          | false =>
            rw [if_neg Bool.false_ne_true]
            exact ⟨m, Nat.lt_succ_self m, ρ5, A5, ks, xs, kvs, g3.trans (g4.trans g5), w5, hD5, hDn5, hk, (g4.trans g5).vrs ra, y5⟩) fun _ _ q => q⟩
section
variable {X : Cx} {E : XK} {elt kx vx tg iter : Expr} {ifs : List Expr} {scope : Scope} {own : List (Str × Nat)} {pos spos : Pos} {fi : ASt → M AIt} {t : TG} {ag : AV → ASt → AH → Option ASt} {ft : ASt → M Bool} {fe fk fv : ASt → M AV} {vs : List Nat}
theorem a_dc (hc : X.calm = true) (hN : X.N.Nodup) (hi : PI X tg iter (SI X.K E fi)) (ok : BlkOk X.N X.env.scope scope own) (htg : TgR X.K t ag vs)
    (hg : ∀ (s : Shared) (H : Hp) (C : Addr) (cl : List (Str × Addr)) (fp : List Addr), PG (X.blk s H scope (compEnvC scope cl C X.env) fp) tg t) (ht : ∀ (s : Shared) (H : Hp) (C : Addr) (cl : List (Str × Addr)) (fp : List Addr), PTs (X.blk s H scope (compEnvC scope cl C X.env) fp) ifs (ST X.K EF ft))
    (hk : ∀ (s : Shared) (H : Hp) (C : Addr) (cl : List (Str × Addr)) (fp : List Addr), PE (X.blk s H scope (compEnvC scope cl C X.env) fp) kx (S X.K EF fk))
    (he : ∀ (s : Shared) (H : Hp) (C : Addr) (cl : List (Str × Addr)) (fp : List Addr), PE (X.blk s H scope (compEnvC scope cl C X.env) fp) vx (S X.K EF fv)) (hs : ∀ x, foldedSetIterable iter X.env x = pure x := by intro _; rfl) (hv : own.map (·.2) = vs := by rfl) :
    PE X (.DictComp kx vx [⟨tg, iter, ifs, 0⟩] scope pos) (S X.K E (aDc fi ag ft fk fv vs)) := by subst hv; exact wE (pe_dc hc hN hi ok hg ht hk he hs) (dc_sound htg)
/-- {} -/
def aDnew : ASt → M AV := fun _ => M.lift fun A => some (.ref A.length, A ++ [.dK [] []])
theorem a_dnew : PE X (.Dict [] [] pos) (S X.K E aDnew) := wE pe_dnewK fun σ H Q ⟨ρ, aσ, A, w, s, y⟩ p hp => by
  obtain ⟨z, A', hz, q⟩ := y.lift
  cases hz
  obtain ⟨w2, g2⟩ := w.new (u := .dK []) (o := .dK [] []) hp ⟨[], upd_same, rfl, .nil⟩
  exact q _ _ _ g2 w2 (.ref (by rw [← w.len]; simp))
end

/-! ### (a, b, ..) = a tuple or a list -/
def agSeq (n : Nat) (h : List AV → ASt → M ASt) : AG := fun x s => match x with
  | .tup xs => match Nat.beq xs.length n with
    | true => h xs s
    | false => M.fail
  | .ref i => (M.get fun A => match A[i]? with
    | some (.lst xs) => match Nat.beq xs.length n with
      | true => some xs
      | false => none
    | _ => none).bind fun xs => h xs s
  | _ => M.fail
theorem g_seq {X : Cx} {E : XK} {pos : Pos} {es : List Expr} {k : Nat} {t : List AV → ASt → M ASt} {n : Nat} (hc : X.calm = true) (h : PGs X es (SGs X.K E t))
    (hn : (assignEach es X.env).length = n := by rfl) (hst : (assignEach es X.env).findIdx? (·.1) = none := by rfl) : PG X (.Tuple es k pos) (SG X.K E (agSeq n t)) := by
  refine ⟨fun pins s σ H v u Q I ru ⟨ρ, aσ, A, x, w, sr, r, y⟩ => ?_⟩
  cases x with
  | tup xs =>
    exact (g_tup (E := E) (t := t) hc h hn hst).run pins s σ H v u Q I ru ⟨ρ, aσ, A, .tup xs, w, sr, r, y⟩
  | ref i =>
    obtain ⟨xs, hx, y2⟩ := (show Yes ((M.get _).bind _) A _ _ from y).bind.get
    split at hx
    · rename_i hA
      split at hx
      · rename_i hl
        cases hx
        obtain ⟨a, vs, rfl, _, h1, r1⟩ := w.lst r hA
        exact (pg_lst hc h hn hst).run pins s σ H _ u Q I ru ⟨a, vs, rfl, Evl.sq_of h1, by rw [← r1.length]; exact Nat.eq_of_beq_eq_true hl, ρ, aσ, A, _, w, sr, r1, y2⟩
      · cases hx
    · cases hx
  | _ => exact (show Yes M.fail A _ _ from y).fail

/-! ### a local name that holds a def, called -/
theorem fn0_of {P : Program} {w : World} {K : PySem.W.Frag} {mg : Str → Option Value} {base : Heap} {k : Nat} {f : Addr} {fd : FuncData} {ps : List Str} {sp : Sp} (F : FnOk P w K mg base (L2N.CX P w) k f fd ps sp) : FnOk P w K mg base C8.CX0 k f fd ps (fun vs H Q _ => sp vs H Q EF) :=
  ⟨fun vs H Q _ h => F.len vs H Q EF h, fun A outer s H args us vs Q E hr he hb hv hs => codeAny_mono (F.run A outer s H args us vs Q EF hr he hb hv hs) fun r s' q => by
    cases r with
    | error e =>
      obtain ⟨a, B, H', cls, d, _, _, _, _, _, _, _, z⟩ := (show L2N.CX P w outer H s EF e s' from q)
      exact z.elim
    | ok fl => cases fl <;> exact q⟩
theorem CalA.at {P : Program} {w : World} {K : PySem.W.Frag} {mg : Str → Option Value} {base : Heap} {k n : Nat} {x : Str} {g : List AV → M AV} (c : CalA P w K mg base k x n g) : C8.CalAt P w K mg base k (He.ga K x) (fun vs H Q _ => spA K n g vs H Q EF) := by
  obtain ⟨fd, ps, F, hm, kp, b⟩ := c.ex
  exact ⟨fd, ps, fn0_of F, kp, b⟩
def aCallV (i n : Nat) (x1 x2 : Str) (g1 g2 : List AV → M AV) (fl : ASt → M (List AV)) : ASt → M AV := fun aσ => match aσ[i]? with
  | some (some (.fn x)) => match strB x x1 with
    | true => (fl aσ).bind fun xs => (M.chk (lenOk xs n)).bind fun _ => (M.apart xs (g1 xs)).nox
    | false => match strB x x2 with
      | true => (fl aσ).bind fun xs => (M.chk (lenOk xs n)).bind fun _ => (M.apart xs (g2 xs)).nox
      | false => M.fail
  | _ => M.fail
theorem Yes.errF {α : Type} {m : M α} {A : AH} {k : α → AH → Prop} (y : Yes m A k (fun _ _ => False)) {x : AExc → AH → Prop} : Yes m A k x := y.mono (fun _ _ q => q) fun _ _ h => h.elim
theorem a_cv {X : Cx} {E : XK} {e : Expr} {es : List Expr} {fl : ASt → M (List AV)} {x : Str} {p pos : Pos} {i n k1 k2 j : Nat} {x1 x2 : Str} {g1 g2 : List AV → M AV} (c1 : CalA X.prog X.w X.K X.mg X.base k1 x1 n g1) (c2 : CalA X.prog X.w X.K X.mg X.base k2 x2 n g2) (hr : Room j X.A) (hk1 : k1 ≤ j) (hk2 : k2 ≤ j)
    (ha : PA X (e :: es) (SL X.K E fl)) (hN : X.N[i]? = some x := by rfl) (hv : Vis X.env.scope x := by first | exact Or.inl rfl | exact Or.inr (Or.inl rfl) | exact Or.inr (Or.inr rfl))
    (hd : (x == ("__debug__" : Str)) = false := by decide) (hcd : (x == ("__classdict__" : Str)) = false := by decide)
    (he : starEach (e :: es) X.env = (false, eval e X.env) :: starEach es X.env := by rfl) (hpl : (backTo pos (starEach es X.env)).any (·.1) = false := by rfl) :
    PE X (.Call (.Name x p) (e :: es) [] pos) (S X.K E (aCallV i n x1 x2 g1 g2 fl)) := by
  refine wE (C8.pe_cv c1.at c2.at hr hk1 hk2 hN hv ha hd hcd he hpl) fun σ H Q ⟨ρ, aσ, A, w, s, y⟩ => ?_
  have fin : ∀ {g : List AV → M AV}, Yes ((fl aσ).bind fun xs => (M.chk (lenOk xs n)).bind fun _ => (M.apart xs (g xs)).nox) A (fun v A' => Post X.K (VR X.K) ρ H v A' Q) (fun e A' => PostX X.K ρ H e A' E) → SL X.K E fl σ H fun vs H1 => spA X.K n g vs H1 Q EF := fun {g} y => SX.mk w s y.bind fun xs A1 ρ1 H1 vs y1 g1 w1 r1 => by
    obtain ⟨hl, y2⟩ := y1.bind.chk
    obtain ⟨hp, y3⟩ := ((y2.nox.mono (fun _ _ q => Post.tr q g1) fun _ _ h => h).errF (x := fun e A' => PostX X.K ρ1 H1 e A' EF)).apart w1
    exact ⟨by rw [← r1.length]; exact Nat.eq_of_beq_eq_true hl, [], [], xs, Wd.nil, r1.pure hp, y3⟩
  unfold aCallV at y
  split at y
  · rename_i z hz
    obtain ⟨v, e1, r1⟩ := s.2 i _ hz
    cases r1.fn_eq
    split at y
    · rename_i hs
      cases strB_true hs
      exact .inl ⟨e1, fin y⟩
    · split at y
      · rename_i hs
        cases strB_true hs
        exact .inr ⟨e1, fin y⟩
      · exact y.fail
  · exact y.fail

/-! ### truth -/
def truX (A : AH) : AV → Option Bool
  | .non => some false
  | .bl b => some b
  | .int i => some (i != 0)
  | .tup xs => some (!xs.isEmpty)
  | .ref i => match A[i]? with
    | some (.lst xs) => some (!xs.isEmpty)
    | some (.dK ks xs) => some (!ks.isEmpty)
    | _ => none
  | _ => none
def aTru (fa : ASt → M AV) : ASt → M Bool := fun aσ => (fa aσ).bind fun x => M.get fun A => truX A x
theorem t_truth {X : Cx} {E : XK} {a : Expr} {fa : ASt → M AV} (ha : PE X a (S X.K E fa)) (he : ∀ whole, isTrue a X.env whole = (do let v ← whole; standAt a.pos; holding [v] (truthy v)) := by intro _; rfl) : PT X a (ST X.K E (aTru fa)) :=
  wT (pt_truth ha he) fun σ H Q ⟨ρ, aσ, A, w, s, y⟩ => SX.mk w s y.bind fun x A1 ρ1 H1 v y1 g1 w1 r1 => by
    obtain ⟨b, hb, q⟩ := y1.get
    refine ⟨b, ?_, q ρ1 H1 b g1 w1 rfl⟩
    unfold truX at hb
    split at hb
    · cases hb; rw [r1.non_eq]; exact rfl
    · cases hb; rw [r1.bl_eq]; exact rfl
    · cases hb; rw [r1.int_eq]; exact rfl
    · cases hb
      obtain ⟨a, vs, rfl, h1, r2⟩ := r1.tup_eq
      refine .inr (.inl ⟨vs, h1, ?_⟩)
      cases r2 <;> rfl
    · split at hb
      · rename_i hA
        cases hb
        obtain ⟨a, vs, rfl, _, h1, r2⟩ := w1.lst r1 hA
        refine .inl ⟨vs, Evl.sq_of h1, ?_⟩
        cases r2 <;> rfl
      · rename_i hA
        cases hb
        obtain ⟨a, kvs, rfl, _, h1, h2, r2⟩ := w1.dK r1 hA
        refine .inr (.inr ⟨kvs, h1, ?_⟩)
        subst h2
        cases kvs <;> rfl
      · cases hb
    · cases hb
/-! ### *e among arguments -/
def aStar (f : ASt → M AV) (g : ASt → M (List AV)) : ASt → M (List AV) := fun aσ => (f aσ).bind fun x => (M.get fun A => seqX A x).bind fun ys => (g aσ).bind fun xs => M.pure (ys ++ xs)
theorem hu65 {A : Around} {k : Nat} (r : Room k A) : A.units + 65 < cLine := by have := r.un; omega
end AX

set_option Elab.async false
set_option linter.all false
set_option maxRecDepth 100000
set_option maxHeartbeats 4000000
/-! AX10: further operators and statements. -/
namespace AX
open PySem PySem.Spec PyProof.Rows L2 StX
def gNeg : G1 := fun x A => match x with
  | .int i => some (.int (-i), A)
  | _ => none
theorem r_neg {K : PySem.W.Frag} : R1A K (rU fun i => .int (-i)) gNeg := by
  intro ρ H A x v z A' Q w rx e q
  cases x with
  | int i => cases e; exact ⟨i, rx.int_eq, fin0 w (.int _) q⟩
  | _ => cases e
def cPow (i j : Int) : Bool := decide (0 ≤ j) && decide ((Builtin.Int.intBits i : Int) * j ≤ 2 ^ 27)
def gPow : G2 := gII cPow fun i j => i ^ j.toNat
def CPowW (i j : Int) : Prop := 0 ≤ j ∧ (Builtin.Int.intBits i : Int) * j ≤ 2 ^ 27
theorem o_pow {X : Cx} : OpR X (binaryOp .Pow) (rI CPowW fun i j => .int (i ^ j.toNat)) := opI fun _ _ _ _ _ _ _ hc q => pow_int hc.1 hc.2 q
theorem r_pow {K : PySem.W.Frag} : R2A K (rI CPowW fun i j => .int (i ^ j.toNat)) gPow := r_II fun i j h => by
  unfold cPow at h
  rw [Bool.and_eq_true] at h
  exact ⟨of_decide_eq_true h.1, of_decide_eq_true h.2⟩
def gAddI : G2 := gII (fun _ _ => true) fun i j => i + j
theorem r_addI {K : PySem.W.Frag} : R2A K L2.rAdd gAddI := r_II0
/-- text.index(sign) -/
def gIndex : GM := fun x xs A => match x, xs with
  | .str a, [.str b] => match Builtin.Str.occurrences a b 0 a.length 1 with
    | i :: _ => some (.int (i : Nat), A)
    | [] => none
  | _, _ => none
def rIndexT : V → List V → Hp → VK → Prop := fun x xs H Q => ∃ a b i rest, x = .str a ∧ xs = [.str b] ∧ Builtin.Str.occurrences a b 0 a.length 1 = i :: rest ∧ Q (.int (i : Nat)) H
theorem r_index {K : PySem.W.Frag} : RMA K rIndexT gIndex := by
  intro ρ H A x xs v vs z A' Q w rx r e q
  unfold gIndex at e
  split at e
  · split at e
    · rename_i ho
      cases e
      obtain ⟨u, rfl, r1⟩ := r.l1
      exact ⟨_, _, _, _, rx.str_eq, by rw [r1.str_eq], ho, fin0 w (.int _) q⟩
    · cases e
  · cases e
/-- *e -/
theorem l_star {X : Cx} {E : XK} {e : Expr} {es : List Expr} {p : Pos} {f : ASt → M AV} {g : ASt → M (List AV)} (he : PE X e (S X.K E f)) (hr : PA X es (SL X.K E g)) (hs : starEach (.Starred e p :: es) X.env = (true, eval e X.env) :: starEach es X.env := by rfl) :
    PA X (.Starred e p :: es) (SL X.K E (aStar f g)) :=
  wA (pa_star he hr hs) fun σ H Q ⟨ρ, aσ, A, w, s, y⟩ => SX.mk w s y.bind fun x A1 ρ1 H1 v y1 g1 w1 r1 => by
    obtain ⟨ys, hx, y2⟩ := y1.bind.get
    obtain ⟨a, vs, rfl, r2, h⟩ := seqX_ok w1 r1 hx
    exact ⟨a, vs, rfl, h.elim .inr fun h => .inl h.1, SX.mk w1 (s.grow g1) (y2.bind.mono (fun _ _ q => q) fun _ _ q => q.tr g1) fun xs A2 ρ2 H2 us y3 g2 w2 r3 => y3.pure ρ2 H2 _ (g1.trans g2) w2 ((g2.vrs r2).append r3)⟩
/-- xs[i] += v, of a list of ints -/
def bAugS (fo fi fv : ASt → M AV) : ASt → M AOut := fun aσ => (fo aσ).bind fun o => (fi aσ).bind fun i => (M.chk (isLst o)).bind fun _ => (M.lift (gIx o i)).bind fun x => (fv aσ).bind fun y => (M.lift (gAddI x y)).bind fun z => (M.lift fun A => (gSetI o i z A).map fun A' => ((), A')).bind fun _ => M.pure (.nx aσ)
def rGetL (K : PySem.W.Frag) : V → V → Hp → VK → Prop := fun x y H Q => ∃ p xs i v, x = .ref p ∧ y = .int i ∧ SqL K H p xs ∧ atI xs i = some v ∧ Q v H
theorem get_list {X : Cx} : PGet X (rGetL X.K) := by
  intro pins s σ H o i ov iv Q I ro ri h
  obtain ⟨p, xs, k, z, rfl, rfl, hq, he, q⟩ := h
  cases ro
  obtain ⟨t, rfl⟩ := ri
  obtain ⟨its, r, pl, hz⟩ := I.list hq
  obtain ⟨j, h1, h2, h3, h4, h5⟩ := atI_get he
  obtain ⟨wv, ew, rw'⟩ := r.get h2
  have hl := r.length
  have hn := line63
  have fin : EP X pins σ Q wv s := ⟨z, H, I, rw', q⟩
  by_cases h0 : 0 ≤ k
  · have hj : k.toNat = j := by
      rw [seqIndex_of h0 h5] at h1
      exact Option.some.inj h1
    exact PySem.wpAny_getItem_list (x := wv) pl.isList h0 (by omega) (by rw [hj]; simpa using ew) fin
  · have hj : (k + (its.toArray.size : Int)).toNat = j := by
      rw [seqIndex_neg (by omega) h4] at h1
      rw [List.size_toArray, ← hl]
      exact Option.some.inj h1
    exact PySem.wpAny_getItem_list_neg (x := wv) pl.isList (by omega) (by rw [List.size_toArray] <;> omega) (by omega) (by rw [hj]; simpa using ew) fin
theorem s_augS {X : Cx} {E : XK} {o i e : Expr} {fo fi fv : ASt → M AV} {tpos pos : Pos} (hu : X.A.units + 1 < cLine) (ho : PE X o (S X.K E fo)) (hi : PE X i (S X.K E fi)) (he : PE X e (S X.K E fv))
    (ha : ∀ ov iv new, augStore i ov iv new = (do holding [new, ov, iv] (setItem ov iv new); release [new, ov, iv] []; pure .next) := by intros; rfl) : PS X (.AugAssign (.Subscript o i tpos) .Add e pos) (SS X.K E (bAugS fo fi fv)) :=
  wS (ps_augS ho hi get_list he (ip_add (X := X)) (p_set hu) ha) fun D σ H ⟨ρ, aσ, A, w, s, y⟩ => SX.mk w s y.bind fun x A1 ρ1 H1 ov y1 g1 w1 r1 =>
    SX.mk w1 (s.grow g1) (y1.bind.mono (fun _ _ q => q) fun _ _ q => q.tr g1) fun i1 A2 ρ2 H2 iv y2 g2 w2 r2 => by
      obtain ⟨hc, y3⟩ := y2.bind.chk
      obtain ⟨old, A3, hg, y4⟩ := y3.bind.lift
      unfold isLst at hc
      split at hc
      · split at hc
        · rename_i j _ xs hA
          obtain ⟨a, vs, rfl, ha, h1, rv⟩ := w2.lst (g2.vr r1) hA
          unfold gIx at hg
          simp only [hA] at hg
          split at hg
          · split at hg
            · rename_i k hk
              cases hg
              obtain ⟨ov, ho, ro⟩ := rv.atX hk
              have s2 := (s.grow g1).grow g2
              refine ⟨a, vs, _, ov, rfl, r2.int_eq, Evl.sq_of h1, ho, SX.mk w2 s2 (y4.bind.mono (fun _ _ q => q) fun _ _ q => q.tr (g1.trans g2)) fun z A4 ρ4 H4 zv y5 g4 w4 r4 => ?_⟩
              obtain ⟨n, A5, hn, y6⟩ := y5.bind.lift
              unfold gAddI gII at hn
              split at hn
              · cases hn
                obtain ⟨_, A6, hs, q⟩ := y6.bind.lift
                cases hS : gSetI (.ref j) _ _ A4 with
                | none => rw [hS] at hs; cases hs
                | some A7 =>
                  rw [hS] at hs
                  cases hs
                  refine ⟨_, _, (g4.vr ro).int_eq, r4.int_eq, ?_⟩
                  have g14 := (g1.trans g2).trans g4
                  exact r_set ρ4 H4 A4 _ _ _ (.ref a) iv _ A6 _ w4 (g4.vr (g2.vr r1)) (g4.vr r2) (.int _) hS fun H' g5 w5 => q.pure ρ4 H' (g14.trans g5) w5 σ (s.grow (g14.trans g5))
              · cases hn
            · cases hg
          · cases hg
        · cases hc
      · cases hc
end AX

set_option Elab.async false
set_option linter.all false
set_option maxRecDepth 100000
set_option maxHeartbeats 4000000
/-! AX11: dict(t), t a tuple of pairs whose object is known. -/
namespace AX
open PySem PySem.Spec PyProof.Rows L2
def rDictX (K : PySem.W.Frag) : List V → Hp → VK → Prop := fun xs H Q => ∃ (a : Addr) (ps : List Addr) (kvs : List (Key × V)), xs = [.ref a] ∧ TudAt H a (ps.map V.ref) ∧ Paired (fun p kv => SqT K H p [kV kv.1, kv.2]) ps kvs ∧ ∀ p, H p = none → Q (.ref p) (upd H p (.dK (mergeK [] kvs)))
theorem keys_of {h : Heap} : ∀ {prs : List (Key × Value)} {ps : List Addr}, prs.length = ps.length → (∀ (j : Nat) (q : Key × Value), prs[j]? = some q → ∃ (b : Addr) (u : Value), ps[j]? = some b ∧ IsTup h b #[u, q.2] ∧ keyIs q.1 u = true) →
    ∃ kps : List (Value × Value), kps.length = prs.length ∧ ∀ (j : Nat) (k v : Value), kps[j]? = some (k, v) → ∃ (b : Addr) (q : Key × Value), ps[j]? = some b ∧ IsTup h b #[k, v] ∧ prs[j]? = some q ∧ q.2 = v ∧ keyIs q.1 k = true
  | [], _, _, _ => ⟨[], rfl, fun j k v e => by simp at e⟩
  | q :: prs, [], hl, _ => by simp at hl
  | q :: prs, p :: ps, hl, hp => by
    obtain ⟨kps, h1, h2⟩ := keys_of (prs := prs) (ps := ps) (by simpa using hl) fun j q' e => by
      obtain ⟨b, u, e1, e2, e3⟩ := hp (j + 1) q' (by simpa using e)
      exact ⟨b, u, by simpa using e1, e2, e3⟩
    obtain ⟨b, u, e1, e2, e3⟩ := hp 0 q rfl
    refine ⟨(u, q.2) :: kps, by rw [List.length_cons, List.length_cons, h1], fun j k v e => ?_⟩
    cases j with
    | zero =>
      have e' : (u, q.2) = (k, v) := Option.some.inj e
      cases e'
      exact ⟨b, q, e1, e2, rfl, rfl, e3⟩
    | succ j =>
      obtain ⟨b, q', g1, g2, g3, g4, g5⟩ := h2 j k v (by simpa using e)
      exact ⟨b, q', by simpa using g1, g2, by simpa using g3, g4, g5⟩
theorem c_dict {X : Cx} (hcalm : X.calm = true) : CallR X (.type "dict") (rDictX X.K) := by
  intro pins s σ H xs us Q I r q
  obtain ⟨a, ps, kvs, rfl, ⟨its0, n0, hq⟩, hp, q⟩ := q
  obtain ⟨u, rfl, rx⟩ := vals1 r
  cases rx
  obtain ⟨hob, hz, its, rv, htp⟩ := (show ObjOk X.prog X.w H s.heap a (.frz _ (.tup _)) from I.hok a _ hq)
  have ei := refs_at rv
  subst ei
  obtain ⟨o1, ho1, _, n1, hd1⟩ := htp
  rw [hob] at ho1
  cases ho1
  cases hd1
  rw [List.length_map] at hz
  obtain ⟨prs, rel, hl, hpr⟩ := pairs_of I hp
  -- the pairs with their keys as they stand
  have keys : ∃ kps : List (Value × Value), kps.length = prs.length ∧ ∀ (j : Nat) (k v : Value), kps[j]? = some (k, v) → ∃ (b : Addr) (q : Key × Value), ps[j]? = some b ∧ IsTup s.heap b #[k, v] ∧ prs[j]? = some q ∧ q.2 = v ∧ keyIs q.1 k = true := by
    exact keys_of hl hpr
  obtain ⟨kps, hkl, hkp⟩ := keys
  have P := PairArg.tuple (prog := X.prog) (w := X.w) a (ps.map Value.ref).toArray (fun j => ps.getD j 0) kps
  refine call_dict_pairs (knd := mixKind X.prog X.w) (kvs := prs) P (I.ok.hd hcalm) ⟨⟨_, _, hob, rfl, rfl, rfl⟩, ?_, fun j k v e => ?_⟩ ⟨hkl.symm, fun i k v e => ?_⟩ (by rw [hkl, hl]; exact hz) fun h' tk hd' k => ?_
  · simp [hkl, hl]
  · obtain ⟨b, q, h1, h2, _⟩ := hkp j k v e
    have hb : ps.getD j 0 = b := by simp [List.getD, h1]
    refine ⟨by simp [hb, h1], ?_⟩
    dsimp only
    rw [hb]
    exact .inl h2
  · obtain ⟨b, q, _, _, h3, h4, h5⟩ := hkp i k v e
    exact ⟨q.1, by rw [h3, ← h4], h5⟩
  · have hm : (s.heap.objs.size == sysModules) = false := beq_eq_false_iff_ne.mpr (Nat.ne_of_gt I.big)
    have hlen : (mergeK [] kvs).length ≤ sizeLine := by
      have h1 := length_mergeK kvs []
      have h2 := rel.length
      simp only [List.length_nil, Nat.zero_add] at h1
      omega
    exact ⟨.ref s.heap.objs.size, upd H s.heap.objs.size (.dK (mergeK [] kvs)), I.laid (t' := tk) (fun b o e => k b o (by simp) e) (Nat.le_refl _) (dk_new hlen hm (KV.merge rel .nil) hd'), rfl, q _ (I.hok.fresh (Nat.le_refl _))⟩
def mergeA : List AV → List Key → List AV → Option (List Key × List AV)
  | [], ks, vs => some (ks, vs)
  | y :: r, ks, vs => match y with
    | .tup [k, v] => match keyOf k with
      | some key => mergeA r (dPut ks vs key v).1 (dPut ks vs key v).2
      | none => none
    | _ => none
def gDict : GL := fun xs A => match xs with
  | [.tud ys] => match mergeA ys [] [] with
    | some (ks, vs) => some (.ref A.length, A ++ [.dK ks vs])
    | none => none
  | _ => none
theorem mergeA_ok {K : PySem.W.Frag} {ρ : List Addr} {H : Hp} : ∀ {ys : List AV} {us : List V} {ks : List Key} {vs : List AV} {acc : List (Key × V)} {p : List Key × List AV}, VRs K ρ H ys us → acc.map (·.1) = ks → VRs K ρ H vs (acc.map (·.2)) → mergeA ys ks vs = some p →
    ∃ (ps : List Addr) (kvs : List (Key × V)), us = ps.map V.ref ∧ Paired (fun p kv => SqT K H p [kV kv.1, kv.2]) ps kvs ∧ (mergeK acc kvs).map (·.1) = p.1 ∧ VRs K ρ H p.2 ((mergeK acc kvs).map (·.2))
  | [], _, ks, vs, acc, p, .nil, e1, e2, e => by
    cases e
    exact ⟨[], [], rfl, .nil, e1, e2⟩
  | y :: r, _, ks, vs, acc, p, .cons r1 rs, e1, e2, e => by
    unfold mergeA at e
    split at e
    · split at e
      · rename_i key hk
        obtain ⟨a, ws, rfl, h1, r2⟩ := r1.tup_eq
        obtain ⟨v1, v2, rfl, q1, q2⟩ := r2.l2
        obtain ⟨p1, p2⟩ := dPut_ok (k := key) q2 e1 e2
        obtain ⟨ps, kvs, g1, g2, g3, g4⟩ := mergeA_ok rs p1 p2 e
        have ek := keyOf_eq q1 hk
        subst ek
        exact ⟨a :: ps, (key, v2) :: kvs, by rw [g1] <;> rfl, .cons h1 g2, g3, g4⟩
      · cases e
    · cases e
theorem r_dict {K : PySem.W.Frag} : RLA K (rDictX K) gDict := by
  intro ρ H A xs vs z A' Q w r e q
  unfold gDict at e
  split at e
  · split at e
    · rename_i hm
      cases e
      obtain ⟨v, rfl, r1⟩ := r.l1
      obtain ⟨a, us, rfl, h1, r2⟩ := r1.tud_eq
      obtain ⟨ps, kvs, e1, hp, g1, g2⟩ := mergeA_ok (acc := []) r2 rfl .nil hm
      subst e1
      refine ⟨a, ps, kvs, rfl, h1, hp, fun p hp => ?_⟩
      obtain ⟨_, g0⟩ := w.out (u := .dK (mergeK [] kvs)) hp
      obtain ⟨w2, g3⟩ := w.new (u := .dK (mergeK [] kvs)) (o := .dK _ _) hp ⟨_, upd_same, g1, g2.mono g0.tx [p]⟩
      exact q _ _ _ g3 w2 (.ref (by rw [← w.len]; simp))
    · cases e
  · cases e

/-! ### tuples whose object is known: a display, tuple(l) -/
def tTupD (t : TA) : TE := fun σ H Q => t σ H fun xs H1 => xs.length ≤ sizeLine ∧ ∀ p its n, H1 p = none → Q (.ref p) (upd H1 p (.frz ⟨.type "tuple", none, .seq its n, #[]⟩ (.tup xs)))
theorem pe_tupD {X : Cx} {es : List Expr} {t : TA} {x1} {pos : Pos} (h : PA X es t) : PE X (.Tuple es x1 pos) (tTupD t) := by
  refine ⟨fun pins s σ H Q I hq => wpAny_Tuple_spliced (thn (h.run pos pins s σ H _ I hq) fun us s1 ⟨xs, H1, I1, r, z, q⟩ => ⟨by rw [← r.length]; exact z, ?_⟩)⟩
  have hf : H1 s1.heap.objs.size = none := I1.hok.fresh (Nat.le_refl _)
  refine ⟨.ref s1.heap.objs.size, _, I1.laid (t' := s1.toks) (o := .frz ⟨.type "tuple", none, .seq us.toArray 0, #[]⟩ (.tup xs)) (fun b u e => Heap.get?_push_of_some _ e) (Nat.le_refl _) ?_, rfl, q _ us.toArray 0 hf⟩
  exact ⟨Heap.get?_push_size _ rfl, z, us, r, ⟨_, Heap.get?_push_size _ rfl, rfl, _, rfl⟩⟩
def aTupD (f : ASt → M (List AV)) : ASt → M AV := fun aσ => (f aσ).bind fun xs => (M.chk fun _ => szOk xs.length).bind fun _ => M.pure (.tud xs)
theorem finD {K : PySem.W.Frag} {ρ : List Addr} {H : Hp} {A : AH} {xs : List AV} {vs : List V} {Q : VK} (w : Wd K ρ H A) (r : VRs K ρ H xs vs) (q : Post K (VR K) ρ H (.tud xs) A Q) {p : Addr} (hp : H p = none) (its n) :
    Q (.ref p) (upd H p (.frz ⟨.type "tuple", none, .seq its n, #[]⟩ (.tup vs))) := by
  obtain ⟨w2, g2⟩ := w.out (u := .frz ⟨.type "tuple", none, .seq its n, #[]⟩ (.tup vs)) hp
  exact q ρ _ _ g2 w2 (.tud ⟨its, n, upd_same⟩ (g2.vrs r))
section
variable {X : Cx} {E : XK} {e : Expr} {es : List Expr} {fl : ASt → M (List AV)} {pos : Pos}
theorem a_tupD {x1} (h : PA X es (SL X.K E fl)) : PE X (.Tuple es x1 pos) (S X.K E (aTupD fl)) :=
  wE (pe_tupD h) fun σ H Q ⟨ρ, aσ, A, w, s, y⟩ => SX.mk w s y.bind fun xs A1 ρ1 H1 vs y1 g1 w1 r1 => by
    obtain ⟨hz, y2⟩ := y1.bind.chk
    exact ⟨by rw [← r1.length]; exact szOk_of hz, fun p its n hp => finD w1 r1 (y2.pure.tr g1) hp its n⟩
end
/-- tuple(l), l an own list -/
def rTupD : List V → Hp → VK → Prop := fun xs H Q => ∃ p ys, xs = [.ref p] ∧ H p = some (.lst ys) ∧ ∀ l its n, H l = none → Q (.ref l) (upd H l (.frz ⟨.type "tuple", none, .seq its n, #[]⟩ (.tup ys)))
theorem c_tupleD {X : Cx} : CallR X (.type "tuple") rTupD := by
  intro pins s σ H xs us Q I r h
  obtain ⟨p, ys, rfl, hq, q⟩ := h
  obtain ⟨u, rfl, rx⟩ := vals1 r
  cases rx
  obtain ⟨its, r', pl, hz⟩ := I.list (Evl.sq_of hq)
  have hlen := r'.length
  refine call_tuple_list pl.isList (fun h' kp => ?_) (by simp only [List.size_toArray] <;> omega)
  have I1 : Inv X pins σ H { s with heap := h' } := I.kept (t' := s.toks) kp
  have I2 := I1.laid (a := h'.objs.size) (o := .frz ⟨.type "tuple", none, .seq its.toArray 0, #[]⟩ (.tup ys)) (t' := s.toks) (h' := h'.push { cls := .type "tuple", data := .seq its.toArray }) (fun b o e => Heap.get?_push_of_some _ e) (Nat.le_refl _)
    ⟨Heap.get?_push_size _ rfl, hz, its, r', IsTup.new _ _⟩
  exact ⟨.ref h'.objs.size, _, I2, rfl, q _ _ _ (I1.hok.fresh (Nat.le_refl _))⟩
def gTupleD : GL := fun xs A => match xs with
  | [.ref i] => match A[i]? with
    | some (.lst ys) => some (.tud ys, A)
    | _ => none
  | _ => none
theorem r_tupleD {K : PySem.W.Frag} : RLA K rTupD gTupleD := by
  intro ρ H A xs vs z A' Q w r e q
  unfold gTupleD at e
  split at e
  · split at e
    · rename_i hA
      cases e
      obtain ⟨v, rfl, r1⟩ := r.l1
      obtain ⟨a, us, rfl, _, h1, r2⟩ := w.lst r1 hA
      exact ⟨a, us, rfl, h1, fun l its n hl => finD w r2 q hl its n⟩
    · cases e
  · cases e
end AX

set_option Elab.async false
set_option linter.all false
set_option maxRecDepth 100000
set_option maxHeartbeats 4000000
/-! AX12: sorted(d.items()), keys texts that rise as they stand, values ints. -/
namespace AX
open PySem PySem.Spec PyProof.Rows L2 L2.DX PySem.W
/-! ### the view -/
def rItemsK : V → List V → Hp → VK → Prop := fun x xs H Q => ∃ (a : Addr) (kvs : List (Key × V)), x = .ref a ∧ xs = [] ∧ H a = some (.dK kvs) ∧ ∀ p, H p = none → Q (.ref p) (upd H p (itemsO p a))
theorem mt_itemsK {X : Cx} : MtR X "dict.items" rItemsK := by
  rintro pins s σ H x xs v us Q I rx rxs ⟨a, kvs, rfl, rfl, ha, q⟩
  cases rx
  cases rxs
  obtain ⟨_, hd, _, _, o, es, ep, ho, hx, hdat, _⟩ := dk_of I.hok ha
  exact DT.callItems (es := es) (ep := ep) hd ⟨o, ho, hx, hdat⟩ ⟨.ref s.heap.objs.size, _, I.laid (t' := s.toks) (fun b u e => Heap.get?_push_of_some _ e) (Nat.le_refl _) (itemsO_ok (Heap.get?_push_size _ rfl)), rfl, q _ (I.hok.fresh (Nat.le_refl _))⟩
/-! ### the sort -/
abbrev Ent := Str × Int
def entK (e : Ent) : Key × V := (Sum.inr e.1, V.int e.2)
def encE (e : Ent) : PyData := .tuple [.str e.1, .int e.2]
def Rises (l : List Ent) : Prop := l.Pairwise fun e f => e.1.cps.toList < f.1.cps.toList
def rSortI : List V → Hp → VK → Prop := fun vs H Q => ∃ (p a : Addr) (l : List Ent), vs = [.ref p] ∧ H p = some (itemsO p a) ∧ H a = some (.dK (l.map entK)) ∧ Rises l ∧ l.length ≤ 1000 ∧
  ∀ (H' : Hp) (d : Addr) (ps : List Addr), Evl.Ex H H' → H d = none → H' d = some (.lst (ps.map V.ref)) → Paired (fun p e => H' p = some (.tup [.str e.1, .int e.2])) ps l → Q (.ref d) H'
theorem rises_sort {l : List Ent} (h : Rises l) : l.mergeSort (dataLe false encE) = l := by
  refine List.mergeSort_of_pairwise (h.imp fun {e f} hef => ?_)
  have e1 : dataLe false encE e f = !dataLt (encE f) (encE e) := by rw [dataLe_eq]; rfl
  rw [e1]
  unfold encE
  rw [dataLt_pair (by rfl) (by rfl)]
  have hne : PyData.eqv (.str f.1) (.str e.1) = false := by
    unfold PyData.eqv
    refine beq_eq_false_iff_ne.mpr fun q => ?_
    rw [q] at hef
    exact absurd hef (List.lt_irrefl _)
  rw [hne, if_neg Bool.false_ne_true, dataLt_str]
  have : ¬ f.1.cps.toList < e.1.cps.toList := fun q => absurd (List.lt_trans hef q) (List.lt_irrefl _)
  rw [decide_eq_false this] <;> rfl
/-- a pair's object -/
def PairO (h : Heap) (c : Addr) (e : Ent) : Prop := ∃ t u, h.get? c = some { cls := .type "tuple", data := .seq #[.str e.1 t, .int e.2 u] }
theorem pairs_ent {P : Program} {w : World} : ∀ {es : List DictEntry} {vs : List (Key × Value)} {l : List Ent}, Pairs (mixKind P w) es vs → KV (l.map entK) vs → ∀ (j : Nat) (en : DictEntry), es[j]? = some en → ∃ (e : Ent) (t u : Tok), l[j]? = some e ∧ en.key = .str e.1 t ∧ en.val = .int e.2 u
  | _, _, [], .nil, _, j, en, h => by simp at h
  | _, _, e :: l, .nil, r, j, en, h => by simp at h
  | _, _, [], .cons _ _ _, r, j, en, h => by cases r
  | e0 :: es, kv :: vs, e :: l, .cons h1 h2 h3, r, j, en, h => by
    cases r with
    | cons r1 r2 =>
      cases j with
      | zero =>
        cases h
        obtain ⟨k1, k2⟩ := r1
        obtain ⟨u, hu⟩ := (show RelV (V.int e.2) kv.2 from k2)
        have hk : keyIs (Sum.inr e.1) e0.key = true := by
          have : (mixKind P w).is kv.1 e0.key = true := h1
          rw [← (show (Sum.inr e.1 : Key) = kv.1 from k1)] at this
          exact this
        rcases keyIs_shape hk with ⟨i, t, q, _⟩ | ⟨x, t, q, hx⟩
        · cases q
        · cases q
          exact ⟨e, t, u, rfl, hx, h2.trans hu⟩
      | succ j => exact pairs_ent h3 r2 j en (by simpa using h)
theorem eachIs_of {α β : Type} {R : α → β → Prop} : ∀ {as : List α} {bs : List β}, as.length = bs.length → (∀ (j : Nat) (a : α) (b : β), as[j]? = some a → bs[j]? = some b → R a b) → EachIs R as bs
  | [], [], _, _ => .nil
  | [], _ :: _, h, _ => by simp at h
  | _ :: _, [], h, _ => by simp at h
  | a :: as, b :: bs, h, k => .cons (k 0 a b rfl rfl) (eachIs_of (by simpa using h) fun j x y e1 e2 => k (j + 1) x y (by simpa using e1) (by simpa using e2))
theorem cr_sortI {X : Cx} (hc : X.calm = true) (hu : X.A.units + 64 < cLine) : CallR X (.builtin "sorted") rSortI := by
  rintro pins s σ H xs us Q I r ⟨p, a, l, rfl, hp, ha, hr, hl1000, q⟩
  obtain rfl := Vals.ref1 r
  have view : s.heap.IsItemsView p a := (show ObjOk X.prog X.w H s.heap p (itemsO p a) from I.hok p _ hp).1
  obtain ⟨hz, hd, vs, rel, o, es, ep, ho, hx, hdat, hks, hps, hnd⟩ := dk_of I.hok ha
  have line : (1000 : Nat) < sizeLine := by decide
  have l1 : l.length = vs.length := by have := Paired.length rel; rwa [List.length_map] at this
  have l2 : es.toList.length = vs.length := by
    have go : ∀ {es : List DictEntry} {vs : List (Key × Value)}, Pairs (mixKind X.prog X.w) es vs → es.length = vs.length := fun h => by
      induction h with
      | nil => rfl
      | cons _ _ _ ih => simp [ih]
    exact go hps
  have l3 : es.size = l.length := by rw [← Array.length_toList]; omega
  refine DT.sortedI (es := es) (ep := ep) (I.ok.hd hc) view ⟨o, ho, hx, hdat⟩ (by omega) fun h' tk as hk hlt hl hG => ?_
  have nd : as.Nodup := List.Pairwise.imp (fun h => Nat.ne_of_lt h) hG.rise
  have pr : ∀ (j : Nat) (b : Addr), as[j]? = some b → ∃ e, l[j]? = some e ∧ PairO h' b e := fun j b hj => by
    obtain ⟨en, he, hg⟩ := hG.pairs j b hj
    obtain ⟨e, t, u, h1, h2, h3⟩ := pairs_ent hps rel j en (by rw [Array.getElem?_toList]; exact he)
    exact ⟨e, h1, t, u, by rw [hg, h2, h3]⟩
  generalize hh2 : h'.push { cls := .type "list", data := .seq (as.map Value.ref).toArray } = h2
  have hob : h2.get? h'.objs.size = some (seqObj "list" (as.map Value.ref).toArray 0) := by rw [← hh2]; exact Heap.get?_push_size _ rfl
  have ka : ∀ b o, h'.get? b = some o → h2.get? b = some o := fun b o e => by rw [← hh2]; exact Heap.get?_push_of_some _ e
  have ne0 : ∀ b o, h'.get? b = some o → b ≠ h'.objs.size := fun b o e => Nat.ne_of_lt (Heap.lt_size e)
  have ll : (as.map Value.ref).length = l.length := by rw [List.length_map]; omega
  have at_ : ∀ (j : Nat) (v : Value) (e : Ent), (as.map Value.ref)[j]? = some v → l[j]? = some e → ∃ b, v = .ref b ∧ as[j]? = some b ∧ PairO h' b e := fun j v e h1 h2 => by
    rw [List.getElem?_map] at h1
    cases hb : as[j]? with
    | none => rw [hb] at h1; cases h1
    | some b =>
      rw [hb] at h1
      cases h1
      obtain ⟨e', h3, h4⟩ := pr j b hb
      rw [h2] at h3
      cases h3
      exact ⟨b, rfl, rfl, h4⟩
  refine list_sort_data (s := { s with heap := h2, toks := tk }) (A := X.A.in1) (R := fun v e => ∃ b, v = .ref b ∧ b ∈ as ∧ PairO h' b e) (enc := encE) (bs := l) hob (eachIs_of ll fun j v e h1 h3 => ?_) (eachIs_of ll fun j v e h1 h3 => ?_) (AllAlike.of fun _ _ => by rfl) (Sortable.tuples fun b => ⟨_, _, rfl⟩) (by omega) (fun b _ => ?_) fun out ho1 ho2 => ?_
  · obtain ⟨b, e1, e2, e3⟩ := at_ j v e h1 h3
    exact ⟨b, e1, List.mem_of_getElem? e2, e3⟩
  · obtain ⟨b, rfl, e2, t, u, e3⟩ := at_ j v e h1 h3
    exact ⟨_, .tuple (ka _ _ e3) rfl rfl (.cons (.str _ _) (.cons (.int _ _) .nil)), by simp⟩
  · show X.A.units + 1 + 1 + 1 < cLine
    omega
  · rw [rises_sort hr] at ho2
    show EP X pins σ Q (.ref h'.objs.size) { s with heap := sortedHeap h2 h'.objs.size (as.map Value.ref) out.toArray, toks := tk }
    have kF : ∀ b o, b ≠ h'.objs.size → h2.get? b = some o → (sortedHeap h2 h'.objs.size (as.map Value.ref) out.toArray).get? b = some o := fun b o hb e => (sortedHeap_old hb (Heap.lt_size e)).trans e
    have kS : ∀ b o, s.heap.get? b = some o → (sortedHeap h2 h'.objs.size (as.map Value.ref) out.toArray).get? b = some o := fun b o e => kF b o (ne0 _ _ (hk b o e)) (ka b o (hk b o e))
    obtain ⟨eF, heF⟩ := sortedHeap_at (vs := as.map Value.ref) (out := out.toArray) hob
    -- the addresses in the sorted order
    obtain ⟨ps, hout, hps'⟩ : ∃ ps : List Addr, out = ps.map Value.ref ∧ EachIs (fun b e => b ∈ as ∧ PairO h' b e) ps l := by
      have go : ∀ {out : List Value} {l : List Ent}, EachIs (fun v e => ∃ b, v = .ref b ∧ b ∈ as ∧ PairO h' b e) out l → ∃ ps : List Addr, out = ps.map Value.ref ∧ EachIs (fun b e => b ∈ as ∧ PairO h' b e) ps l := fun h => by
        induction h with
        | nil => exact ⟨[], rfl, .nil⟩
        | cons h _ ih =>
          obtain ⟨b, rfl, h1, h2⟩ := h
          obtain ⟨ps, e1, e2⟩ := ih
          exact ⟨b :: ps, by rw [e1] <;> rfl, .cons ⟨h1, h2⟩ e2⟩
      exact go ho2
    have hpl := hps'.length
    have I1 : Inv X pins σ H { s with heap := sortedHeap h2 h'.objs.size (as.map Value.ref) out.toArray, toks := tk } := I.kept (t' := tk) kS
    have hn0 : H h'.objs.size = none := I.hok.fresh (Nat.le_of_lt hlt)
    have rv : Vals (ps.map V.ref) out := by
      rw [hout]
      clear hout hps' hpl
      induction ps with
      | nil => exact .nil
      | cons b ps ih => exact .cons rfl ih
    have I2 := I1.take (h' := sortedHeap h2 h'.objs.size (as.map Value.ref) out.toArray) (t' := tk) (o := .lst (ps.map V.ref)) (fun b ob _ e => e) (I.fpOk (Nat.le_of_lt hlt) hn0) ⟨by rw [List.length_map, hpl]; omega, out, eF, rv, heF⟩
    obtain ⟨H2, I3, g, qt⟩ := takeT (P := fun b vs => ∃ e, PairO h' b e ∧ vs = [.str e.1, .int e.2]) I as _ I2 nd fun b hb => by
      obtain ⟨j, hj⟩ := List.mem_iff_getElem?.mp hb
      obtain ⟨e, _, t, u, hg⟩ := pr j b hj
      have hbl : s.heap.objs.size ≤ b := Nat.le_of_lt (hG.above b hb)
      refine ⟨hbl, ?_, [.str e.1, .int e.2], ⟨e, ⟨t, u, hg⟩, rfl⟩, fun H3 => ⟨(by show 2 ≤ sizeLine; omega), [Value.str e.1 t, Value.int e.2 u], .cons ⟨t, rfl⟩ (.cons ⟨u, rfl⟩ .nil), ⟨_, kF _ _ (ne0 _ _ hg) (ka _ _ hg), rfl, 0, rfl⟩⟩⟩
      rw [upd_ne (ne0 _ _ hg)]
      exact I.hok.fresh hbl
    refine ⟨.ref h'.objs.size, H2, I3, rfl, q H2 h'.objs.size ps (fun b o e => g b o (by rw [upd_ne (ne_of_none e hn0)]; exact e)) hn0 (g _ _ upd_same) ?_⟩
    have fin : ∀ {ps : List Addr} {l : List Ent}, EachIs (fun b e => b ∈ as ∧ PairO h' b e) ps l → Paired (fun p e => H2 p = some (.tup [.str e.1, .int e.2])) ps l := fun h => by
      induction h with
      | nil => exact .nil
      | cons h _ ih =>
        obtain ⟨hb, t, u, h1⟩ := h
        obtain ⟨vs, ⟨e', ⟨t', u', h2⟩, ev⟩, hH⟩ := qt _ hb
        rw [h1] at h2
        have h3 := Option.some.inj h2
        injection h3 with _ _ h4 _
        injection h4 with h5 _
        have h6 := congrArg Array.toList h5
        simp at h6
        refine .cons ?_ ih
        rw [hH, ev, h6.1.1, h6.2.1]
    exact fin hps'
end AX

set_option Elab.async false
set_option linter.all false
set_option maxRecDepth 100000
set_option maxHeartbeats 4000000
/-! AX13: sorted(d.items()) as a run. -/
namespace AX
open PySem PySem.Spec PyProof.Rows L2 L2.DX
section
variable {K : PySem.W.Frag} {ρ : List Addr} {H H' : Hp} {A : AH}
theorem tx_ex (e : Evl.Ex H H') : Tx H H' := ⟨fun _ _ h => Evl.ex_rd e h, fun a o xs h => e a _ h, fun a _ _ h => e a _ h⟩
theorem Wd.ex (w : Wd K ρ H A) (e : Evl.Ex H H') : Wd K ρ H' A ∧ Grow ρ H ρ H' := by
  refine ⟨⟨w.len, w.nd, fun i a o ha ho => ?_⟩, ⟨⟨[], by simp, by simp⟩, fun a o h _ => e a o h, fun a h => Evl.fresh_back e h, tx_ex e⟩⟩
  have q := w.at_ i a o ha ho
  obtain ⟨u, hu, _⟩ := q.own
  have := q.mono (tx_ex e) [] ((e a u hu).trans hu.symm)
  rwa [List.append_nil] at this
end
/-- the entries of a dict: texts, ints -/
def entsOf : List Key → List AV → Option (List Ent)
  | [], [] => some []
  | .inr k :: ks, .int i :: xs => match entsOf ks xs with
    | some l => some ((k, i) :: l)
    | none => none
  | _, _ => none
def natsLt : List Nat → List Nat → Bool
  | [], _ :: _ => true
  | a :: r, b :: s => match Nat.blt a b with
    | true => true
    | false => match Nat.beq a b with
      | true => natsLt r s
      | false => false
  | _, [] => false
theorem natsLt_ok : ∀ {a b : List Nat}, natsLt a b = true → a < b
  | [], b :: s, _ => List.nil_lt_cons b s
  | a :: r, b :: s, h => by
    unfold natsLt at h
    cases h1 : Nat.blt a b with
    | true => exact List.cons_lt_cons_iff.mpr (.inl (Nat.blt_eq.mp h1))
    | false =>
      rw [h1] at h
      dsimp only at h
      cases h2 : Nat.beq a b with
      | true =>
        rw [h2] at h
        exact List.cons_lt_cons_iff.mpr (.inr ⟨Nat.eq_of_beq_eq_true h2, natsLt_ok h⟩)
      | false => rw [h2] at h; cases h
  | [], [], h => by cases h
  | _ :: _, [], h => by cases h
def risesB : List Ent → Bool
  | [] => true
  | e :: r => (r.all fun f => natsLt e.1.cps.toList f.1.cps.toList) && risesB r
theorem risesB_ok : ∀ {l : List Ent}, risesB l = true → Rises l
  | [], _ => .nil
  | e :: r, h => by
    unfold risesB at h
    rw [Bool.and_eq_true, List.all_eq_true] at h
    exact .cons (fun f hf => natsLt_ok (h.1 f hf)) (risesB_ok h.2)
theorem entsOf_ok {K : PySem.W.Frag} {ρ : List Addr} {H : Hp} : ∀ {kvs : List (Key × V)} {ks : List Key} {xs : List AV} {l : List Ent}, kvs.map (·.1) = ks → VRs K ρ H xs (kvs.map (·.2)) → entsOf ks xs = some l → kvs = l.map entK
  | [], _, _, _, e, r, h => by
    cases e
    cases r
    cases h
    rfl
  | (k, v) :: kvs, _, _, l, e, r, h => by
    cases e
    cases r with
    | @cons x _ xs _ r1 r2 =>
      have h' : entsOf (k :: kvs.map (·.1)) (x :: xs) = some l := h
      cases k with
      | inl i => cases x <;> cases h'
      | inr k =>
        cases x with
        | int i =>
          unfold entsOf at h'
          cases hl : entsOf (kvs.map (·.1)) xs with
          | none => rw [hl] at h'; cases h'
          | some l' =>
            rw [hl] at h'
            cases h'
            have ev : v = V.int i := r1.int_eq
            rw [entsOf_ok rfl r2 hl, ev] <;> rfl
        | _ => cases h'
def gSortI : G1 := fun x A => match x with
  | .ref i => match A[i]? with
    | some (.dK ks xs) => match entsOf ks xs with
      | some l => match risesB l && Nat.ble l.length 1000 with
        | true => some (.ref A.length, A ++ [.lst (l.map fun e => .tup [.str e.1, .int e.2])])
        | false => none
      | none => none
    | _ => none
  | _ => none
theorem vrs_ents {K : PySem.W.Frag} {ρ : List Addr} {H : Hp} {ps : List Addr} {l : List Ent} (h : Paired (fun p (e : Ent) => H p = some (.tup [.str e.1, .int e.2])) ps l) : VRs K ρ H (l.map fun e => .tup [.str e.1, .int e.2]) (ps.map V.ref) := by
  induction h with
  | nil => exact .nil
  | cons h _ ih => exact .cons (.tup (Evl.st_of h) (.cons (.str _) (.cons (.int _) .nil))) ih
theorem a_sortI {X : Cx} {E : XK} {o : Expr} {fo : ASt → M AV} {p pos apos cpos : Pos} (hc : X.calm = true) (hu : X.A.units + 64 < cLine) (hg : Gl X "sorted") (hm : X.mg "sorted" = none) (ho : PE X o (S X.K E fo))
    (hbase : attributeBase o "items" X.env (eval o X.env) = eval o X.env := by rfl) (hline : (apos.endLine == cpos.line) = true := by rfl)
    (he : starEach [.Call (.Attribute o "items" apos) [] [] cpos] X.env = [(false, eval (.Call (.Attribute o "items" apos) [] [] cpos) X.env)] := by rfl) :
    PE X (.Call (.Name "sorted" p) [.Call (.Attribute o "items" apos) [] [] cpos] [] pos) (S X.K E (aUn gSortI fo)) :=
  wE (pe_callB (cr_sortI hc hu) hg hm (by decide +kernel) (pa_cons (pe_bm0 PySem.F.plainAttrs_dict PySem.F.slot_dict_items PySem.F.type_dict_items mt_itemsK ho hbase hline) pa_nil he) (by decide) (by decide) he) fun σ H Q ⟨ρ, aσ, A, w, s, y⟩ => SX.mk w s y.bind fun x A1 ρ1 H1 v y1 g1 w1 r1 => by
    obtain ⟨z, A', hz, q⟩ := y1.lift
    unfold gSortI at hz
    split at hz
    · split at hz
      · rename_i hA
        split at hz
        · rename_i l hl
          split at hz
          · rename_i hb
            cases hz
            rw [Bool.and_eq_true] at hb
            obtain ⟨a, kvs, rfl, ha, h1, h2, r2⟩ := w1.dK r1 hA
            have ek := entsOf_ok h2 r2 hl
            subst ek
            refine ⟨.inr (.inr (.inl ⟨rfl, .inl ⟨_, h1⟩⟩)), a, _, rfl, rfl, h1, fun pv hpv => ?_⟩
            have hna : a ≠ pv := ne_of_none h1 hpv
            refine ⟨pv, a, l, rfl, upd_same, by rw [upd_ne hna]; exact h1, risesB_ok hb.1, Nat.le_of_ble_eq_true hb.2, fun H' d ps ex hd hd' hps => ?_⟩
            obtain ⟨w2, g2⟩ := w1.out (u := itemsO pv a) hpv
            obtain ⟨w3, g3⟩ := w2.ex ex
            have hdn : d ∉ ρ1 := fun hm => by
              obtain ⟨u, h, _⟩ := w2.own hm
              rw [hd] at h; cases h
            have g := (g1.trans g2).trans g3
            have rl : VRs X.K ρ1 H' (l.map fun e => .tup [.str e.1, .int e.2]) (ps.map V.ref) := vrs_ents hps
            exact q (ρ1 ++ [d]) H' (.ref d) (g.take (g1.dom d (g2.dom d hd))) (w3.take hdn ⟨_, hd', rl.mono (Tx.refl _) [d]⟩) (.ref (by rw [← w1.len]; simp))
          · cases hz
        · cases hz
      · cases hz
    · cases hz
end AX

set_option Elab.async false
set_option linter.all false
set_option maxRecDepth 100000
set_option maxHeartbeats 4000000
/-! AX14: tuple(d.items()) of an empty dict. -/
namespace AX
open PySem PySem.Spec PyProof.Rows L2 L2.DX
section
variable {prog : Program} {w : World} {A : Around} {E : Value → Shared → Prop} {s : Shared} {r d : Addr} {ep : Nat}
theorem code_tup_view {Q₁ : Value → Shared → Prop} (hh : A.handled = none) (hv : s.heap.IsItemsView r d) (hm : DT.Raw s.heap d #[] ep)
    (h : ∀ (h' : Heap) (tk : Nat), (∀ b o, s.heap.get? b = some o → h'.get? b = some o) → Q₁ (.ref h'.objs.size) { s with heap := h'.push { cls := .type "tuple", data := .seq #[] }, toks := tk }) :
    codeAny (model prog w) A (.call (.builtin "tuple.__new__") ⟨[.type "tuple", .ref r], []⟩) (wants Q₁ E) s := by
  apply codeAny_of_tree
  show wpAny _ A.in1 (do checkBuiltinCall "tuple.__new__" ⟨[.type "tuple", .ref r], []⟩; again (.builtin "tuple.__new__" ⟨[.type "tuple", .ref r], []⟩)) _ _ s
  apply wpAny_bind
  refine wpAny_of_eq (F.newCall_tuple_1 _) (wpAny_pure ⟨plainId_quiet F.plain_tuple_new _, codeAny_builtin F.entry_tuple_new ?_⟩)
  rw [Around.under_plainId F.plain_tuple_new _]
  have q1 := sub_tuple_self
  have q2 := init_tuple_lookup
  have q3 := madeHere_tuple
  have q4 : s.TypeIs (.ref r) "dict_items" := hv.typeIs
  have q5 : A.in1.handled = none := hh
  wp_walk using wpAny_typeOf q4, DT.collectI (A := A.in1) (es := #[]) (ep := ep) q5 hv hm (by decide)
  intro h' tk as hk _ hl hG
  have e : as = [] := List.length_eq_zero_iff.mp (by rw [hl]; rfl)
  subst e
  show wpAny _ _ (Builtin.Tuple.tupleExact #[] >>= fun v => ret v) _ _ _
  unfold Builtin.Tuple.tupleExact
  exact wpAny_bind (wpAny_newObj_type (wpAny_pure (h h' tk hk)) (by show (0 : Nat) ≤ sizeLine; exact Nat.zero_le _))
theorem call_tup_view {Q : Value → Shared → Prop} (hh : A.handled = none) (hv : s.heap.IsItemsView r d) (hm : DT.Raw s.heap d #[] ep)
    (hQ : ∀ (h' : Heap) (tk : Nat), (∀ b o, s.heap.get? b = some o → h'.get? b = some o) → Q (.ref h'.objs.size) { s with heap := h'.push { cls := .type "tuple", data := .seq #[] }, toks := tk }) :
    wpAny (model prog w) A (call (.type "tuple") [.ref r]) Q E s :=
  callType_codes (Q₁ := fun obj s₁ => s₁.TypeIs obj "tuple" ∧ Q obj s₁) F.called_tuple (F.typeCall_tuple_1 _) F.entry_object_init
    (code_tup_view (A := A.in1) hh hv hm fun h' tk hk => ⟨⟨_, Heap.get?_push_size _ rfl, rfl⟩, hQ h' tk hk⟩)
    fun obj s₁ h₁ => ⟨h₁.1, F.args_object_init_2 obj _, object_init_meets F.called_tuple.init.lookup F.called_tuple.made (by decide) prog w A.in1 _ s₁ ⟨h₁.1, rfl, h₁.2⟩⟩
end
def rTupView : List V → Hp → VK → Prop := fun vs H Q => ∃ (p a : Addr), vs = [.ref p] ∧ H p = some (itemsO p a) ∧ H a = some (.dK []) ∧ ∀ q, H q = none → Q (.ref q) (upd H q (.tup []))
theorem cr_tupView {X : Cx} (hc : X.calm = true) : CallR X (.type "tuple") rTupView := by
  rintro pins s σ H xs us Q I r ⟨p, a, rfl, hp, ha, q⟩
  obtain rfl := Vals.ref1 r
  have view : s.heap.IsItemsView p a := (show ObjOk X.prog X.w H s.heap p (itemsO p a) from I.hok p _ hp).1
  obtain ⟨_, _, vs, rel, o, es, ep, ho, hx, hdat, _, hps, _⟩ := dk_of I.hok ha
  cases rel
  have e0 : es = #[] := by
    cases es with
    | mk l => cases l with
      | nil => rfl
      | cons _ _ => cases hps
  subst e0
  refine call_tup_view (ep := ep) (I.ok.hd hc) view ⟨o, ho, hx, hdat⟩ fun h' tk hk => ?_
  have I1 : Inv X pins σ H { s with heap := h', toks := tk } := I.kept (t' := tk) hk
  have I2 := I1.laid (a := h'.objs.size) (o := .tup []) (t' := tk) (h' := h'.push { cls := .type "tuple", data := .seq #[] }) (fun b o e => Heap.get?_push_of_some _ e) (Nat.le_refl _) ⟨Nat.zero_le _, [], .nil, IsTup.new _ _⟩
  exact ⟨.ref h'.objs.size, _, I2, rfl, q _ (I1.hok.fresh (Nat.le_refl _))⟩
def gTupView : G1 := fun x A => match x with
  | .ref i => match A[i]? with
    | some (.dK [] _) => some (.tup [], A)
    | _ => none
  | _ => none
theorem a_tupView {X : Cx} {E : XK} {o : Expr} {fo : ASt → M AV} {p pos apos cpos : Pos} (hc : X.calm = true) (hg : Gl X "tuple") (hm : X.mg "tuple" = none) (ho : PE X o (S X.K E fo))
    (hbase : attributeBase o "items" X.env (eval o X.env) = eval o X.env := by rfl) (hline : (apos.endLine == cpos.line) = true := by rfl)
    (he : starEach [.Call (.Attribute o "items" apos) [] [] cpos] X.env = [(false, eval (.Call (.Attribute o "items" apos) [] [] cpos) X.env)] := by rfl) :
    PE X (.Call (.Name "tuple" p) [.Call (.Attribute o "items" apos) [] [] cpos] [] pos) (S X.K E (aUn gTupView fo)) :=
  wE (pe_callTy (cr_tupView hc) hg hm (by decide +kernel) (pa_cons (pe_bm0 PySem.F.plainAttrs_dict PySem.F.slot_dict_items PySem.F.type_dict_items mt_itemsK ho hbase hline) pa_nil he) (by decide) (by decide) he) fun σ H Q ⟨ρ, aσ, A, w, s, y⟩ => SX.mk w s y.bind fun x A1 ρ1 H1 v y1 g1 w1 r1 => by
    obtain ⟨z, A', hz, q⟩ := y1.lift
    unfold gTupView at hz
    split at hz
    · split at hz
      · rename_i hA
        cases hz
        obtain ⟨a, kvs, rfl, ha, h1, h2, r2⟩ := w1.dK r1 hA
        have ek : kvs = [] := List.map_eq_nil_iff.mp h2
        subst ek
        refine ⟨.inr (.inr (.inl ⟨rfl, .inl ⟨_, h1⟩⟩)), a, _, rfl, rfl, h1, fun pv hpv => ?_⟩
        have hna : a ≠ pv := ne_of_none h1 hpv
        obtain ⟨w2, g2⟩ := w1.out (u := itemsO pv a) hpv
        exact ⟨pv, a, rfl, upd_same, by rw [upd_ne hna]; exact h1, fun l hl => finT w2 .nil ((q.tr g1).tr g2) hl⟩
      · cases hz
    · cases hz
end AX

set_option Elab.async false
set_option linter.all false
set_option maxRecDepth 100000
set_option maxHeartbeats 4000000
/-! AX15: < of alike data. -/
namespace AX
open PySem PySem.Spec PyProof.Rows L2 PySem.W
def rLtD (K : PySem.W.Frag) : R2 := fun x y H Q => ∃ d e, Dp K H x d ∧ Dp K H y e ∧ alike d e = true ∧ d ≠ .none ∧ SeqAt.shaped d = true ∧ SeqAt.shaped e = true ∧ Q (.bl (dataLt d e)) H
theorem op_ltD {X : Cx} (hu : X.A.units + 64 < cLine) : OpR X (compareOp .Lt) (rLtD X.K) := by
  rintro pins s σ H x y v u Q I rx ry ⟨d, e, hd, he, ha, hn, sd, se, q⟩
  obtain ⟨as, r1⟩ := Dp.reads I d x v hd rx
  obtain ⟨bs, r2⟩ := Dp.reads I e y u he ry
  exact rcLt_alike d e X.A s v u as bs r1 r2 ha hn (SeqAt.room_of_shaped sd hu) _ _ _ _ ⟨.bl _, H, I, rfl, q⟩
def notNone : PyData → Bool
  | .none => false
  | _ => true
def gLtX : G2 := fun x y A => match x, y with
  | .int i, .int j => some (.bl (decide (i < j)), A)
  | x, y => match x.d, y.d with
    | some d, some e => match (alike d e && notNone d) && (SeqAt.shaped d && SeqAt.shaped e) with
      | true => some (.bl (dataLt d e), A)
      | false => none
    | _, _ => none
def rLtX (K : PySem.W.Frag) : R2 := fun x y H Q => rI0 (fun i j => .bl (decide (i < j))) x y H Q ∨ rLtD K x y H Q
theorem o_lt {X : Cx} (hu : X.A.units + 64 < cLine) : OpR X (compareOp .Lt) (rLtX X.K) := op_lt.or (op_ltD hu)
theorem r_lt {K : PySem.W.Frag} : R2A K (rLtX K) gLtX := by
  intro ρ H A x y v u z A' Q w rx ry e q
  unfold gLtX at e
  split at e
  · cases e
    exact .inl ⟨_, _, rx.int_eq, ry.int_eq, fin0 w (.bl _) q⟩
  · split at e
    · rename_i d1 d2 h1 h2
      split at e
      · rename_i hb
        cases e
        simp only [Bool.and_eq_true] at hb
        exact .inr ⟨_, _, rx.dp h1, ry.dp h2, hb.1.1, (fun e0 => by rw [e0] at hb; exact Bool.noConfusion hb.1.2), hb.2.1, hb.2.2, fin0 w (.bl _) q⟩
      · cases e
    · cases e
end AX

set_option Elab.async false
set_option linter.all false
set_option maxRecDepth 100000
set_option maxHeartbeats 4000000
/-! a def of an own exception that begins with super().__init__(..) -/
namespace AX
open PySem PySem.Spec PyProof.Rows PySem.W PySem.Calls L2

structure SupScope (N : List Str) (sc : Scope) : Prop where
  kind : sc.kind = .function
  co : sc.isCoroutine = false
  gen : sc.isGenerator = false
  nd : N.Nodup
  par : ∀ x ∈ N, sc.names.lookup x = some .local
  nocell : ∀ x ∈ sc.names, x.2 ≠ .cell
  free : ∀ y, sc.names.lookup y = some .free → y = "__class__"
  sup : sc.names.lookup ("super" : Str) = some .globalImplicit
  cls : sc.names.lookup ("__class__" : Str) = some .free

structure SupD (P : Program) (K : PySem.W.Frag) (C : Addr) (qual : Str) (params : Arguments) (body : List Stmt) (scope : Scope) (f : Addr) (fd : FuncData) (cda cc : Addr) : Prop where
  ex : ∃ (oc : Value) (od : Option Addr) (dV kV doc pm : Value) (an : Option Addr) (ct : Value) (osl : Array (Option Value)),
    fd = ksFn "__init__" qual params body scope dV kV doc pm an (.ref cda) ct cc ∧ K.lookup f = some ⟨oc, od, .func fd, osl⟩
  cd : codeIn K (.ref cda) qual = true
  code : ∃ ccl cdd vs ccs file tf, K.lookup cda = some ⟨ccl, cdd, .fields vs, ccs⟩ ∧ vs[2]? = some (.str file tf) ∧ ((P.main.file : Str) == file) = true
  cell : ∃ cl cld csl, K.lookup cc = some ⟨cl, cld, .cell (some (.ref C)), csl⟩

/-- the context of such a def's body -/
def cxK (CX : CXT) (P : Program) (w : World) (K : PySem.W.Frag) (mg : Str → Option Value) (base : Heap) (N : List Str) (qual : Str) (scope : Scope) (f cda cc : Addr) (A : Around) (outer : List Env) (s : Shared) (H : Hp) (E : XK) : Cx where
  prog := P
  w := w
  K := K
  mg := mg
  base := base
  A := A.deeper (ksEnv qual scope s.heap.objs.size f (.ref cda) cc)
  N := N
  s_0 := s
  H_0 := H
  env := ksEnv qual scope s.heap.objs.size f (.ref cda) cc
  outer := outer
  stack := ksEnv qual scope s.heap.objs.size f (.ref cda) cc :: outer
  ex := []
  calm := true
  fn := fun x => x != "__class__"
  pn := []
  xe := fun e s' => wpAny (model P w) (A.deeper (ksEnv qual scope s.heap.objs.size f (.ref cda) cc)) (leaving (ksEnv qual scope s.heap.objs.size f (.ref cda) cc) e) (fun _ s'' => CX outer H s E e s'') (fun e' s'' => CX outer H s E e' s'') s'

theorem lookup_uniq {x : Str} {u : Value} : ∀ {l : List (Str × Value)}, (x, u) ∈ l → (∀ v, (x, v) ∈ l → v = u) → l.lookup x = some u
  | [], h, _ => by cases h
  | (y, v) :: l, h, q => by
    rw [List.lookup_cons]
    by_cases e : x = y
    · subst e
      rw [beq_self_eq_true]
      exact congrArg some (q v List.mem_cons_self)
    · rw [beq_false_of_ne e]
      rcases List.mem_cons.mp h with z | z
      · cases z
        exact absurd rfl e
      · exact lookup_uniq z fun v hv => q v (List.mem_cons_of_mem _ hv)
theorem zip_rev {ps : List Str} {us : List Value} {i : Nat} {x : Str} {u : Value} (nd : ps.Nodup) (hp : ps[i]? = some x) (hu : us[i]? = some u) : (ps.zip us).reverse.lookup x = some u := by
  have hz : (ps.zip us)[i]? = some (x, u) := by rw [List.getElem?_zip_eq_some]; exact ⟨hp, hu⟩
  refine lookup_uniq (List.mem_reverse.mpr (List.mem_of_getElem? hz)) fun v hv => ?_
  obtain ⟨j, hj⟩ := List.getElem?_of_mem (List.mem_reverse.mp hv)
  rw [List.getElem?_zip_eq_some] at hj
  have hij : j = i := by
    have h1 := hj.1
    have hi : i < ps.length := (List.getElem?_eq_some_iff.mp hp).1
    exact ((List.getElem?_inj hi nd).mp (hp.trans h1.symm)).symm
  subst hij
  have := hj.2.symm.trans hu
  exact Option.some.inj this

section
variable {CX : CXT} {P : Program} {w : World} {K : PySem.W.Frag} {mg : Str → Option Value} {base : Heap} {N : List Str} {qual : Str} {scope : Scope} {f cda cc C : Addr} {A : Around} {outer : List Env} {s : Shared} {H : Hp} {E : XK} {us : List Value} {vs : List V}
theorem inv_startK {h1 : Heap} {t1 : Nat} (S : SupScope N scope) (hd : A.handled = none) (e0 : Env0 P w K mg base A outer s H) (hl : vs.length = N.length) (r : Vals vs us) (hcc : ∃ cl cld csl, K.lookup cc = some ⟨cl, cld, .cell (some (.ref C)), csl⟩)
    (hns : h1.Ns s.heap.objs.size (fun x => (N.zip us).reverse.lookup x)) (hk : ∀ b o, s.heap.get? b = some o → h1.get? b = some o) :
    Inv (cxK CX P w K mg base N qual scope f cda cc A outer s H E) [] (L2.start N vs) H { s with heap := h1, toks := t1 } := by
  have noA : ∀ b : Addr, b ∉ (cxK CX P w K mg base N qual scope f cda cc A outer s H E).ex := fun b z => absurd (show b ∈ ([] : List Addr) from z) (by simp)
  obtain ⟨cl, cld, csl, hcell⟩ := hcc
  have hbase := e0.mod.kin _ _ hcell
  have hs := (e0.bs _ _ hbase).1
  have hH := (e0.bs _ _ hbase).2
  have hc1 : ∀ y c, (cxK CX P w K mg base N qual scope f cda cc A outer s H E).env.cells.lookup y = some c → y = "__class__" ∧ c = cc := fun y c h => by
    have h' : ([("__class__", cc)] : List (Str × Addr)).lookup y = some c := h
    rw [List.lookup_cons] at h'
    by_cases e : y = "__class__"
    · subst e
      rw [beq_self_eq_true] at h'
      exact ⟨rfl, (Option.some.inj h').symm⟩
    · rw [beq_false_of_ne e] at h'
      cases h'
  refine ⟨⟨e0.mod, S.kind, rfl, rfl, Nat.le_refl _, fun y z c h1 h2 => ?_, fun y hy => ?_, fun y c hf h => ?_, fun _ => hd, Around.frames_deeper e0.frames, .inr ⟨rfl, rfl⟩, fun b z => absurd z (noA b), e0.bs, e0.bsz, fun b _ _ => noA b, fun b z => absurd z (noA b), e0.funs, e0.frf⟩,
    rfl, e0.bare, Un.kept hk, ⟨_, hns, fun i y v h1 h2 h3 => ?_⟩, fun y c h => ?_, e0.hok.fresh (Nat.le_refl _), fun y c h => ?_, fun p hp => absurd (show p ∈ ([] : List (Addr × Obj)) from hp) (by simp), e0.hok.kept hk, ?_⟩
  · rw [(hc1 _ _ h1).1, (hc1 _ _ h2).1]
  · have hy : scope.names.lookup y = some .cell ∨ scope.names.lookup y = some .free := hy
    rcases hy with hy | hy
    · exact absurd rfl (S.nocell _ (PySem.mem_of_lookup hy))
    · rw [S.free _ hy]
      exact ⟨cc, rfl⟩
  · rw [(hc1 _ _ h).1] at hf
    exact absurd (show ("__class__" != ("__class__" : Str)) = true from hf) (by decide)
  · have hi : i < vs.length := by
      unfold L2.start at h2
      by_cases hi : i < vs.length
      · exact hi
      · rw [List.getElem?_append_right (by simpa using hi)] at h2
        rw [List.getElem?_replicate] at h2
        split at h2 <;> cases h2
    have ha : vs[i]? = some v := by
      unfold L2.start at h2
      rw [List.getElem?_append_left (by simpa using hi), List.getElem?_map] at h2
      cases e : vs[i]? with
      | none => rw [e] at h2; cases h2
      | some a => rw [e] at h2; cases h2; rfl
    obtain ⟨u, hu, rv⟩ := r.get ha
    exact ⟨u, rv, .inl ⟨S.par y (List.mem_of_getElem? h1), zip_rev S.nd h1 hu⟩⟩
  · obtain ⟨_, rfl⟩ := hc1 _ _ h
    exact ⟨some (.ref C), _, hk _ _ hs, rfl⟩
  · obtain ⟨_, rfl⟩ := hc1 _ _ h
    exact hH
  · unfold L2.start
    show _ = N.length
    rw [List.length_append, List.length_map, List.length_replicate]
    omega
end
section
variable {CX : CXT} {P : Program} {w : World} {K : PySem.W.Frag} {mg : Str → Option Value} {base : Heap} {N : List Str} {qual : Str} {scope : Scope} {f cda cc C : Addr} {params : Arguments} {k : Nat} {fd : FuncData} {sp : Sp} {ar : Arg}
  {e : Expr} {es : List Expr} {rest : List Stmt} {p0 p1 p2 pos p3 : Pos} {pl : Addr → Sem Bool}
theorem call_mw {A : Around} {E : Value → Shared → Prop} {h : Heap} {g : Array GenState} {d : Drawn} {t : Nat} {os : OsState} {u x t0 : Addr} {us : List Value} {Q : Value → Shared → Prop} (T : OexC K C) (X : K.In h) (hu : h.get? u = some (kxs_mw "ValueError.__init__" x)) (he : h.get? x = some (HandSPX.excO C t0)) (hz : us.length ≤ sizeLine)
    (hq : ∀ h' t1, (∀ b o, b ≠ x → h.get? b = some o → h'.get? b = some o) → h'.get? x = some (HandSPX.excO C t1) → Q .none ⟨h', g, d, t, os⟩) :
    wpAny (model P w) A (call (.ref u) us) Q E ⟨h, g, d, t, os⟩ := by
  obtain ⟨nm, q, N0, bs, bm, sn, sub, ab, col, dd, k0, k1, k2, k3, k5, hC, hbm⟩ := T.cls
  refine wpAny_call (codeAny_of_tree ?_)
  show wpAny _ A.in1 (callAny (.ref u) ⟨us, []⟩) _ _ _
  simp only [callAny]
  refine wpAny_bind (wpAny_load hu ?_)
  simp only [kxs_mw, show (Value.type "method-wrapper" == Value.type "method" || Value.type "method-wrapper" == Value.type "builtin_function_or_method" || Value.type "method-wrapper" == Value.type "method-wrapper") = true by decide, if_true]
  refine KFB.if_so (by decide) ?_
  refine wpAny_bind (check_bound_init F.excBase_ValueError.toExcCallFacts (X _ _ hC) he rfl ?_)
  refine wpAny_bind (wpAny_pure (wpAny_pure ?_))
  refine ⟨plainId_quiet F.excBase_ValueError.init.plain _, codeAny_builtin F.excBase_ValueError.initEntry ?_⟩
  exact exc_init_tree (cls := .ref C) (t0 := t0) (dv := none) (c2 := .none) (c3 := .none) (b4 := .bool false) he hz fun h' k1 k2 _ => hq h' _ k1 k2

theorem callWithE {M : Model} {A : Around} {E : Value → Shared → Prop} {s : Shared} {i : String} {u x : Addr} {env : Env} {Q : Value → Shared → Prop}
    (h : wpAny M A (spliced (backTo pos (starEach (e :: es) env))) (fun vs s₁ => KxsAt i u x s₁.heap ∧ wpAny M A (call (.ref u) vs) Q E s₁) E s)
    (he : starEach (e :: es) env = (false, eval e env) :: starEach es env) (hplain : (backTo pos (starEach es env)).any (·.1) = false) :
    wpAny M A (callWith pos (.ref u) [] (backTo pos (starEach (e :: es) env)) []) Q E s := by
  rw [he] at h ⊢
  refine kxs_callWith (i := i) (x := x) (by show (false || (backTo pos (starEach es env)).any (·.1)) = false; rw [hplain]; rfl) ?_
  exact evalArgs_plain h
theorem fn_sup (F : SupD P K C qual params (.Expr (.Call (.Attribute (.Call (.Name "super" p0) [] [] p1) "__init__" p2) (e :: es) [] pos) p3 :: rest) scope f fd cda cc) (S : SupScope N scope) (T : OexC K C)
    (hp : (params.posonlyargs ++ params.args).head? = some ar) (ha0 : N[0]? = some ar.arg)
    (hm : mg "super" = none) (htop : (P.main.scope.names.lookup ("super" : Str)).isSome = false) (ho : nsIn K cStatics "thirdparty.any" = some none)
    (hsi : ks_superIn K C C "__init__" = some (some (.builtin "ValueError.__init__"))) (hB : subIn K (.ref C) (.type "ValueError") = some true)
    (len : ∀ vs H Q E, sp vs H Q E → vs.length = N.length)
    (hbody : ∀ (A : Around) (outer : List Env) (s : Shared) (H : Hp) (vs : List V) (Q : VK) (E : XK), sp vs H Q E →
      ∃ (a : Addr) (ws : List V) (ta : TA) (t : TS), vs = .ref a :: ws ∧ H a = some (exo a C none) ∧ PA (cxK CX P w K mg base N qual scope f cda cc A outer s H E) (e :: es) ta ∧ PSs (cxK CX P w K mg base N qual scope f cda cc A outer s H E) rest t ∧
        ta (L2.start N vs) H fun us H1 => us.length ≤ 1000 ∧ H1 a = some (exo a C none) ∧ t { nx := fun _ H' => Q .non H', rt := Q } (L2.start N vs) H1)
    (hce : ∀ L, eval (.Call (.Attribute (.Call (.Name "super" p0) [] [] p1) "__init__" p2) (e :: es) [] pos) (ksEnv qual scope L f (.ref cda) cc) = (do
      let ov ← attributeBase (.Call (.Name "super" p0) [] [] p1) "__init__" (ksEnv qual scope L f (.ref cda) cc) (eval (.Call (.Name "super" p0) [] [] p1) (ksEnv qual scope L f (.ref cda) cc))
      standAt p2.atName
      let (g, first) ← holding [ov] (getMethod ov "__init__" (pl L))
      callWith pos g first (backTo pos (starEach (e :: es) (ksEnv qual scope L f (.ref cda) cc))) []))
    (hse : ∀ L, starEach (e :: es) (ksEnv qual scope L f (.ref cda) cc) = (false, eval e (ksEnv qual scope L f (.ref cda) cc)) :: starEach es (ksEnv qual scope L f (.ref cda) cc))
    (hpl : ∀ L, (backTo pos (starEach es (ksEnv qual scope L f (.ref cda) cc))).any (·.1) = false) :
    FnOk P w K mg base CX (k + 1) f fd N sp := by
  refine ⟨len, fun A outer s H args us vs Q E hr e0 hb r hsp => ?_⟩
  obtain ⟨a, ws, ta, t, ev, ea, Ha, Ht, q⟩ := hbody A outer s H vs Q E hsp
  have hl := len _ _ _ _ hsp
  obtain ⟨oc, od, dV, kV, doc, pm, an, ct, osl, rfl, lk⟩ := F.ex
  obtain ⟨ccl, cdd, cvs, ccs, file, tf, lkc, hvs, hfile⟩ := F.code
  obtain ⟨cl, cld, csl, lkcc⟩ := F.cell
  have KX : K.In s.heap := e0.mod.kin.keeps fun b o e => (e0.bs b o e).1
  have lim : s.heap.NoLimit := e0.mod.nolimit.keeps fun b o e => (e0.bs b o e).1
  obtain ⟨nm, q', N0, bs, bm, sn, sub, ab, col, dd, k0, k1, k2, k3, k5, hC, hbm⟩ := T.cls
  have hcl : clsIn K C = some { name := nm, bases := bs, mro := .ref C :: bm, ns := N0, qualname := q', hasDict := true, slotNames := sn, subclasses := sub, abstract := ab, collection := col, hasDel := false } := by unfold clsIn; rw [hC] <;> rfl
  refine ks_codeAny_call_defAt (body := _) hr.depth (KX _ _ lk) rfl lim (codeRec_of KX F.cd) rfl hb S.nocell (fun z hz => S.par _ (List.of_mem_zip (show (z.1, z.2) ∈ N.zip us from hz)).1) (fun h₁ hns hk => ?_) S.co S.gen S.kind
  have I := inv_startK (CX := CX) (w := w) (qual := qual) (scope := scope) (f := f) (cda := cda) (E := E) (t1 := s.toks + (N.zip us).length) S hr.hd e0 hl r ⟨cl, cld, csl, lkcc⟩ hns hk
  have hself : ∃ ur, us = Value.ref a :: ur := by
    subst ev
    cases r with
    | @cons _ u0 _ ur ra rw' =>
      obtain rfl : u0 = Value.ref a := ra
      exact ⟨ur, rfl⟩
  obtain ⟨ur, hus⟩ := hself
  have hmself : (N.zip us).reverse.lookup ar.arg = some (.ref a) := zip_rev S.nd ha0 (by rw [hus]; rfl)
  obtain ⟨mb, hb1, hb2⟩ := e0.mod.blt
  have KI : K.In h₁ := KX.keeps hk
  show _root_.PySem.wpAt (model P w) (A.deeper (ksEnv qual scope s.heap.objs.size f (.ref cda) cc)) (.func _ (ksEnv qual scope s.heap.objs.size f (.ref cda) cc)) (execs _ (ksEnv qual scope s.heap.objs.size f (.ref cda) cc)) _ _ _
  refine ks_wpAt_execs_cons (ks_wpAt_Expr_any (ks_wpAt_MethodCall ?_ (hce _)) (by simp [interactive, S.kind]))
  refine ks_wpAt_super_base (fd := ksFn "__init__" qual params _ scope dV kV doc pm an (.ref cda) ct cc) S.sup S.cls rfl rfl (KI _ _ lk) rfl hp rfl (KI _ _ lkc) rfl hvs hfile htop ?_
  refine ks_loadName_global S.kind S.sup (loadGlobal_builtin (mb := mb) (e0.mod.glob.keeps I.bk) hm (hb1.keeps I.bk) ((hb2 "super" (by decide)).trans (by first | rfl | kernel_rfl)) ⟨rfl, ?_⟩)
  refine wpAny_loadName_free S.kind S.cls rfl ⟨_, KI _ _ lkcc, rfl⟩ ?_
  refine wpAny_loadName_local S.kind (S.par _ (List.mem_of_getElem? ha0)) hns hmself ?_
  refine ks_wpAny_isType_cls (KI _ _ hC) rfl ⟨rfl, ?_⟩
  obtain ⟨t1, hoe⟩ := exo_at I.hok ea
  refine ks_wpAny_call_super (KI _ _ hC) rfl hoe rfl (fun c e => by cases e) (looks_mroIn KI (by unfold mroIn; rw [hcl, Option.bind_some, if_neg (by simp), List.contains_cons, beq_self_eq_true, Bool.true_or])) (fun h2 hso k2 => ?_)
  have I2 := I.kept (t' := s.toks + (N.zip us).length) k2
  have KI2 : K.In h2 := KI.keeps k2
  have hI : Looks (model P w) h2 (isInstance (.ref a) (.type "ValueError")) true := (show InstAt h2 a _ C none from ⟨k2 _ _ hoe, rfl, rfl, trivial⟩).type.andThen (looks_subIn KI2 hB)
  have hxC : a ≠ C := fun z => by
    have q1 := k2 _ _ hoe
    rw [z, KI2 _ _ hC] at q1
    cases q1
  refine kxs_getMethod kxs_ValueError hso (looks_opaque KI2 ho) (l₀ := .ref C :: bm) (fun A Q E s k q => wpAny_bind ((looks_clsIn KI2 hcl) A _ E s k (wpAny_pure q))) rfl KI2 (by unfold ks_superIn at hsi; rw [hcl] at hsi; exact hsi) hI hxC (by decide) ?_
  have k3 : ∀ b o, h2.get? b = some o → (h2.push (kxs_mw "ValueError.__init__" a)).get? b = some o := fun b o e => Heap.get?_push_of_some _ e
  have I3 := I2.kept (t' := s.toks + (N.zip us).length + 1) k3
  have hmw : (h2.push (kxs_mw "ValueError.__init__" a)).get? h2.objs.size = some (kxs_mw "ValueError.__init__" a) := Heap.get?_push_at rfl rfl
  have hn : H h2.objs.size = none := I2.hok.fresh (Nat.le_refl _)
  have I4 : Inv (cxK CX P w K mg base N qual scope f cda cc A outer s H E) [(h2.objs.size, kxs_mw "ValueError.__init__" a)] (L2.start N vs) H _ := I3.pins_of fun p hp => by
    rw [List.mem_singleton] at hp
    subst hp
    exact ⟨hmw, hn, Nat.ne_of_gt I2.lt, I2.nofs (Nat.le_refl _), fun v => by simp [kxs_mw]⟩
  refine callWithE (i := "ValueError.__init__") (x := a) ?_ (hse _) (hpl _)
  · refine thn (Ha.run pos _ _ (L2.start N vs) H _ I4 q) fun us1 s1 ⟨vs1, H1, I5, r1, hz, ea1, q1⟩ => ?_
    have hmw1 := (I5.pin _ (List.mem_append_right _ List.mem_cons_self)).1
    refine ⟨hmw1, ?_⟩
    have hlen : us1.length ≤ sizeLine := by
      rw [← Paired.length r1, sizeLine_eq]
      omega
    obtain ⟨t5, hoe5⟩ := exo_at I5.hok ea1
    obtain ⟨hp5, g5, d5, tk5, os5⟩ := s1
    refine call_mw T I5.kIn hmw1 hoe5 hlen fun h6 t6 k6 hx6 => ?_
    have J := I5.write (t' := tk5) (x := a) (e := a) (o := exo a C none) (by rw [ea1]; exact True.intro) (.inl rfl) k6 ⟨_, hx6⟩ (exo_ok hx6)
    have eu : upd H1 a (exo a C none) = H1 := by
      funext b
      by_cases hb : b = a
      · rw [hb, upd_same, ea1]
      · rw [upd_ne hb]
    rw [eu] at J
    have J0 : Inv (cxK CX P w K mg base N qual scope f cda cc A outer s H E) [] (L2.start N vs) H1 _ := J.pins_of fun p hp => absurd hp (by simp)
    refine wpAt_of_wpAny (wpAny_mono (Ht.run [] _ (L2.start N vs) H1 _ J0 q1) (fun fl s' hs => ?_) fun e s' hs => hs)
    have fin : ∀ {σ' : L2.St} {H' : Hp} {v : V} {u : Value}, Inv (cxK CX P w K mg base N qual scope f cda cc A outer s H E) [] σ' H' s' → RelV v u → Q v H' → CE outer P w H s Q u s' :=
      fun {σ' H' v u} J rv q => ⟨v, H', J.os, J.bare, J.base, J.hok, rv, q⟩
    cases fl with
    | ret u =>
      obtain ⟨v, σ', H', J, rv, q⟩ := hs
      exact fin J rv q
    | next =>
      obtain ⟨σ', H', J, q⟩ := hs
      exact fin (v := V.non) (u := Value.none) J rfl q
    | brk =>
      obtain ⟨_, _, _, q⟩ := hs
      exact False.elim q
    | cont =>
      obtain ⟨_, _, _, q⟩ := hs
      exact False.elim q
end
end AX

set_option Elab.async false
set_option linter.all false
set_option maxRecDepth 100000
set_option maxHeartbeats 4000000
/-! AX17: raise of an own exception with fields. -/
namespace AX
open PySem PySem.Spec PyProof.Rows L2
/-- C(e, ..), its __init__ keeping sp; the exception's context is None -/
theorem pmk_oexN {X : Cx} {CX : CXT} {x : Str} {e : Expr} {es : List Expr} {ta : TA} {p pos : Pos} {C fI : Addr} {k : Nat} {fd : FuncData} {ps : List Str} {sp : Sp}
    (T : OexC X.K C) (iC : PySem.W.findIn X.K (.ref C) "__init__" = some (some (.ref fI))) (tI : PySem.W.typeIn X.K (.ref fI) = some (.type "function"))
    (F1 : FnOk X.prog X.w X.K X.mg X.base CX k fI fd ps sp) (hr : Room (k + 1) X.A) (hb : Binds X.K fd ps []) (hx : Passes CX X (fun _ _ _ => False)) (hg : Gl X x) (hm : X.mg x = some (.ref C)) (ha : PA X (e :: es) ta)
    (hdb : (x == ("__debug__" : Str)) = false := by decide) (he : starEach (e :: es) X.env = (false, eval e X.env) :: starEach es X.env := by rfl) (hpl : (backTo pos (starEach es X.env)).any (·.1) = false := by rfl) :
    L2N.PMk X (.Call (.Name x p) (e :: es) [] pos) (tMkO C sp [] ta) := by
  intro pins s σ H Q I h
  obtain ⟨nm, q, N, bs, bm, sn, sub, ab, col, dd, k0, k1, k2, k3, k5, hC, hbm⟩ := T.cls
  refine wpAny_Call_Name_kw (ld_glob I hg hm ?_ hdb)
  refine PySem.W.callWith_K (h₀ := X.base) I.ok.mod.kin T.kC (thn (ha.run pos pins s σ H _ I h) fun us s1 ⟨vs, H1, I1, r1, hz, q1⟩ => ⟨I1.kIn, ?_⟩) he hpl
  show wpAny _ _ (call (.ref C) us) _ _ _
  obtain ⟨hp, g, dr, tk, os⟩ := s1
  have hsz : hp.objs.size ≤ hp.objs.size + 1 := Nat.le_succ _
  have hn : H1 (hp.objs.size + 1) = none := I1.hok.fresh hsz
  have hq := q1 (hp.objs.size + 1) hn
  rw [List.append_nil] at hq
  have kk : ∀ b o, hp.get? b = some o → ((hp.push (PySem.W.kdv_tup us)).push (PySem.HandSPX.excO C hp.objs.size)).get? b = some o := fun b o e => Heap.get?_push_of_some _ (Heap.get?_push_of_some _ e)
  have hget : ((hp.push (PySem.W.kdv_tup us)).push (PySem.HandSPX.excO C hp.objs.size)).get? (hp.objs.size + 1) = some (PySem.HandSPX.excO C hp.objs.size) := by heap_get
  have I2 : Inv X pins σ (upd H1 (hp.objs.size + 1) (exo (hp.objs.size + 1) C none)) ⟨(hp.push (PySem.W.kdv_tup us)).push (PySem.HandSPX.excO C hp.objs.size), g, dr, tk, os⟩ :=
    I1.laid (t' := tk) (a := hp.objs.size + 1) (o := exo (hp.objs.size + 1) C none) (h' := (hp.push (PySem.W.kdv_tup us)).push (PySem.HandSPX.excO C hp.objs.size)) kk hsz (exo_ok hget)
  have r2 : Vals (V.ref (hp.objs.size + 1) :: vs) (Value.ref (hp.objs.size + 1) :: us) := .cons rfl r1
  have hl : (Value.ref (hp.objs.size + 1) :: us ++ []).length = ps.length := by
    have e := r2.length
    rw [F1.len _ _ _ _ hq] at e
    rw [List.append_nil]
    exact e.symm
  have hus : us.length ≤ sizeLine := by
    rw [← Paired.length r1, sizeLine_eq]
    omega
  have b2 := hb _ (Value.ref (hp.objs.size + 1) :: us) I2.kIn hl
  rw [List.append_nil] at b2
  refine wpAny_call (PySem.HandSPX.call_own F.excBase_ValueError (fun Y => PySem.HandSPX.refsVE_contains Y bm hbm) (I1.kIn _ _ hC) (PySem.W.looks_findIn I1.kIn iC) (fun self => PySem.W.bind_fn I1.kIn self tI) hus
    (codeAny_mono (F1.run _ X.stack _ _ ⟨Value.ref (hp.objs.size + 1) :: us, []⟩ (Value.ref (hp.objs.size + 1) :: us) _ _ (fun _ _ _ => False) (hr.make C us []) (I2.env0.make C us []) b2 r2 hq) fun r s' hq' => ?_))
  cases r with
  | error er => exact hx pins σ _ _ er s' I2 hq'
  | ok fl =>
    cases fl with
    | ret u =>
      obtain ⟨v, H2, os2, bare2, un2, hok2, rv, ev, d, fs, ea, ed, hd1, q2⟩ := hq'
      subst ev
      obtain ⟨h2, g2, d2, t2, os'⟩ := s'
      obtain ⟨t0, G, J, kG, ge, hoe, na⟩ := mk_end0 (d2 := d2) (t2 := t2) I1 hsz kk un2 hok2 os2 bare2 ea ed hd1
      exact ⟨rv, hp.objs.size + 1, _, _, ⟨G, g2, d2, t2, os'⟩, _, .ref C, some d, rfl, J, kG, ge, hoe, ⟨rfl, rfl, fun vs hv => by cases hv; rfl⟩, rfl, rfl, na, rfl, bare2, raises_own T.exC T.tyC, q2⟩
    | next => exact False.elim hq'
    | brk => exact False.elim hq'
    | cont => exact False.elim hq'

/-- what such an __init__ does: the fields are set one by one -/
def spX (C : Addr) (ns : List Str) : Sp := fun vs H Q _ => vs.length = ns.length + 1 ∧ ∃ (a : Addr) (ws : List V), vs = .ref a :: ws ∧ H a = some (exo a C none) ∧
  ∀ dx, H dx = none → dx ≠ a → Q .non (upd (upd H dx (exd dx (ns.zip ws).reverse)) a (exo a C (some dx)))
structure ExcA (P : Program) (w : World) (K : PySem.W.Frag) (mg : Str → Option Value) (base : Heap) (k : Nat) (c : Str) (ns : List Str) : Prop where
  ex : ∃ (f : Addr) (fd : FuncData) (ps : List Str), OexC K (He.ga K c) ∧ PySem.W.findIn K (.ref (He.ga K c)) "__init__" = some (some (.ref f)) ∧ PySem.W.typeIn K (.ref f) = some (.type "function") ∧
    FnOk P w K mg base (L2N.CX P w) k f fd ps (spX (He.ga K c) ns) ∧ Binds K fd ps [] ∧ mg c = some (.ref (He.ga K c))
section
variable {K : PySem.W.Frag} {ρ : List Addr} {H : Hp}
theorem VRs.snoc : ∀ {xs : List AV} {vs : List V} {x : AV} {v : V}, VRs K ρ H xs vs → VR K ρ H x v → VRs K ρ H (xs ++ [x]) (vs ++ [v])
  | _, _, _, _, .nil, h => .cons h .nil
  | _, _, _, _, .cons h hs, h' => .cons h (VRs.snoc hs h')
theorem VRs.rev : ∀ {xs : List AV} {vs : List V}, VRs K ρ H xs vs → VRs K ρ H xs.reverse vs.reverse
  | _, _, .nil => .nil
  | _, _, .cons h hs => by
    rw [List.reverse_cons, List.reverse_cons]
    exact (VRs.rev hs).snoc h
end
def aRaise (c : Str) (ns : List Str) (fl : ASt → M (List AV)) : ASt → M AOut := fun aσ => (fl aσ).bind fun xs => (M.chk (lenOk xs ns.length)).bind fun _ => M.exc ⟨c, ns.reverse, xs.reverse⟩
section
variable {X : Cx} {E : XK} {e : Expr} {es : List Expr} {fl : ASt → M (List AV)} {c : Str} {p pos pos' : Pos} {k j : Nat} {ns : List Str}
theorem s_raise (d : ExcA X.prog X.w X.K X.mg X.base k c ns) (hn : ns.length ≤ 100) (hr : Room j X.A) (tk : TkE X E) (hk : k + 1 ≤ j) (hg : Gl X c) (ha : PA X (e :: es) (SL X.K E fl)) (hc : X.calm = true := by rfl)
    (hdb : (c == ("__debug__" : Str)) = false := by decide) (he : starEach (e :: es) X.env = (false, eval e X.env) :: starEach es X.env := by rfl) (hpl : (backTo pos (starEach es X.env)).any (·.1) = false := by rfl) :
    PS X (.Raise (some (.Call (.Name c p) (e :: es) [] pos)) none pos') (SS X.K E (aRaise c ns fl)) := by
  obtain ⟨f, fd, ps, T, iC, tI, F1, b, hm⟩ := d.ex
  have hx : Passes (L2N.CX X.prog X.w) X (fun _ _ _ => False) := L2N.passes_call tk fun _ _ _ _ h => h.elim
  refine wS (L2N.ps_raise hc tk (pmk_oexN T iC tI F1 (hr.mono hk) b hx hg hm ha hdb he hpl)) fun D σ H ⟨ρ, aσ, A, w, s, y⟩ => ?_
  unfold tMkO
  refine SX.mk w s y.bind fun xs A1 ρ1 H1 vs y1 g1 w1 r1 => ?_
  obtain ⟨hl, y2⟩ := y1.bind.chk
  have hl' : vs.length = ns.length := r1.length.symm.trans (Nat.eq_of_beq_eq_true hl)
  have y3 := y2.exc
  refine ⟨by omega, fun a ha1 => ?_⟩
  rw [List.append_nil]
  refine ⟨by rw [List.length_cons, hl'], a, vs, rfl, upd_same, fun dx hd hne => ⟨rfl, dx, (ns.zip vs).reverse, upd_same, ?_, ?_, ?_⟩⟩
  · rw [upd_ne hne, upd_same]
  · rw [upd_ne hne] at hd
    exact hd
  · rw [upd_ne hne] at hd
    have eH : upd (del (upd (upd (upd H1 a (exo a (He.ga X.K c) none)) dx (exd dx (ns.zip vs).reverse)) a (exo a (He.ga X.K c) (some dx))) a) dx (.xd (ns.zip vs).reverse) = upd H1 dx (.xd (ns.zip vs).reverse) := by
      funext b
      by_cases hb : b = dx
      · rw [hb, upd_same, upd_same]
      · rw [upd_ne hb, upd_ne hb]
        by_cases hba : b = a
        · rw [hba, del_same, ha1]
        · rw [del_ne hba, upd_ne hba, upd_ne hb, upd_ne hba]
    rw [eH]
    obtain ⟨w2, g2⟩ := w1.out (u := .xd (ns.zip vs).reverse) hd
    refine y3 ρ1 _ _ _ (g1.trans g2) w2 ⟨rfl, dx, _, rfl, upd_same, ?_, ?_⟩
    · rw [List.map_reverse, List.map_fst_zip (by omega)]
    · rw [List.map_reverse, List.map_snd_zip (by omega)]
      exact (g2.vrs r1).rev
end
end AX

set_option Elab.async false
set_option linter.all false
set_option maxRecDepth 100000
set_option maxHeartbeats 4000000
/-! AX18: own exceptions of one and of two fields. -/
namespace AX
open PySem PySem.Spec PyProof.Rows PySem.W PySem.Calls L2
abbrev supCall (es : List Expr) (p0 p1 p2 pos p3 : Pos) : Stmt := .Expr (.Call (.Attribute (.Call (.Name "super" p0) [] [] p1) "__init__" p2) es [] pos) p3
abbrev setF (n : Str) (q1 q2 q3 q4 : Pos) : Stmt := .Assign [.Attribute (.Name "self" q1) n q2] (.Name n q3) q4
section
variable {CX : CXT} {P : Program} {w : World} {K : PySem.W.Frag} {mg : Str → Option Value} {base : Heap} {qual : Str} {scope : Scope} {f cda cc C : Addr} {params : Arguments} {k : Nat} {fd : FuncData} {ar : Arg}
  {p0 p1 p2 pos p3 a1 a2 q1 q2 q3 q4 r1 r2 r3 r4 : Pos} {n m : Str} {pl : Addr → Sem Bool}
theorem exc1 (F : SupD P K C qual params [supCall [.Name n a1] p0 p1 p2 pos p3, setF n q1 q2 q3 q4] scope f fd cda cc) (S : SupScope ["self", n] scope) (T : OexC K C)
    (hp : (params.posonlyargs ++ params.args).head? = some ar) (ha0 : ar.arg = "self")
    (hm : mg "super" = none) (htop : (P.main.scope.names.lookup ("super" : Str)).isSome = false) (ho : nsIn K cStatics "thirdparty.any" = some none)
    (hsi : ks_superIn K C C "__init__" = some (some (.builtin "ValueError.__init__"))) (hB : subIn K (.ref C) (.type "ValueError") = some true) (hn : findIn K (.ref C) n = some none)
    (d1 : (n == ("__debug__" : Str)) = false) (d2 : (n == ("__classdict__" : Str)) = false)
    (hce : ∀ L, eval (.Call (.Attribute (.Call (.Name "super" p0) [] [] p1) "__init__" p2) [.Name n a1] [] pos) (ksEnv qual scope L f (.ref cda) cc) = (do
      let ov ← attributeBase (.Call (.Name "super" p0) [] [] p1) "__init__" (ksEnv qual scope L f (.ref cda) cc) (eval (.Call (.Name "super" p0) [] [] p1) (ksEnv qual scope L f (.ref cda) cc))
      standAt p2.atName
      let (g, first) ← holding [ov] (getMethod ov "__init__" (pl L))
      callWith pos g first (backTo pos (starEach [.Name n a1] (ksEnv qual scope L f (.ref cda) cc))) [])) :
    FnOk P w K mg base CX (k + 1) f fd ["self", n] (spX C [n]) := by
  refine fn_sup F S T hp (by rw [ha0]; rfl) hm htop ho hsi hB (fun vs H Q E h => h.1) (fun A outer s H vs Q E h => ?_) hce (fun L => rfl) (fun L => rfl)
  obtain ⟨hl, a, ws, rfl, ea, q⟩ := h
  match ws, hl with
  | [x], _ =>
    refine ⟨a, [x], tCons (tVar 1) tNil, tOst K n (tVar 0) (tVar 1), rfl, ea, pa_cons (pe_var rfl (.inl (S.par n (by simp))) d1 d2) pa_nil, pss_one (ps_ost (pe_var rfl (.inl (S.par "self" (by simp)))) (pe_var rfl (.inl (S.par n (by simp))) d1 d2) (by rfl)), ?_⟩
    refine ⟨x, rfl, ?_⟩
    refine ⟨by simp, ea, x, rfl, .ref a, rfl, a, C, rfl, T, hn, .inl ⟨ea, fun dx h1 h2 => q dx h1 h2⟩⟩
theorem exc2 (F : SupD P K C qual params [supCall [.Name n a1, .Name m a2] p0 p1 p2 pos p3, setF n q1 q2 q3 q4, setF m r1 r2 r3 r4] scope f fd cda cc) (S : SupScope ["self", n, m] scope) (T : OexC K C)
    (hp : (params.posonlyargs ++ params.args).head? = some ar) (ha0 : ar.arg = "self")
    (hm : mg "super" = none) (htop : (P.main.scope.names.lookup ("super" : Str)).isSome = false) (ho : nsIn K cStatics "thirdparty.any" = some none)
    (hsi : ks_superIn K C C "__init__" = some (some (.builtin "ValueError.__init__"))) (hB : subIn K (.ref C) (.type "ValueError") = some true) (hn : findIn K (.ref C) n = some none) (hn2 : findIn K (.ref C) m = some none)
    (d1 : (n == ("__debug__" : Str)) = false) (d2 : (n == ("__classdict__" : Str)) = false) (e1 : (m == ("__debug__" : Str)) = false) (e2 : (m == ("__classdict__" : Str)) = false)
    (hce : ∀ L, eval (.Call (.Attribute (.Call (.Name "super" p0) [] [] p1) "__init__" p2) [.Name n a1, .Name m a2] [] pos) (ksEnv qual scope L f (.ref cda) cc) = (do
      let ov ← attributeBase (.Call (.Name "super" p0) [] [] p1) "__init__" (ksEnv qual scope L f (.ref cda) cc) (eval (.Call (.Name "super" p0) [] [] p1) (ksEnv qual scope L f (.ref cda) cc))
      standAt p2.atName
      let (g, first) ← holding [ov] (getMethod ov "__init__" (pl L))
      callWith pos g first (backTo pos (starEach [.Name n a1, .Name m a2] (ksEnv qual scope L f (.ref cda) cc))) [])) :
    FnOk P w K mg base CX (k + 1) f fd ["self", n, m] (spX C [n, m]) := by
  refine fn_sup F S T hp (by rw [ha0]; rfl) hm htop ho hsi hB (fun vs H Q E h => h.1) (fun A outer s H vs Q E h => ?_) hce (fun L => rfl) (fun L => rfl)
  obtain ⟨hl, a, ws, rfl, ea, q⟩ := h
  match ws, hl with
  | [x, y], _ =>
    refine ⟨a, [x, y], tCons (tVar 1) (tCons (tVar 2) tNil), tSeq (tOst K n (tVar 0) (tVar 1)) (tOst K m (tVar 0) (tVar 2)), rfl, ea,
      pa_cons (pe_var rfl (.inl (S.par n (by simp))) d1 d2) (pa_cons (pe_var rfl (.inl (S.par m (by simp))) e1 e2) pa_nil),
      pss_cons (ps_ost (pe_var rfl (.inl (S.par "self" (by simp)))) (pe_var rfl (.inl (S.par n (by simp))) d1 d2) (by rfl)) (pss_one (ps_ost (pe_var rfl (.inl (S.par "self" (by simp)))) (pe_var rfl (.inl (S.par m (by simp))) e1 e2) (by rfl))), ?_⟩
    refine ⟨x, rfl, y, rfl, ?_⟩
    refine ⟨by simp, ea, x, rfl, .ref a, rfl, a, C, rfl, T, hn, .inl ⟨ea, fun dx h1 h2 => ?_⟩⟩
    refine ⟨y, rfl, .ref a, rfl, a, C, rfl, T, hn2, .inr ⟨dx, [(n, x)], upd_same, by rw [upd_ne h2, upd_same], by simp, ?_⟩⟩
    have eH : upd (upd (upd H dx (exd dx [(n, x)])) a (exo a C (some dx))) dx (exd dx ((m, y) :: [(n, x)])) = upd (upd H dx (exd dx (List.zip [n, m] [x, y]).reverse)) a (exo a C (some dx)) := by
      funext b
      by_cases hb : b = dx
      · rw [hb, upd_same, upd_ne h2, upd_same]
        rfl
      · rw [upd_ne hb]
        by_cases hba : b = a
        · rw [hba, upd_same, upd_same]
        · rw [upd_ne hba, upd_ne hba, upd_ne hb, upd_ne hb]
    have q1 := q dx h1 h2
    rw [← eH] at q1
    exact q1
end
end AX

set_option Elab.async false
set_option linter.all false
set_option maxRecDepth 100000
set_option maxHeartbeats 4000000
/-! AX19: what the head tells of own exceptions with fields; the hook. -/
namespace AX
open PySem PySem.Spec PyProof.Rows PySem.W PySem.Calls L2
def oexB (K : PySem.W.Frag) (C : Addr) : Bool := match K.lookup C with
  | some ⟨.type t, _, .cls cd, sl⟩ => decide (t = "type") && ((match cd.mro with
    | .ref C' :: bm => decide (C' = C) && HandSPX.refsVE bm
    | _ => false) && ((cd.hasDict && !cd.hasDel) && (match sl.toList with
    | [_, _, _, _, some (.builtin n), _] => decide (n = "ValueError.__new__")
    | _ => false)))
  | _ => false
theorem oexB_ok {K : PySem.W.Frag} {C : Addr} (h : oexB K C = true) : ∃ nm q N bs bm sn sub ab col dd k0 k1 k2 k3 k5, K.lookup C = some (excClassObj nm q C N bs bm true sn sub ab col dd k0 k1 k2 k3 k5 "ValueError.__new__") ∧ HandSPX.refsVE bm = true := by
  unfold oexB at h
  split at h
  · rename_i t dd cd sl ho
    obtain ⟨h1, h⟩ := He.ba h
    obtain ⟨h2, h⟩ := He.ba h
    obtain ⟨h3, h4⟩ := He.ba h
    obtain ⟨h5, h6⟩ := He.ba h3
    have h1 := of_decide_eq_true h1
    split at h2
    · rename_i C' bm hm
      obtain ⟨h7, h8⟩ := He.ba h2
      have h7 := of_decide_eq_true h7
      split at h4
      · rename_i k0 k1 k2 k3 n k5 hs
        have h4 := of_decide_eq_true h4
        obtain ⟨nm, bs, mro, ns, qn, hd, sn, sub, ab, col, del⟩ := cd
        dsimp only at hm h5 h6
        have h6 : del = false := by cases del with
          | false => rfl
          | true => cases h6
        subst h1 h7 h4 hm h5 h6
        have hsl : sl = #[k0, k1, k2, k3, some (.builtin "ValueError.__new__"), k5] := by
          obtain ⟨l⟩ := sl
          simp only at hs
          rw [hs]
        subst hsl
        exact ⟨nm, qn, ns, bs, bm, sn, sub, ab, col, dd, k0, k1, k2, k3, k5, ho, h8⟩
      · cases h4
    · cases h2
  · cases h
/-- one such exception: its class, its fields, its __init__'s text -/
structure XD where
  c : Str
  ns : List Str
  qual : Str
  params : Arguments
  body : List Stmt
  scope : Scope
abbrev FnZ : Type := Option (Str × Str × Arguments × FuncBody × Scope × Addr × List Str × Addr)
def fnZ (K : PySem.W.Frag) (a : Addr) : FnZ := match K.lookup a with
  | some ⟨_, _, .func fd, _⟩ => some (fd.name, fd.qualname, fd.params, fd.body, fd.scope, fd.globals, fd.closure.map (·.1), fd.builtins)
  | _ => none
def XD.fn (K : PySem.W.Frag) (d : XD) : Addr := He.ma K (He.ga K d.c) "__init__"
def XD.val (d : XD) : FnZ := some ("__init__", d.qual, d.params, .stmts d.body, d.scope, mainGlobals, ["__class__"], builtinsNs)
def fileB (K : PySem.W.Frag) (fl : Str) (c : Value) : Bool := match c with
  | .ref a => (match K.lookup a with
    | some ⟨_, _, .fields vs, _⟩ => (match (vs[2]? : Option Value) with
      | some (Value.str file _) => fl == file
      | _ => false)
    | _ => false)
  | _ => false
def cellB (K : PySem.W.Frag) (C : Addr) : List (Str × Addr) → Bool
  | [(_, cc)] => (match K.lookup cc with
    | some ⟨_, _, .cell (some (.ref C')), _⟩ => decide (C' = C)
    | _ => false)
  | _ => false
def fnB (K : PySem.W.Frag) (fl qual : Str) (C f : Addr) : Bool := match K.lookup f with
  | some ⟨_, _, .func fd, _⟩ => (codeIn K fd.code qual && fileB K fl fd.code) && (cellB K C fd.closure && decide (fd.defaults = .none))
  | _ => false
def XD.ok1 (K : PySem.W.Frag) (d : XD) : Bool := (oexB K (He.ga K d.c) && He.eqO (findIn K (.ref (He.ga K d.c)) "__setattr__") (some (some (.builtin "object.__setattr__")))) &&
  ((decide (subIn K (.ref (He.ga K d.c)) (.type "BaseException") = some true) && decide (typeIn K (.ref (He.ga K d.c)) = some (.type "type"))) && keepIn K (.ref (He.ga K d.c)))
def XD.ok2 (K : PySem.W.Frag) (fl : Str) (d : XD) : Bool := (He.eqO (findIn K (.ref (He.ga K d.c)) "__init__") (some (some (.ref (d.fn K)))) && decide (typeIn K (.ref (d.fn K)) = some (.type "function"))) &&
  ((He.eqO (ks_superIn K (He.ga K d.c) (He.ga K d.c) "__init__") (some (some (.builtin "ValueError.__init__"))) && decide (subIn K (.ref (He.ga K d.c)) (.type "ValueError") = some true)) &&
  (d.ns.all (fun n => He.eqO (findIn K (.ref (He.ga K d.c)) n) (some none)) && fnB K fl d.qual (He.ga K d.c) (d.fn K)))
def XD.ok (K : PySem.W.Frag) (fl : Str) (d : XD) : Bool := d.ok1 K && d.ok2 K fl
/-- all that is told of it -/
structure XK1 (P : Program) (K : PySem.W.Frag) (d : XD) : Prop where
  T : OexC K (He.ga K d.c)
  iC : findIn K (.ref (He.ga K d.c)) "__init__" = some (some (.ref (d.fn K)))
  tI : typeIn K (.ref (d.fn K)) = some (.type "function")
  hsi : ks_superIn K (He.ga K d.c) (He.ga K d.c) "__init__" = some (some (.builtin "ValueError.__init__"))
  hB : subIn K (.ref (He.ga K d.c)) (.type "ValueError") = some true
  hn : ∀ n ∈ d.ns, findIn K (.ref (He.ga K d.c)) n = some none
  fn : ∃ (kV doc pm : Value) (an : Option Addr) (ct : Value) (cda cc : Addr), SupD P K (He.ga K d.c) d.qual d.params d.body d.scope (d.fn K) (ksFn "__init__" d.qual d.params d.body d.scope .none kV doc pm an (.ref cda) ct cc) cda cc
theorem XD.k1 {P : Program} {K : PySem.W.Frag} {fl : Str} {d : XD} (hf : P.main.file = fl) (h : d.ok K fl = true) (e : fnZ K (d.fn K) = d.val) : XK1 P K d := by
  obtain ⟨h1, h2⟩ := He.ba h
  obtain ⟨h3, h4⟩ := He.ba h1
  obtain ⟨a1, a2⟩ := He.ba h3
  obtain ⟨h5, a5⟩ := He.ba h4
  obtain ⟨a3, a4⟩ := He.ba h5
  obtain ⟨h6, h7⟩ := He.ba h2
  obtain ⟨b1, b2⟩ := He.ba h6
  obtain ⟨h8, h9⟩ := He.ba h7
  obtain ⟨b3, b4⟩ := He.ba h8
  obtain ⟨b5, b6⟩ := He.ba h9
  refine ⟨⟨oexB_ok a1, He.eqO_ok a2, of_decide_eq_true a3, of_decide_eq_true a4, a5⟩, He.eqO_ok b1, of_decide_eq_true b2, He.eqO_ok b3, of_decide_eq_true b4, fun n hn => He.eqO_ok (List.all_eq_true.mp b5 n hn), ?_⟩
  unfold fnB at b6
  unfold fnZ at e
  cases q : K.lookup (d.fn K) with
  | none =>
    rw [q] at b6
    cases b6
  | some o =>
    obtain ⟨oc, od, dt, osl⟩ := o
    rw [q] at b6 e
    cases dt with
    | func fd =>
      obtain ⟨n1, n2, n3, n4, n5, n6, n7, n8, n9, n10, n11, n12, n13, n14, n15⟩ := fd
      have e2 : (some (n1, n2, n3, n4, n5, n6, n7.map (·.1), n15) : FnZ) = (some (("__init__" : Str), d.qual, d.params, FuncBody.stmts d.body, d.scope, mainGlobals, [("__class__" : Str)], builtinsNs) : FnZ) := e
      simp only [Option.some.injEq, Prod.mk.injEq] at e2
      obtain ⟨c1, c2, c3, c4, c5, c6, c7, c8⟩ := e2
      have b7 : ((codeIn K n13 d.qual && fileB K fl n13) && (cellB K (He.ga K d.c) n7 && decide (n8 = .none))) = true := b6
      obtain ⟨b8, b9⟩ := He.ba b7
      obtain ⟨d1, d2⟩ := He.ba b8
      obtain ⟨d3, d4⟩ := He.ba b9
      have d4 := of_decide_eq_true d4
      unfold cellB at d3
      split at d3
      · rename_i x cc
        have hx : x = "__class__" := by
          rw [List.map_cons, List.map_nil] at c7
          exact (List.cons.inj c7).1
        split at d3
        · rename_i cl cld C' csl lc
          have d3 := of_decide_eq_true d3
          unfold fileB at d2
          split at d2
          · rename_i cda
            split at d2
            · rename_i ccl cdd vs ccs lk
              split at d2
              · rename_i file tf hv
                subst d3 d4 hx c1 c2 c3 c4 c5 c6 c8
                refine ⟨n9, n10, n11, n12, n14, cda, cc, ⟨oc, od, .none, n9, n10, n11, n12, n14, osl, rfl, q⟩, d1, ⟨ccl, cdd, vs, ccs, file, tf, lk, hv, ?_⟩, ⟨cl, cld, csl, lc⟩⟩
                rw [hf]
                exact d2
              · cases d2
            · cases d2
          · cases d2
        · cases d3
      · cases d3
    | _ => cases b6
/-! ### the hook: facts, defs, own exceptions, a further Bool -/
abbrev AlZ : Type := He.AlD × List FnZ × Bool
def obsZ (fl : Str) (fa : List He.Fa) (fn : List He.DefD) (xs : List XD) (ex : PySem.W.Frag → Bool) (K : PySem.W.Frag) : AlZ := (He.obsD fa fn K, xs.map (fun d => fnZ K (d.fn K)), xs.all (fun d => d.ok K fl) && ex K)
def valZ (fn : List He.DefD) (xs : List XD) : AlZ := (He.valD fn, xs.map XD.val, true)
structure SaysZ (fl : Str) (fa : List He.Fa) (fn : List He.DefD) (xs : List XD) (ex : PySem.W.Frag → Bool) (K : PySem.W.Frag) : Prop where
  d : He.SaysD fa fn K
  x : xs.map (fun d => fnZ K (d.fn K)) = xs.map XD.val
  ok : xs.all (fun d => d.ok K fl) = true
  more : ex K = true
/-- code tables are left out -/
def notTab (g : Addr → Option Obj) (a : Addr) : Bool := match g a with
  | some ⟨.none, _, .fields ⟨[]⟩, _⟩ => false
  | _ => true
def asZ (g : Addr → Option Obj) (n : Nat) : List Addr := (cStatics :: He.asD g n).filter (notTab g)
def NoTab (K : PySem.W.Frag) : Prop := ∀ P, K.lookup P ≠ some { cls := .none, data := .fields #[] }
theorem frG_mem {g : Addr → Option Obj} {a : Addr} {o : Obj} : ∀ as : List Addr, (He.frG g as).lookup a = some o → a ∈ as
  | [], e => nomatch (show (none : Option Obj) = some o from e)
  | b :: r, e => by
    unfold He.frG at e
    cases hb : g b with
    | none =>
      rw [List.filterMap_cons, hb] at e
      exact List.mem_cons_of_mem _ (frG_mem r e)
    | some ob =>
      rw [List.filterMap_cons, hb] at e
      by_cases h : a = b
      · rw [h]; exact List.mem_cons_self
      · have e2 : (((b, ob) :: He.frG g r : PySem.W.Frag)).lookup a = some o := e
        rw [List.lookup_cons, beq_false_of_ne h] at e2
        exact List.mem_cons_of_mem _ (frG_mem r e2)
theorem noTab_of (g : Addr → Option Obj) (n : Nat) : NoTab (He.frG g (asZ g n)) := fun P e => by
  have h1 := (List.mem_filter.mp (frG_mem _ e)).2
  have h2 := He.frG_at _ e
  unfold notTab at h1
  rw [h2] at h1
  cases h1
def obsZG (n : Nat) (fl : Str) (fa : List He.Fa) (fn : List He.DefD) (xs : List XD) (ex : PySem.W.Frag → Bool) (g : Addr → Option Obj) : AlZ := obsZ fl fa fn xs ex (He.frG g (asZ g n))
def hookZ (n : Nat) (fl : Str) (fa : List He.Fa) (fn : List He.DefD) (xs : List XD) (ex : PySem.W.Frag → Bool) : PySem.W.Hook where
  α := AlZ
  obs := fun s => obsZG n fl fa fn xs ex s.heap.get?
  val := fun _ => valZ fn xs
  says := fun _ h => ∃ K : PySem.W.Frag, K.In h ∧ SaysZ fl fa fn xs ex K ∧ NoTab K
  of := fun _ s e => ⟨_, He.frG_in, by
    have e1 := congrArg (fun z : AlZ => z.1) e
    have e2 := congrArg (fun z : AlZ => z.2.1) e
    have e3 := congrArg (fun z : AlZ => z.2.2) e
    obtain ⟨h1, h2⟩ := He.ba e3
    exact ⟨⟨e1, e2, h1, h2⟩, noTab_of _ _⟩⟩
  keeps := fun _ _ _ ⟨K, hK, c⟩ k => ⟨K, PySem.W.Frag.In.keeps hK k, c⟩
theorem obsZG_eq {n : Nat} {fl : Str} {fa : List He.Fa} {fn : List He.DefD} {xs : List XD} {ex : PySem.W.Frag → Bool} {g : Addr → Option Obj} {s : Shared} (h : ∀ a, g a = s.heap.get? a) : obsZG n fl fa fn xs ex g = (hookZ n fl fa fn xs ex).obs s := by
  have e : g = s.heap.get? := funext h
  rw [e] <;> rfl
theorem SaysZ.xk {P : Program} {fl : Str} {fa : List He.Fa} {fn : List He.DefD} {xs : List XD} {ex : PySem.W.Frag → Bool} {K : PySem.W.Frag} (c : SaysZ fl fa fn xs ex K) (hf : P.main.file = fl) (i : Nat) {d : XD} (h : xs[i]? = some d := by rfl) : XK1 P K d := by
  have e2 : (xs.map (fun d => fnZ K (d.fn K)))[i]? = (xs.map XD.val)[i]? := by rw [c.x]
  rw [List.getElem?_map, List.getElem?_map, h] at e2
  exact XD.k1 hf (List.all_eq_true.mp c.ok d (List.mem_of_getElem? h)) (Option.some.inj e2)
end AX

set_option Elab.async false
set_option linter.all false
set_option maxRecDepth 100000
set_option maxHeartbeats 4000000
/-! AX20: try with one clause that names an own exception. -/
namespace AX
open PySem PySem.Spec PyProof.Rows L2
theorem takes_len {X : Cx} {W W' : WX} (t : L2N.Takes X W) (h : ∀ c d σ H, σ.length = X.N.length → W' c d σ H → W c d σ H) : L2N.Takes X W' := fun u s' ⟨a, B, sI, pins, σ, H, cls, d, e, I, nb, up, sky, na, os, ag, w⟩ =>
  t u s' ⟨a, B, sI, pins, σ, H, cls, d, e, I, nb, up, sky, na, os, ag, h _ _ _ _ I.len w⟩
/-- the clause's run, from no names -/
def bTry (n : Nat) (c : Str) (f g : ASt → M AOut) : ASt → M AOut := fun aσ A => match f aσ A with
  | none => none
  | some (l, A', .ok o) => some (l, A', .ok o)
  | some (l, A', .error e) => match strB e.c c with
    | true => (match (g (List.replicate n none)).nox A' with
      | none => none
      | some (l', A2, r) => some (l ++ l', A2, r))
    | false => none
theorem SR.blank {K : PySem.W.Frag} {ρ : List Addr} {H : Hp} {σ : L2.St} {n : Nat} (h : σ.length = n) : SR K ρ H (List.replicate n none) σ := ⟨by rw [List.length_replicate, h], fun i x hx => by
  rw [List.getElem?_replicate] at hx
  split at hx <;> cases hx⟩
/-- what the body wishes of exceptions, whatever the names -/
def exW (n : Nat) (W : WX) : XK := fun c d H => ∀ σ : L2.St, σ.length = n → W c d σ H
section
variable {X : Cx} {E : XK} {c : Str} {np pos pos' : Pos} {n : Nat} {body suite : List Stmt} {b₀ : Stmt} {f g : ASt → M AOut}
theorem s_try (hs : X.stack = X.env :: X.outer) (hf : X.env.frame = some X.env.locals) (hn : X.N.length = n) (tk : TkE X E) (hg : Gl X c) (hm : X.mg c = some (.ref (He.ga X.K c))) (hx : PySem.W.exmOne X.K (.ref (He.ga X.K c)) (.ref (He.ga X.K c)) = some true)
    (hb : ∀ (E' : XK) (pn : List (Addr × Obj)) (xe : Value → Shared → Prop), TkE (X.tr pn xe) E' → PassesOwn (model X.prog X.w) X.A X.env xe → PSs (X.tr pn xe) body (SS X.K E' f))
    (hsu : ∀ (a : Addr) (oe : Obj) (pn : List (Addr × Obj)), PSs (X.suite a ((a, oe) :: pn)) (b₀ :: suite) (SS X.K EF g)) (hdb : (c == ("__debug__" : Str)) = false := by decide) :
    PS X (.Try body [.ExceptHandler (some (.Name c np)) none (b₀ :: suite) pos'] [] [] pos) (SS X.K E (bTry n c f g)) := by
  refine wS (L2N.ps_try_many (tb := fun W => SS X.K (exW n W) f) (l := [(.ref (He.ga X.K c), fun _ _ _ => SS X.K EF g)]) hs hf tk (fun W pn xe t po => hb _ pn xe (takes_len t fun c d σ H hl h => h σ (hl.trans hn)) po)
    (.cons ⟨hg, hdb, .inl hm⟩ (fun a oe cls d pn _ _ => hsu a oe pn) .nil)) fun D σ H ⟨ρ, aσ, A, w, s, l, A', r, e, hl, q⟩ => ?_
  unfold bTry at e
  cases hfa : f aσ A with
  | none => rw [hfa] at e; cases e
  | some z =>
    obtain ⟨l1, A1, r1⟩ := z
    rw [hfa] at e
    cases r1 with
    | ok o =>
      cases e
      exact ⟨ρ, aσ, A, w, s, _, _, _, hfa, hl, q⟩
    | error ex =>
      have e1 : (match strB ex.c c with
        | true => (match (g (List.replicate n none)).nox A1 with
          | none => none
          | some (l', A2, r) => some (l1 ++ l', A2, r))
        | false => (none : Option (List Prop × AH × Except AExc AOut))) = some (l, A', r) := e
      cases hc : strB ex.c c with
      | false => rw [hc] at e1; cases e1
      | true =>
        rw [hc] at e1
        cases hga : (g (List.replicate n none)).nox A1 with
        | none =>
          have e2 : (match (g (List.replicate n none)).nox A1 with
            | none => none
            | some (l', A2, r) => some (l1 ++ l', A2, r)) = some (l, A', r) := e1
          rw [hga] at e2
          cases e2
        | some z2 =>
          obtain ⟨l2, A2, r2⟩ := z2
          have e2 : (match (g (List.replicate n none)).nox A1 with
            | none => none
            | some (l', A2, r) => some (l1 ++ l', A2, r)) = some (l, A', r) := e1
          rw [hga] at e2
          cases e2
          have hcc : ex.c = c := by rw [strB_iff] at hc; exact of_decide_eq_true hc
          refine ⟨ρ, aσ, A, w, s, l1, A1, _, hfa, fun p hp => hl p (List.mem_append_left _ hp), fun ρ' H' cls d g1 w1 er σ' hσ => ?_⟩
          obtain ⟨hcls, _⟩ := er
          rw [hcc] at hcls
          subst hcls
          refine ⟨true, hx, fun _ a _ => ?_, fun h => by cases h⟩
          have y : Yes ((g (List.replicate n none)).nox) A1 (fun o A' => PostO X.K ρ H o A' D) (fun e A' => PostX X.K ρ H e A' E) := ⟨l2, A', r, hga, fun p hp => hl p (List.mem_append_right _ hp), q⟩
          exact ⟨ρ', List.replicate n none, A1, w1, SR.blank hσ, y.nox.mono (fun o A3 q3 => q3.tr g1) fun _ _ h => h.elim⟩
end
end AX

set_option Elab.async false
set_option linter.all false
set_option maxRecDepth 100000
set_option maxHeartbeats 4000000
/-! AX21: dicts whose keys are tuples of any depth: {k: v for ..}, .get. -/
namespace AX
open PySem PySem.Spec PyProof.Rows L2
section
variable {X : Cx} {pins : List (Addr × Obj)} {σ : L2.St} {H : Hp} {s : Shared}
mutual
theorem nk_is (I : Inv X pins σ H s) : ∀ {k : NestedKey} {v : V} {u : Value}, NKs X.K H k v → RelV v u → NestedIs s.heap k u
  | _, _, _, .int i, r => by
    obtain ⟨t, rfl⟩ := r
    exact .int i t
  | _, _, _, .str x, r => by
    obtain ⟨t, rfl⟩ := r
    exact .text x t
  | _, _, _, .tup (a := a) h hs, r => by
    obtain ⟨its, rv, ⟨o, ho, hc, n, hd⟩, _⟩ := I.tuple h
    cases (show _ = Value.ref a from r)
    exact .tup ho hc hd (by simpa using nkl_is I hs rv)
theorem nkl_is (I : Inv X pins σ H s) : ∀ {k : List NestedKey} {v : List V} {u : List Value}, NKl X.K H k v → Vals v u → NestedAll s.heap k u
  | _, _, _, .nil, .nil => .nil
  | _, _, _, .cons h hs, .cons r rs => .cons (nk_is I h r) (nkl_is I hs rs)
end
theorem dn_at {D : Addr} {q : List (NestedKey × Addr × Value)} (I : Inv X pins σ H s) (hD : H D = some (DN X.w D q)) (hs : DNs X.K H D q) : s.heap.DictOfH (nestedKind X.prog X.w) D q := by
  obtain ⟨⟨o, es, ep, h1, h2, h3, h4⟩, _, _⟩ := (show ObjOk X.prog X.w H s.heap D (DN X.w D q) from I.hok D _ hD)
  exact ⟨o, es, ep, h1, h2, h3, h4, fun x hx => ⟨nk_is I (hs.key x hx).1 rfl, (hs.key x hx).2⟩, hs.nd⟩
theorem dn_new {P : Program} {w : World} {H : Hp} {h : Heap} {D : Addr} {q : List (NestedKey × Addr × Value)} (R : h.DictOfH (nestedKind P w) D q) : ObjOk P w H h D (DN w D q) := by
  obtain ⟨o, es, ep, h1, h2, h3, h4, _, _⟩ := R
  exact ⟨⟨o, es, ep, h1, h2, h3, h4⟩, ⟨o, h1⟩, fun g1 g2 z k => by
    obtain ⟨o, es, ep, h1, h2, h3, h4⟩ := z
    exact ⟨o, es, ep, k _ h1, h2, h3, h4⟩⟩
theorem d_setN {E : Value → Shared → Prop} {D b : Addr} {q : List (NestedKey × Addr × Value)} {k : NestedKey} {u r : Value} {Q : Unit → Shared → Prop} (I : Inv X pins σ H s) (hD : H D = some (DN X.w D q)) (hs : DNs X.K H D q)
    (hk : NKs X.K H k (.ref b)) (hd : k.depth ≤ 8) (hn : k ∉ q.map (·.1)) (hz : q.length < sizeLine) (hu : X.A.units + 64 < cLine) (ry : RelV (.ref b) u) (h : ∀ s', Inv X pins σ (upd H D (DN X.w D (q ++ [(k, b, r)]))) s' → Q () s') :
    wpAny (model X.prog X.w) X.A (dictSet D u r) Q E s := by
  cases (show u = Value.ref b from ry)
  refine wpAny_dictSet_heap (knd := nestedKind X.prog X.w) (k := k) (xs := q) (hsz := by omega) (show X.A.units + 8 < cLine by omega) ⟨nk_is I hk rfl, hd⟩ (dn_at I hD hs) fun h' hm hsb => h _ ?_
  have e1 : storedH q k b r = q ++ [(k, b, r)] := storedH_new (by
    cases hq : atKey q k with
    | none => rfl
    | some p =>
      unfold atKey at hq
      cases hf : q.find? (fun x => decide (x.1 = k)) with
      | none => rw [hf] at hq; cases hq
      | some x => exact absurd (List.mem_map.mpr ⟨x, List.mem_of_find?_eq_some hf, of_decide_eq_true (List.find?_some (p := fun x : NestedKey × Addr × Value => decide (x.1 = k)) hf)⟩) hn) b r
  rw [e1] at hm
  have he : ∃ o, h'.get? D = some o := let ⟨o, _, _, h1, _⟩ := hm; ⟨o, h1⟩
  exact I.write (by rw [hD]; exact True.intro) (.inl rfl) (fun c o hc ho => (hsb.2 c hc).trans ho) he (dn_new hm)
end
section
variable {X : Cx}
/-- a turn is over: what it had pinned is let go, the block's own names are wiped -/
theorem turn_over {X' : Cx} {J : List Addr} {h0 : Heap} {τ : L2.St} {G : Hp} {z : Shared} {vs : List Nat} {σ : L2.St} (hw : wipe τ vs = wipe σ vs) (Iz : Inv X' ([] ++ pinsAt J h0) τ G z) (there : ∀ b ∈ J, ∃ o, h0.get? b = some o) :
    Inv X' [] (wipe σ vs) G z ∧ (∀ b ∈ J, ∀ o, h0.get? b = some o → z.heap.get? b = some o) ∧ ∀ b ∈ J, G b = none := by
  have at_ : ∀ b ∈ J, ∀ o, h0.get? b = some o → z.heap.get? b = some o ∧ G b = none := fun b hb o e => by
    have p := Iz.pin (b, o) (List.mem_append_right _ (List.mem_append_right _ (mem_pinsAt hb e)))
    exact ⟨p.1, p.2.1⟩
  refine ⟨(Iz.unpinned (pins := [])).weak (by rw [← hw, wipe_length]) fun j v e => ?_, fun b hb o e => (at_ b hb o e).1, fun b hb => ?_⟩
  · rw [← hw] at e
    exact (wipe_some e).1
  · obtain ⟨o, e⟩ := there b hb
    exact (at_ b hb o e).2
/-- what is asked of the loop that fills the dict at D, at its turn i -/
def turnN (K : PySem.W.Frag) (w : World) (J : It) (g : TG) (tt : TT) (tk tv : TE) (vs : List Nat) (σ : L2.St) (D : Addr) (Q : VK) (W : Nat → Nat → Hp → Prop) : Prop := ∀ i m H, W i m H →
  (J.stop i H ∧ Q (.ref D) H) ∨ (J.go i H ∧ ∃ Nx : Hp → Prop, (∀ H', Nx H' → ∃ m', m' < m ∧ W (i + 1) m' H') ∧ ∀ x H', J.yld i H x H' → g x (wipe σ vs) H' fun σ2 H2 => wipe σ2 vs = wipe σ vs ∧ tt σ2 H2 fun b H3 =>
    if b = true then tk σ2 H3 fun y H4 => tv σ2 H4 fun z H5 => ∃ (q : List (NestedKey × Addr × Value)) (k : NestedKey) (b : Addr), y = .ref b ∧ H5 D = some (DN w D q) ∧ DNs K H5 D q ∧ NKs K H5 k (.ref b) ∧ k.depth ≤ 8 ∧ k ∉ q.map (·.1) ∧ q.length < sizeLine ∧
      ∀ r, RelV z r → Nx (upd H5 D (DN w D (q ++ [(k, b, r)]))) else Nx H3)
/-- the loop of the block that fills the dict at D -/
theorem loopN_runs {z0 : Shared} {G0 : Hp} {bs : Scope} {be : Env} {J : List Addr} {it D : Addr} {Y : It} {tn : Nat → Heap → Prop} {tg iter kx vx : Expr} {ifs : List Expr} {sc' : Scope} {pos : Pos} {g : TG} {tt : TT} {tk tv : TE} {vs : List Nat} {σ : L2.St} {Q : VK} {W : Nat → Nat → Hp → Prop} {R : Result → Shared → Prop}
    (hu : X.A.units + 64 < cLine) (hc : X.calm = true) (T : Turn X.prog X.w X.K tg Y J it tn)
    (pg : PG (X.blk z0 G0 bs be J) tg g) (pt : PTs (X.blk z0 G0 bs be J) ifs tt) (pk : PE (X.blk z0 G0 bs be J) kx tk) (pv : PE (X.blk z0 G0 bs be J) vx tv) (turn : turnN X.K X.w Y g tt tk tv vs σ D Q W)
    (hR : ∀ H' z, Inv (X.blk z0 G0 bs be J) [] (wipe σ vs) H' z → Q (.ref D) H' → R (.ok .next) z) {i m : Nat} {H' : Hp} {z : Shared} (I : Inv (X.blk z0 G0 bs be J) [] (wipe σ vs) H' z) (st : tn i z.heap) (nJ : ∀ b ∈ J, H' b = none) (w : W i m H') :
    codeAny (model X.prog X.w) X.A (.compLoop (.DictComp kx vx [⟨tg, iter, ifs, 0⟩] sc' pos) 0 (.ref it) (.ref D) be) R z := by
  refine compLoop_anyD (fun m z => ∃ i G, Inv (X.blk z0 G0 bs be J) [] (wipe σ vs) G z ∧ tn i z.heap ∧ (∀ b ∈ J, G b = none) ∧ W i m G) ?_ m ⟨i, H', I, st, nJ, w⟩
  clear I st nJ w
  rintro m z ⟨i, G, I, st, nJ, w⟩
  have foot : ∀ {τ : L2.St} {G' : Hp} {y : Shared}, Inv (X.blk z0 G0 bs be J) [] τ G' y → (∀ b ∈ J, G' b = none) → ∀ b ∈ J, FpOk (X.blk z0 G0 bs be J) [] G' b := fun K n b hb => by
    have x := K.ok.exf b hb
    exact ⟨n b hb, x.1, K.ok.exfs b hb, .inl hb, fun _ _ e => x.2 _ _ e, fun p hp => absurd hp (by simp [Cx.blk])⟩
  rcases turn i m G w with ⟨sp, q⟩ | ⟨gg, Nx, hN, step⟩
  · refine thnF (T.done (X.blk z0 G0 bs be J) rfl rfl rfl hc i [] z _ G (fun _ _ => False) I (foot I nJ) st sp) fun r y ⟨er, Iy⟩ => ?_
    subst er
    exact hR G y Iy q
  refine thnF (T.item (X.blk z0 G0 bs be J) rfl rfl rfl hc i [] z _ G (fun _ _ => False) I (foot I nJ) st gg) fun r y ⟨u, er, hy⟩ => ?_
  subst er
  refine thnF hy fun _ y1 ⟨x, G1, I1, r1, yl, st1, n1⟩ => ?_
  have over : ∀ {τ : L2.St} {G' : Hp} {y' : Shared}, wipe τ vs = wipe σ vs → Inv (X.blk z0 G0 bs be J) ([] ++ pinsAt J y1.heap) τ G' y' → Nx G' → ∃ m', m' < m ∧ ∃ i G, Inv (X.blk z0 G0 bs be J) [] (wipe σ vs) G y' ∧ tn i y'.heap ∧ (∀ b ∈ J, G b = none) ∧ W i m' G := fun {τ G' y'} hw K nx => by
    obtain ⟨K1, k2, k3⟩ := turn_over hw K fun b hb => (T.obj _ _ st1 b hb).imp fun _ e => e.1
    obtain ⟨m', lt, w'⟩ := hN G' nx
    exact ⟨m', lt, i + 1, G', K1, T.keep _ _ _ st1 fun b hb o e => k2 b hb o e, k3, w'⟩
  refine thnF (pg.run _ y1 _ G1 x u _ (I1.pinned (foot I1 n1) (T.obj _ _ st1)) r1 (step x G1 yl)) fun _ y2 ⟨τ, G2, I2, hw, q2⟩ => thnF (pt.run _ y2 τ G2 _ I2 q2) fun b y3 ⟨G3, I3, q3⟩ => ?_
  cases b
  · exact over hw I3 q3
  · refine thnF (pk.run _ y3 τ G3 _ I3 q3) fun k4 y4 ⟨_, G4, I4, r4, q4⟩ => thnF (pv.run _ y4 τ G4 _ I4 q4) fun v5 y5 ⟨_, G5, I5, r5, q, k, b, ek, hD, hs, hk, hd, hn, hz, nx⟩ => ?_
    subst ek
    exact d_setN (X := X.blk z0 G0 bs be J) I5 hD hs hk hd hn hz hu r4 fun y6 I6 => over hw I6 (nx _ r5)
/-- {k: v for ..}, the keys tuples of any depth, all unlike -/
theorem pe_dcn {kx vx tg iter : Expr} {ifs : List Expr} {scope : Scope} {own : List (Str × Nat)} {pos : Pos} {wi : TI} {g : TG} {tt : TT} {tk tv : TE} (hu : X.A.units + 64 < cLine) (hc : X.calm = true) (hN : X.N.Nodup) (hi : PI X tg iter wi) (ok : BlkOk X.N X.env.scope scope own)
    (hg : ∀ (s : Shared) (H : Hp) (C : Addr) (cl : List (Str × Addr)) (fp : List Addr), PG (X.blk s H scope (compEnvC scope cl C X.env) fp) tg g) (ht : ∀ (s : Shared) (H : Hp) (C : Addr) (cl : List (Str × Addr)) (fp : List Addr), PTs (X.blk s H scope (compEnvC scope cl C X.env) fp) ifs tt)
    (hk : ∀ (s : Shared) (H : Hp) (C : Addr) (cl : List (Str × Addr)) (fp : List Addr), PE (X.blk s H scope (compEnvC scope cl C X.env) fp) kx tk)
    (he : ∀ (s : Shared) (H : Hp) (C : Addr) (cl : List (Str × Addr)) (fp : List Addr), PE (X.blk s H scope (compEnvC scope cl C X.env) fp) vx tv) (hs : ∀ x, foldedSetIterable iter X.env x = pure x) :
    PE X (.DictComp kx vx [⟨tg, iter, ifs, 0⟩] scope pos) (fun σ H Q => wi σ H fun J H1 => ∀ D, H1 D = none → (D == sysModules) = false → ∃ W : Nat → Nat → Hp → Prop, (∃ m, W 0 m (upd H1 D (DN X.w D []))) ∧ turnN X.K X.w J g tt tk tv (own.map (·.2)) σ D Q W) := by
  refine ⟨fun pins z σ H Q I0 w0 => ?_⟩
  rw [arm_eval_DictComp]
  have seen : ∀ y ∈ scope.names, y.2 = .free → ∃ c, X.env.cells.lookup y.1 = some c := fun y hy e => I0.ok.has _ (ok.free y hy e)
  refine wpAny_comprehension_free (use := none) rfl hs (closure_ok seen) ok.kind (fun y hy e => by rw [ok.uniq y hy, e]) (thn (hi.run pins z σ H _ I0 w0) fun _ _ hx => thn hx fun _ y2 ⟨it, J, tn, Y, G, e, I2, T, st, nJ, w⟩ => ?_)
  subst e
  refine wpAny_newObj_type (newEnv_comp ?_)
  obtain ⟨W, ⟨m, w1⟩, turn⟩ := w y2.heap.objs.size (I2.hok.fresh (Nat.le_refl _)) (beq_eq_false_iff_ne.mpr (Ne.symm (Nat.ne_of_lt I2.big)))
  have hJ : ∀ b ∈ J, b < y2.heap.objs.size := fun b hb => by
    obtain ⟨o, e, _⟩ := T.obj _ _ st b hb
    exact Heap.lt_size e
  -- the new dict
  have I3 : Inv X pins σ (upd G y2.heap.objs.size (DN X.w y2.heap.objs.size [])) { y2 with heap := y2.heap.push { cls := .type "dict", data := .dict #[] } } :=
    I2.laid (t' := y2.toks) (fun b o e => Heap.get?_push_of_some _ e) (Nat.le_refl _) (dn_new (.new _))
  have f3 : ∀ b ∈ J, FpOk X pins (upd G y2.heap.objs.size (DN X.w y2.heap.objs.size [])) b ∧ b < (y2.heap.push { cls := .type "dict", data := .dict #[] }).objs.size := fun b hb => by
    refine ⟨⟨by rw [upd_ne (Nat.ne_of_lt (hJ b hb))]; exact (nJ b hb).1, (nJ b hb).2⟩, ?_⟩
    rw [Heap.size_push]
    exact Nat.lt_succ_of_lt (hJ b hb)
  have I4 := block_start I3 ok hN f3
  have loop := loopN_runs (X := X) (iter := iter) (sc' := scope) (pos := pos) (σ := σ) (Q := Q) hu hc T (hg _ _ _ _ J) (ht _ _ _ _ J) (hk _ _ _ _ J) (he _ _ _ _ J) turn
    (R := compPost (model X.prog X.w) X.A X.xe none (EP X pins σ Q) (.ref y2.heap.objs.size) (y2.heap.push { cls := .type "dict", data := .dict #[] }).objs.size) (fun H' z' K q => ?_) I4
    (T.keep _ _ _ st fun b _ o e => pushCells_keeps _ _ _ _ (Heap.get?_push_of_some _ (Heap.get?_push_of_some _ e))) (fun b hb => (f3 b hb).1.1) w1
  · exact codeAny_compStart_dict loop (T.self X.A 0 _ _ _ (T.keep _ _ _ st fun b _ o e => pushCells_keeps _ _ _ _ (Heap.get?_push_of_some _ (Heap.get?_push_of_some _ e))) loop)
  · -- back in the def
    have I5 : Inv X pins σ H' z' := I3.call' (ch := J) K.os K.base K.hok K.bare fun b hb => ⟨(f3 b hb).1.2.2.2.1, (f3 b hb).1.2.1, (f3 b hb).1.2.2.2.2.1, (f3 b hb).1.2.2.2.2.2⟩
    obtain ⟨mm, hn, _⟩ := K.loc
    have f := I3.fpOk (H' := H') (Nat.le_refl _) K.free
    exact ⟨mm, hn, fun h' sb => ⟨.ref _, H', I5.turned (t' := z'.toks) (fun b o hb e => (sb.2 b hb).trans e) f.1 f.2.1 f.2.2.2.1 f.2.2.2.2.1 f.2.2.2.2.2, rfl, q⟩⟩
end
end AX

set_option Elab.async false
set_option linter.all false
set_option maxRecDepth 100000
set_option maxHeartbeats 4000000
/-! AX22: {k: v for ..} whose keys are tuples of any depth, its run. -/
namespace AX
open PySem PySem.Spec PyProof.Rows L2
mutual
def nkOf : AV → Option NestedKey
  | .int i => some (.num i)
  | .str x => some (.text x)
  | .tup xs => (nksOf xs).map .tup
  | .tud xs => (nksOf xs).map .tup
  | _ => none
def nksOf : List AV → Option (List NestedKey)
  | [] => some []
  | x :: xs => match nkOf x with
    | none => none
    | some k => (nksOf xs).map fun ks => k :: ks
end
section
variable {K : PySem.W.Frag} {ρ : List Addr} {H : Hp}
theorem TudAt.sq {a : Addr} {vs : List V} (h : TudAt H a vs) : SqT K H a vs := let ⟨_, _, q⟩ := h; .inl (.inr ⟨_, q⟩)
mutual
theorem nk_of : ∀ {x : AV} {v : V}, VR K ρ H x v → ∀ {k : NestedKey}, nkOf x = some k → NKs K H k v
  | _, _, .int i, k, e => by unfold nkOf at e; cases e; exact .int i
  | _, _, .str x, k, e => by unfold nkOf at e; cases e; exact .str x
  | _, _, .tup (xs := xs) h hs, k, e => by
    unfold nkOf at e
    cases hk : nksOf xs with
    | none => rw [hk] at e; cases e
    | some ks => rw [hk] at e; cases e; exact .tup h (nks_of hs hk)
  | _, _, .tud (xs := xs) h hs, k, e => by
    unfold nkOf at e
    cases hk : nksOf xs with
    | none => rw [hk] at e; cases e
    | some ks => rw [hk] at e; cases e; exact .tup h.sq (nks_of hs hk)
  | _, _, .non, k, e => by unfold nkOf at e; cases e
  | _, _, .bl _, k, e => by unfold nkOf at e; cases e
  | _, _, .lsf _ _, k, e => by unfold nkOf at e; cases e
  | _, _, .ref _, k, e => by unfold nkOf at e; cases e
  | _, _, .fn _, k, e => by unfold nkOf at e; cases e
  | _, _, .ty _, k, e => by unfold nkOf at e; cases e
theorem nks_of : ∀ {xs : List AV} {vs : List V}, VRs K ρ H xs vs → ∀ {ks : List NestedKey}, nksOf xs = some ks → NKl K H ks vs
  | _, _, .nil, ks, e => by unfold nksOf at e; cases e; exact .nil
  | _, _, .cons (x := x) (xs := xs) h hs, ks, e => by
    unfold nksOf at e
    cases hk : nkOf x with
    | none => rw [hk] at e; cases e
    | some k =>
      rw [hk] at e
      dsimp only at e
      cases hks : nksOf xs with
      | none => rw [hks] at e; cases e
      | some ks => rw [hks] at e; cases e; exact .cons (nk_of h hk) (nks_of hs hks)
end
/-- a key: a tuple, at most eight deep -/
def tupKey : AV → Option NestedKey
  | .tup xs => match nkOf (.tup xs) with
    | some k => match Nat.ble k.depth 8 with
      | true => some k
      | false => none
    | none => none
  | .tud xs => match nkOf (.tud xs) with
    | some k => match Nat.ble k.depth 8 with
      | true => some k
      | false => none
    | none => none
  | _ => none
theorem tupKey_ok {x : AV} {v : V} {k : NestedKey} (r : VR K ρ H x v) (e : tupKey x = some k) : ∃ b, v = .ref b ∧ NKs K H k (.ref b) ∧ k.depth ≤ 8 := by
  have fin : ∀ {o : Option NestedKey}, (match o with
      | some k => match Nat.ble k.depth 8 with
        | true => some k
        | false => none
      | none => none) = some k → o = some k ∧ k.depth ≤ 8 := fun {o} e => by
    cases o with
    | none => cases e
    | some k2 =>
      cases hb : Nat.ble k2.depth 8 with
      | false =>
        have e : (match Nat.ble k2.depth 8 with
          | true => some k2
          | false => none) = some k := e
        rw [hb] at e; cases e
      | true =>
        have e : (match Nat.ble k2.depth 8 with
          | true => some k2
          | false => none) = some k := e
        rw [hb] at e
        cases e
        exact ⟨rfl, Nat.le_of_ble_eq_true hb⟩
  cases r with
  | tup h hs =>
    obtain ⟨e1, e2⟩ := fin e
    exact ⟨_, rfl, nk_of (.tup h hs) e1, e2⟩
  | tud h hs =>
    obtain ⟨e1, e2⟩ := fin e
    exact ⟨_, rfl, nk_of (.tud h hs) e1, e2⟩
  | _ => cases e
end
def newKey (ks : List NestedKey) (k : NestedKey) : Bool := ks.all fun j => match NestedKey.beq j k with
  | true => false
  | false => true
theorem newKey_ok {ks : List NestedKey} {k : NestedKey} (h : newKey ks k = true) : k ∉ ks := fun hm => by
  have q := List.all_eq_true.mp h k hm
  rw [NestedKey.beq_self] at q
  cases q
def loopN (g : Nat → AH → Option (Option AV)) (ag : AV → ASt → AH → Option ASt) (ft : ASt → M Bool) (fk fv : ASt → M AV) (s : ASt) : Nat → Nat → List NestedKey → List AV → M (List NestedKey × List AV)
  | 0, _, _, _ => M.fail
  | n + 1, i, ks, xs => (M.get (g i)).bind fun o => match o with
    | none => M.pure (ks, xs)
    | some x => (M.get (ag x s)).bind fun s1 => (ft s1).nox.bind fun b => match b with
      | true => (fk s1).nox.bind fun y => (fv s1).nox.bind fun z => (M.chk fun _ => szOk (ks.length + 1)).bind fun _ => (M.opt (tupKey y)).bind fun k => (M.chk fun _ => newKey ks k).bind fun _ => loopN g ag ft fk fv s n (i + 1) (ks ++ [k]) (xs ++ [z])
      | false => loopN g ag ft fk fv s n (i + 1) ks xs
def aDcN (w : World) (fi : ASt → M AIt) (ag : AV → ASt → AH → Option ASt) (ft : ASt → M Bool) (fk fv : ASt → M AV) (vs : List Nat) : ASt → M AV := fun aσ => (fi aσ).bind fun ng => (loopN ng.2 ag ft fk fv (wipeA aσ vs) ng.1 0 [] []).bind fun p => M.lift (fun A => some (.ref A.length, A ++ [.dT w p.1 p.2]))
theorem tx_ofN {H : Hp} {D : Addr} {w : World} {q : List (NestedKey × Addr × Value)} {u : HO} (hD : H D = some (DN w D q)) : Tx H (upd H D u) := tx_upd (fun xs r => by
  rcases r with r | ⟨o, r⟩ <;> rw [hD] at r <;> cases r) (fun o e => by rw [hD] at e; cases e; exact imm_dn)
section
variable {K : PySem.W.Frag} {ρ ρ' : List Addr} {H H' : Hp} {w : World} {D b : Addr} {q : List (NestedKey × Addr × Value)}
theorem DNs.tx (h : DNs K H D q) (t : Tx H H') : DNs K H' D q := ⟨h.nd, fun x hx => ⟨(h.key x hx).1.mono t, (h.key x hx).2⟩, h.sys, h.len⟩
theorem DNs.push (h : DNs K H D q) {k : NestedKey} {r : Value} (hk : NKs K H k (.ref b)) (hd : k.depth ≤ 8) (hn : k ∉ q.map (·.1)) (hz : q.length < sizeLine) : DNs K H D (q ++ [(k, b, r)]) := by
  refine ⟨?_, fun x hx => ?_, h.sys, by rw [List.length_append]; exact hz⟩
  · rw [List.map_append, List.nodup_append]
    refine ⟨h.nd, by simp, fun x hx y hy e => ?_⟩
    have : y = k := by simpa using hy
    subst this
    subst e
    exact hn hx
  · rcases List.mem_append.mp hx with z | z
    · exact h.key x z
    · have : x = (k, b, r) := by simpa using z
      subst this
      exact ⟨hk, hd⟩
theorem Vals.snocs : ∀ {xs : List V} {us : List Value} {v : V} {u : Value}, Vals xs us → RelV v u → Vals (xs ++ [v]) (us ++ [u])
  | _, _, _, _, .nil, r => .cons r .nil
  | _, _, _, _, .cons r rs, r' => .cons r (Vals.snocs rs r')
/-- between two turns -/
def LpN (K : PySem.W.Frag) (w : World) (ρ : List Addr) (H : Hp) (D : Addr) (n : List NestedKey → List AV → AH → Prop) (H2 : Hp) : Prop :=
  ∃ ρ2 A2 ks xs q kvs, Grow ρ H ρ2 H2 ∧ Wd K ρ2 H2 A2 ∧ H2 D = some (DN w D q) ∧ D ∉ ρ2 ∧ q.map (·.1) = ks ∧ DNs K H2 D q ∧ Vals kvs (q.map (·.2.2)) ∧ VRs K ρ2 H2 xs kvs ∧ n ks xs A2
end
theorem dcn_sound {K : PySem.W.Frag} {E : XK} {w0 : World} {fi : ASt → M AIt} {t : TG} {ag : AV → ASt → AH → Option ASt} {ft : ASt → M Bool} {fk fv : ASt → M AV} {vs : List Nat} (hg : TgR K t ag vs) : ∀ σ H Q, S K E (aDcN w0 fi ag ft fk fv vs) σ H Q →
    SI K E fi σ H fun J H1 => ∀ D, H1 D = none → (D == sysModules) = false → ∃ W : Nat → Nat → Hp → Prop, (∃ m, W 0 m (upd H1 D (DN w0 D []))) ∧ turnN K w0 J t (ST K EF ft) (S K EF fk) (S K EF fv) vs σ D Q W :=
  fun σ H Q ⟨ρ, aσ, A, w, s, y⟩ => ⟨ρ, aσ, A, w, s, y.bind.mono (fun ng A1 y1 ρ1 H1 J g1 w1 it D hD hsys => by
    obtain ⟨w2, g2⟩ := w1.out (u := DN w0 D []) hD
    refine ⟨fun i m H2 => LpN K w0 ρ1 H1 D (fun ks xs A2 => Yes (loopN ng.2 ag ft fk fv (wipeA aσ vs) m i ks xs) A2 (fun p A' => Yes (M.lift (fun A => some (.ref A.length, A ++ [.dT w0 p.1 p.2]))) A' (fun x A' => Post K (VR K) ρ H x A' Q) (fun e A' => PostX K ρ H e A' E)) (fun e A' => PostX K ρ H e A' E)) H2, ?_, ?_⟩
    · refine ⟨ng.1, ρ1, A1, [], [], [], [], g2, w2, upd_same, fun hm => ?_, rfl, ⟨.nil, fun x hx => (by cases hx), hsys, Nat.zero_le _⟩, .nil, .nil, y1.bind⟩
      obtain ⟨u, h, _⟩ := w1.own hm
      rw [hD] at h; cases h
    · rintro i m H2 ⟨ρ2, A2, ks, xs, q, kvs, g3, w3, hDl, hDn, hk, hds, rv, ra, y2⟩
      have g13 := g1.trans g3
      cases m with
      | zero => exact (show Yes M.fail A2 _ _ from y2).fail
      | succ m =>
        obtain ⟨o, ho, y3⟩ := (show Yes ((M.get (ng.2 i)).bind _) A2 _ _ from y2).bind.get
        have hit := it ρ2 H2 A2 i g3 w3
        rw [ho] at hit
        cases o with
        | none =>
          refine .inl ⟨hit, ?_⟩
          obtain ⟨z, A', hz, yq⟩ := y3.pure.lift
          cases hz
          exact yq (ρ2 ++ [D]) H2 (.ref D) (g13.take (g1.dom D hD)) (w3.take hDn ⟨q, kvs, hDl, hk, hds, rv, ra.mono (Tx.refl _) [D]⟩) (.ref (by rw [← w3.len]; simp))
        | some x =>
          refine .inr ⟨hit.1, fun H' => ∃ m', m' < m + 1 ∧ LpN K w0 ρ1 H1 D (fun ks xs A2 => Yes (loopN ng.2 ag ft fk fv (wipeA aσ vs) m' (i + 1) ks xs) A2 (fun p A' => Yes (M.lift (fun A => some (.ref A.length, A ++ [.dT w0 p.1 p.2]))) A' (fun x A' => Post K (VR K) ρ H x A' Q) (fun e A' => PostX K ρ H e A' E)) (fun e A' => PostX K ρ H e A' E)) H', fun H' h => h, fun v H' yl => ?_⟩
          obtain ⟨g4, w4, r4⟩ := hit.2 v H' yl
          obtain ⟨s1, hs1, y4⟩ := y3.bind.get
          have hD4 := g4.keep D _ hDl hDn
          refine hg ρ2 H' A2 x v (wipeA aσ vs) (wipe σ vs) s1 _ w4 r4 ((s.grow (g13.trans g4)).wipe vs) hs1 fun σ2 sr2 ew => ⟨by rw [ew]; exact wipe_idem σ vs, ?_⟩
          refine ⟨ρ2, s1, A2, w4, sr2, y4.bind.nox.mono (fun b A5 y5 ρ5 H5 b' g5 w5 eb => ?_) fun _ _ h => noX h⟩
          cases eb
          have hD5 := g5.keep D _ hD4 hDn
          have hDn5 : D ∉ ρ5 := g5.notin hD4 hDn
          cases b with
          | true =>
            rw [if_pos rfl]
            refine ⟨ρ5, s1, A5, w5, sr2.grow g5, y5.bind.nox.mono (fun yk A6 y6 ρ6 H6 yk' g6 w6 r6 => ?_) fun _ _ h => noX h⟩
            have hD6 := g6.keep D _ hD5 hDn5
            have hDn6 : D ∉ ρ6 := g6.notin hD5 hDn5
            refine ⟨ρ6, s1, A6, w6, (sr2.grow g5).grow g6, y6.bind.nox.mono (fun z A7 y7 ρ7 H7 z' g7 w7 r7 => ?_) fun _ _ h => noX h⟩
            have hD7 := g7.keep D _ hD6 hDn6
            have hDn7 : D ∉ ρ7 := g7.notin hD6 hDn6
            obtain ⟨hsz, y8⟩ := y7.bind.chk
            obtain ⟨k, hkey, y9⟩ := y8.bind.opt
            obtain ⟨hnew, y10⟩ := y9.bind.chk
            have gg := ((g4.trans g5).trans g6).trans g7
            have hl : q.length < sizeLine := by
              have e1 : q.length = (q.map (·.1)).length := by simp
              rw [e1, hk]
              exact Evl.sz_lt (Nat.le_of_ble_eq_true hsz)
            obtain ⟨b, eb, hnk, hdp⟩ := tupKey_ok (g7.vr r6) hkey
            have hnm : k ∉ q.map (·.1) := by rw [hk]; exact newKey_ok hnew
            refine ⟨q, k, b, eb, hD7, hds.tx gg.tx, hnk, hdp, hnm, hl, fun r rr => ?_⟩
            have tx : Tx H7 (upd H7 D (DN w0 D (q ++ [(k, b, r)]))) := tx_ofN hD7
            refine ⟨m, Nat.lt_succ_self m, ρ7, A7, ks ++ [k], xs ++ [z], _, kvs ++ [z'], (g3.trans gg).mut hD tx, w7.beside hDn7 tx, upd_same, hDn7, by rw [List.map_append, hk]; rfl, ((hds.tx gg.tx).push hnk hdp hnm hl).tx tx, ?_, ((gg.vrs ra).snoc r7).tx tx, y10⟩
            rw [List.map_append]
            exact Vals.snocs rv rr
          | false =>
            rw [if_neg Bool.false_ne_true]
            exact ⟨m, Nat.lt_succ_self m, ρ5, A5, ks, xs, q, kvs, g3.trans (g4.trans g5), w5, hD5, hDn5, hk, hds.tx (g4.trans g5).tx, rv, (g4.trans g5).vrs ra, y5⟩) fun _ _ q => q⟩
section
variable {X : Cx} {E : XK} {kx vx tg iter : Expr} {ifs : List Expr} {scope : Scope} {own : List (Str × Nat)} {pos : Pos} {fi : ASt → M AIt} {t : TG} {ag : AV → ASt → AH → Option ASt} {ft : ASt → M Bool} {fk fv : ASt → M AV} {vs : List Nat}
theorem a_dcN (hu : X.A.units + 64 < cLine) (hc : X.calm = true) (hN : X.N.Nodup) (hi : PI X tg iter (SI X.K E fi)) (ok : BlkOk X.N X.env.scope scope own) (htg : TgR X.K t ag vs)
    (hg : ∀ (s : Shared) (H : Hp) (C : Addr) (cl : List (Str × Addr)) (fp : List Addr), PG (X.blk s H scope (compEnvC scope cl C X.env) fp) tg t) (ht : ∀ (s : Shared) (H : Hp) (C : Addr) (cl : List (Str × Addr)) (fp : List Addr), PTs (X.blk s H scope (compEnvC scope cl C X.env) fp) ifs (ST X.K EF ft))
    (hk : ∀ (s : Shared) (H : Hp) (C : Addr) (cl : List (Str × Addr)) (fp : List Addr), PE (X.blk s H scope (compEnvC scope cl C X.env) fp) kx (S X.K EF fk))
    (he : ∀ (s : Shared) (H : Hp) (C : Addr) (cl : List (Str × Addr)) (fp : List Addr), PE (X.blk s H scope (compEnvC scope cl C X.env) fp) vx (S X.K EF fv)) (hs : ∀ x, foldedSetIterable iter X.env x = pure x := by intro _; rfl) (hv : own.map (·.2) = vs := by rfl) :
    PE X (.DictComp kx vx [⟨tg, iter, ifs, 0⟩] scope pos) (S X.K E (aDcN X.w fi ag ft fk fv vs)) := by subst hv; exact wE (pe_dcn hu hc hN hi ok hg ht hk he hs) (dcn_sound htg)
end
end AX

set_option Elab.async false
set_option linter.all false
set_option maxRecDepth 100000
set_option maxHeartbeats 4000000
/-! AX23: d.get(k, x) of such a dict. -/
namespace AX
open PySem PySem.Spec PyProof.Rows L2
def lookN {α : Type} : List NestedKey → List α → NestedKey → α → α
  | j :: ks, v :: vs, k, z => match NestedKey.beq j k with
    | true => v
    | false => lookN ks vs k z
  | _, _, _, z => z
theorem lookN_rel {k : NestedKey} {z : V} {r : Value} (rz : RelV z r) : ∀ {q : List (NestedKey × Addr × Value)} {kvs : List V}, Vals kvs (q.map (·.2.2)) → RelV (lookN (q.map (·.1)) kvs k z) ((valueAt (pairsH q) k).getD r)
  | [], _, .nil => rz
  | (j, b, u) :: q, v :: kvs, .cons rv rs => by
    have ih := lookN_rel (k := k) rz rs
    show RelV (match NestedKey.beq j k with
      | true => v
      | false => lookN (q.map (·.1)) kvs k z) ((valueAt ((j, u) :: pairsH q) k).getD r)
    unfold valueAt at ih ⊢
    rw [List.find?_cons]
    cases hb : NestedKey.beq j k with
    | true =>
      rw [show decide ((j, u).1 = k) = true from by rw [NestedKey.decide_eq]; exact hb]
      exact rv
    | false =>
      rw [show decide ((j, u).1 = k) = false from by rw [NestedKey.decide_eq]; exact hb]
      exact ih
theorem lookN_vr {K : PySem.W.Frag} {ρ : List Addr} {H : Hp} {k : NestedKey} {x : AV} {z : V} (rz : VR K ρ H x z) : ∀ {ks : List NestedKey} {xs : List AV} {vs : List V}, VRs K ρ H xs vs → VR K ρ H (lookN ks xs k x) (lookN ks vs k z)
  | [], _, _, _ => rz
  | _ :: _, _, _, .nil => rz
  | j :: ks, _, _, .cons h hs => by
    unfold lookN
    cases NestedKey.beq j k with
    | true => exact h
    | false => exact lookN_vr rz hs
section
variable {X : Cx} {o e f : Expr} {apos cpos : Pos} {to te tf : TE}
theorem pe_nget (hu : X.A.units + 64 < cLine) (ho : PE X o to) (he : PE X e te) (hf : PE X f tf) (m : M2 X o "get" apos e f cpos) : PE X (.Call (.Attribute o "get" apos) [e, f] [] cpos)
    (fun σ H Q => to σ H fun x H1 => ∃ a q, x = .ref a ∧ H1 a = some (DN X.w a q) ∧ DNs X.K H1 a q ∧ te σ H1 fun y H2 => tf σ H2 fun z H3 => ∃ (q : List (NestedKey × Addr × Value)) (b : Addr) (k : NestedKey) (kvs : List V),
      H3 a = some (DN X.w a q) ∧ DNs X.K H3 a q ∧ y = .ref b ∧ NKs X.K H3 k (.ref b) ∧ k.depth ≤ 8 ∧ Vals kvs (q.map (·.2.2)) ∧ Q (lookN (q.map (·.1)) kvs k z) H3) := by
  refine ⟨fun pins s σ H Q I h => ?_⟩
  refine wpAny_Call_method m.base m.few m.line PySem.F.plainAttrs_dict PySem.F.slot_dict_get PySem.F.type_dict_get (thn (ho.run pins s σ H _ I h) fun u s1 ⟨x, H1, I1, rx, a, q, ex, hD, hs, q1⟩ => ?_)
  subst ex
  obtain rfl : u = Value.ref a := rx
  have d1 := dn_at I1 hD hs
  refine ⟨d1.typeIs, fun b hb => ?_, ?_⟩
  · cases hb
    obtain ⟨ob, _, _, h1, h2, _⟩ := d1
    exact ⟨ob, h1, h2.2.1⟩
  rw [m.trees]
  refine Calls.callWith_builtin rfl (Calls.evalArgs_plain (Calls.spliced_cons (thn (he.run pins s1 σ H1 _ I1 q1) fun iv s2 ⟨y, H2, I2, ry, q2⟩ =>
    Calls.spliced_cons (thn (hf.run pins s2 σ H2 _ I2 q2) fun fv s3 ⟨z, H3, I3, rz, q', b, k, kvs, hD3, hs3, ey, hk, hd, rv, q3⟩ => Calls.spliced_nil ?_))))
  subst ey
  cases (show iv = Value.ref b from ry)
  exact getOr_keyed (knd := nestedKind X.prog X.w) (k := k) (show X.A.units + 1 + 8 < cLine by omega) ⟨nk_is I3 hk rfl, hd⟩ hs3.sys ⟨_, dn_at I3 hD3 hs3, rfl⟩ ⟨_, H3, I3.tok _, lookN_rel rz rv, q3⟩
end
theorem Yes.need {p : Prop} {A : AH} {k : Unit → AH → Prop} {x : AExc → AH → Prop} (h : Yes (M.need p) A k x) : p ∧ k () A := by
  obtain ⟨l, A', r, e, hl, q⟩ := h
  unfold M.need at e
  cases e
  exact ⟨hl p List.mem_cons_self, q⟩
def tabOfA (i : Nat) : AH → Option (World × List NestedKey × List AV) := fun A => match A[i]? with
  | some (.dT w ks xs) => some (w, ks, xs)
  | _ => none
theorem tabOfA_ok {i : Nat} {A : AH} {w : World} {ks : List NestedKey} {xs : List AV} (h : tabOfA i A = some (w, ks, xs)) : A[i]? = some (.dT w ks xs) := by
  unfold tabOfA at h
  split at h
  · cases h
    assumption
  · cases h
/-- what is found; numbers stay numbers, though the key be not known -/
def lookA (ks : List NestedKey) (xs : List AV) (k : NestedKey) (z : AV) : AV := match intsL xs, z with
  | some is, .int d => .int (lookN ks is k d)
  | _, _ => lookN ks xs k z
theorem intsL_map : ∀ {xs : List AV} {is : List Int}, intsL xs = some is → xs = is.map .int
  | [], _, h => by
    cases h
    rfl
  | .int b :: xs, is, h => by
    have h2 : (match intsL xs with
      | some bs => some (b :: bs)
      | none => none) = some is := h
    cases e : intsL xs with
    | none => rw [e] at h2; cases h2
    | some bs =>
      rw [e] at h2
      cases h2
      rw [intsL_map e]
      rfl
  | .non :: _, _, h => by cases h
  | .bl _ :: _, _, h => by cases h
  | .str _ :: _, _, h => by cases h
  | .tup _ :: _, _, h => by cases h
  | .tud _ :: _, _, h => by cases h
  | .lsf _ :: _, _, h => by cases h
  | .ref _ :: _, _, h => by cases h
  | .fn _ :: _, _, h => by cases h
  | .ty _ :: _, _, h => by cases h
theorem lookN_int {k : NestedKey} {d : Int} : ∀ (ks : List NestedKey) (is : List Int), lookN ks (is.map AV.int) k (.int d) = .int (lookN ks is k d)
  | [], _ => rfl
  | _ :: _, [] => rfl
  | j :: ks, i :: is => by
    have ih := lookN_int (k := k) (d := d) ks is
    show (match NestedKey.beq j k with
      | true => AV.int i
      | false => lookN ks (is.map AV.int) k (.int d)) = .int (match NestedKey.beq j k with
      | true => i
      | false => lookN ks is k d)
    cases NestedKey.beq j k with
    | true => rfl
    | false => exact ih
theorem lookA_eq (ks : List NestedKey) (xs : List AV) (k : NestedKey) (z : AV) : lookA ks xs k z = lookN ks xs k z := by
  unfold lookA
  split
  · rename_i h
    rw [intsL_map h, lookN_int]
  · rfl
/-- its run -/
def aNGet (w : World) (fo fe ff : ASt → M AV) : ASt → M AV := fun aσ => (fo aσ).bind fun x => match x with
  | .ref i => (M.get (tabOfA i)).bind fun p => (M.need (p.1 = w)).bind fun _ => (fe aσ).bind fun y => (ff aσ).bind fun z => (M.opt (tupKey y)).bind fun k => (M.get (tabOfA i)).bind fun p => (M.need (p.1 = w)).bind fun _ => M.pure (lookA p.2.1 p.2.2 k z)
  | _ => M.fail
theorem a_nget {X : Cx} {E : XK} {o e f : Expr} {apos cpos : Pos} {fo fe ff : ASt → M AV} (hu : X.A.units + 64 < cLine) (ho : PE X o (S X.K E fo)) (he : PE X e (S X.K E fe)) (hf : PE X f (S X.K E ff)) (m : M2 X o "get" apos e f cpos) :
    PE X (.Call (.Attribute o "get" apos) [e, f] [] cpos) (S X.K E (aNGet X.w fo fe ff)) :=
  wE (pe_nget hu ho he hf m) fun σ H Q ⟨ρ, aσ, A, w, s, y⟩ => SX.mk w s y.bind fun x A1 ρ1 H1 v y1 g1 w1 r1 => by
    cases r1 with
    | @ref i a hi =>
      obtain ⟨⟨w', ks, xs⟩, ht, y2⟩ := y1.bind.get
      obtain ⟨hw, y3⟩ := y2.bind.need
      have hw : w' = X.w := hw
      subst hw
      obtain ⟨q, kvs, hD, hk, hds, rv, ra⟩ := w1.obj hi (tabOfA_ok ht)
      refine ⟨a, q, rfl, hD, hds, ?_⟩
      refine SX.mk w1 (s.grow g1) (y3.bind.mono (fun _ _ q => q) fun _ _ q => PostX.tr q g1) fun yv A2 ρ2 H2 vy y4 g2 w2 r2 => ?_
      refine SX.mk w2 ((s.grow g1).grow g2) (y4.bind.mono (fun _ _ q => q) fun _ _ q => PostX.tr q (g1.trans g2)) fun zv A3 ρ3 H3 vz y5 g3 w3 r3 => ?_
      obtain ⟨k, hkey, y6⟩ := y5.bind.opt
      obtain ⟨⟨w', ks', xs'⟩, ht', y7⟩ := y6.bind.get
      obtain ⟨hw', y8⟩ := y7.bind.need
      have hw' : w' = X.w := hw'
      subst hw'
      obtain ⟨n2, e2, _⟩ := g2.pre
      obtain ⟨n3, e3, _⟩ := g3.pre
      have hi3 : ρ3[i]? = some a := by
        rw [e3, e2, List.append_assoc, List.getElem?_append_left (List.getElem?_eq_some_iff.mp hi).1]
        exact hi
      obtain ⟨q', kvs', hD', hk', hds', rv', ra'⟩ := w3.obj hi3 (tabOfA_ok ht')
      obtain ⟨b, eb, hnk, hdp⟩ := tupKey_ok (g3.vr r2) hkey
      subst hk'
      exact ⟨q', b, k, kvs', hD', hds', eb, hnk, hdp, rv', (by rw [lookA_eq] at y8; exact y8.pure ρ3 H3 _ ((g1.trans g2).trans g3) w3 (lookN_vr r3 ra'))⟩
    | _ => exact (show Yes M.fail A1 _ _ from y1).fail
end AX

set_option Elab.async false
set_option linter.all false
set_option maxRecDepth 100000
set_option maxHeartbeats 4000000
/-! AX24: a class whose __init__ has one default, None. -/
namespace AX
open PySem PySem.Spec PyProof.Rows L2
variable {P : Program} {w : World} {K : PySem.W.Frag} {mg : Str → Option Value} {base : Heap}
theorem mak_mkD {c qual : Str} {params : Arguments} {body : List Stmt} {sc : Scope} {N ps : List Str} {k m : Nat} {f : ASt → M AOut} {fa : Addr} (hm : Mk K (He.ga K c) fa) (hg : mg c = some (.ref (He.ga K c))) (F : ∃ fd, FunD K "__init__" qual params body sc [.non] [] fa fd) (S : FnScope N ps sc)
    (hn : m + 1 = ps.length)
    (hbi : ∀ (T : Addr) (kV doc pm : Value) (an : Option Addr) (cdv ct : Value) (us its : List Value), us.length = m → its.length = 1 →
      ∃ k, bindArgs (PySem.W.fnOf "__init__" qual params body sc (.ref T) kV doc pm an cdv ct) ⟨us, []⟩ = seqItems? (.ref T) >>= k ∧ k (some its.toArray) = pure (ps.zip (us ++ its)))
    (hb : BodyOk P w K mg base k N qual sc fa body f) : MakA P w K mg base (k + 1) c ps.length [.non] (runB N.length f) := by
  obtain ⟨fd, F⟩ := F
  obtain ⟨ds, hv, b⟩ := F.binds1 (ps := ps) m 0 (by simp) (by simpa using hn) (fun T kV doc pm an cdv ct us its h1 h2 => hbi T kV doc pm an cdv ct us its h1 (by simpa using h2))
  exact ⟨fa, fd, ps, _, _, hm, fn_mk F S hb, hg, b, hv, fun _ _ => .cons .non .nil⟩
end AX

set_option Elab.async false
set_option linter.all false
set_option maxRecDepth 100000
set_option maxHeartbeats 4000000
/-! AX25: defs that are called where no repr is under way. -/
namespace AX
open PySem PySem.Spec PyProof.Rows PySem.W PySem.Calls L2
/-- as FnOk, where no guard is known to stand around -/
structure FnG (P : Program) (w : World) (K : PySem.W.Frag) (mg : Str → Option Value) (base : Heap) (CX : CXT) (k : Nat) (f : Addr) (fd : FuncData) (ps : List Str) (sp : Sp) : Prop where
  len : ∀ vs H Q E, sp vs H Q E → vs.length = ps.length
  run : ∀ (A : Around) (outer : List Env) (s : Shared) (H : Hp) (args : Args) (us : List Value) (vs : List V) (Q : VK) (E : XK), A.guards = some [] → Room k A → Env0 P w K mg base A outer s H → BindsTo s fd args (ps.zip us) → Vals vs us → sp vs H Q E →
    codeAny (model P w) A (.call (.ref f) args) (CR CX outer P w H s Q E) s
section
variable {CX : CXT} {P : Program} {w : World} {K : PySem.W.Frag} {mg : Str → Option Value} {base : Heap} {k : Nat} {f : Addr} {fd : FuncData} {N ps : List Str} {sp : Sp} {x qual : Str} {params : Arguments} {body : List Stmt} {scope : Scope} {dvs : List V} {kws : List (Str × V)}
theorem guards_deeper {A : Around} {env : Env} (h : A.guards = some []) : (A.deeper env).guards = some [] := by
  obtain ⟨d, fr, gs, hd, u⟩ := A
  simp only at h
  subst h
  rfl
theorem fnG_of (F : FunD K x qual params body scope dvs kws f fd) (S : FnScope N ps scope) (len : ∀ vs H Q E, sp vs H Q E → vs.length = ps.length)
    (hb : ∀ (cdv : Value) (A : Around) (outer : List Env) (s : Shared) (H : Hp) (vs : List V) (Q : VK) (E : XK), (A.deeper (envOfC qual scope s.heap.objs.size f cdv)).guards = some [] → Room k (A.deeper (envOfC qual scope s.heap.objs.size f cdv)) → sp vs H Q E →
      ∃ t, PSs (cxOf CX P w K mg base N qual scope f cdv A outer s H E) body t ∧ t { nx := fun _ H' => Q .non H', rt := Q } (L2.start N vs) H) : FnG P w K mg base CX (k + 1) f fd ps sp := by
  obtain ⟨oc, od, dV, kV, doc, pm, an, cdv, ct, osl, rfl, lk, hcd, _, _⟩ := F.ex
  refine ⟨len, fun A outer s H args us vs Q E hg hr e0 bd rv q => ?_⟩
  have inK : K.In s.heap := e0.mod.kin.keeps fun b o e => (e0.bs b o e).1
  have par : ∀ y ∈ ps.zip us, scope.names.lookup y.1 = some .local ∨ (scope.names.lookup y.1 = some .cell ∧ ((cellsFrom (s.heap.objs.size + 1) scope.names []).lookup y.1).isSome = true) := fun y hy =>
    (S.par y.1 (List.of_mem_zip (show (y.1, y.2) ∈ ps.zip us from hy)).1).imp id fun c => ⟨c, PySem.W.cellsFrom_some _ _ _ (.inl c)⟩
  refine codeAny_call_function hr.depth (inK _ _ lk) rfl S.co S.gen rfl (PySem.W.codeRec_of inK hcd) (bd _ _ _ _ (wpAny_newFunctionEnv_cells S.kind par fun env he s1 y => ?_))
  subst he
  obtain ⟨t, ht, qt⟩ := hb cdv A outer s H vs Q E (guards_deeper hg) (hr.deeper _) q
  refine ⟨(e0.mod.nolimit.keeps fun b o e => (e0.bs b o e).1).keeps y.toInCall.keep, codeAny_func (wpAny_mono (ht.run [] s1 (L2.start N vs) H _ (inv_start S hr.hd e0 (len _ _ _ _ q) rv y) qt) (fun fl z hz => ?_) fun _ _ hz => hz)⟩
  have out : ∀ {τ : L2.St} {G : Hp} {v : V} {u : Value}, Inv (cxOf CX P w K mg base N qual scope f cdv A outer s H E) [] τ G z → RelV v u → Q v G → CE outer P w H s Q u z := fun J r qv => ⟨_, _, J.os, J.bare, J.base, J.hok, r, qv⟩
  cases fl with
  | ret u => exact let ⟨v, _, _, J, r, qv⟩ := hz; out J r qv
  | next => exact let ⟨_, _, J, qv⟩ := hz; out (v := V.non) (u := Value.none) J rfl qv
  | brk => exact let ⟨_, _, _, qv⟩ := hz; False.elim qv
  | cont => exact let ⟨_, _, _, qv⟩ := hz; False.elim qv
end
section
variable {X : Cx} {CX : CXT} {k : Nat} {f : Addr} {fd : FuncData} {ps : List Str} {sp : Sp} {E : XK} {x : Str} {e : Expr} {es : List Expr} {t : TA} {p pos : Pos}
theorem pe_callG (F : FnG X.prog X.w X.K X.mg X.base CX k f fd ps sp) (hgd : X.A.guards = some []) (hr : Room k X.A) (hg : Gl X x) (hm : X.mg x = some (.ref f)) (hk : PySem.W.keepIn X.K (.ref f) = true) (hb : L2.Binds X.K fd ps []) (hx : Passes CX X E)
    (ha : PA X (e :: es) t) (hdb : (x == ("__debug__" : Str)) = false := by decide) (he : starEach (e :: es) X.env = (false, eval e X.env) :: starEach es X.env := by rfl) (hpl : (backTo pos (starEach es X.env)).any (·.1) = false := by rfl) :
    PE X (.Call (.Name x p) (e :: es) [] pos) (tCall sp [] E t) := by
  refine ⟨fun pins s σ H Q I h => wpAny_Call_Name_kw (ld_glob I hg hm (PySem.W.callWith_K (h₀ := X.base) I.ok.mod.kin hk (thn (ha.run pos pins s σ H _ I h) fun us s1 ⟨vs, H1, I1, r, q⟩ => ⟨I1.kIn, ?_⟩) he hpl) hdb)⟩
  have q : sp (vs ++ []) H1 Q E := q
  rw [List.append_nil] at q
  rw [List.nil_append]
  have hl : (us ++ []).length = ps.length := by rw [List.append_nil, ← r.length]; exact F.len _ _ _ _ q
  have bd := hb s1 us I1.kIn hl
  rw [List.append_nil] at bd
  refine wpAny_call (codeAny_mono (F.run X.A X.stack s1 H1 ⟨us, []⟩ us vs Q E hgd hr I1.env0 bd r q) fun o s2 ho => ?_)
  cases o with
  | error er => exact hx pins σ H1 s1 er s2 I1 ho
  | ok fl => cases fl with
    | ret u => exact I1.after ho
    | next => exact False.elim ho
    | brk => exact False.elim ho
    | cont => exact False.elim ho
end
end AX

set_option Elab.async false
set_option linter.all false
set_option maxRecDepth 100000
set_option maxHeartbeats 4000000
/-! AX26: repr of data, where no repr is under way; contracts of such defs. -/
namespace AX
open PySem PySem.Spec PyProof.Rows L2
def reprOk (d : PyData) : Bool := match d with
  | .list _ => (d.showable && !d.hasDict) && (Nat.ble d.depth 40 && Nat.ble d.shown.length 100000)
  | _ => false
def rRepr (K : PySem.W.Frag) : List V → Hp → VK → Prop := fun xs H Q => ∃ x d, xs = [x] ∧ Dp K H x d ∧ reprOk d = true ∧ Q (.str d.shown) H
theorem cr_repr {X : Cx} (hg : X.A.guards = some []) (hu : X.A.units + 64 < cLine) : CallR X (.builtin "repr") (rRepr X.K) := by
  intro pins s σ H xs us Q I r h
  obtain ⟨x, d, rfl, hd, ok, q⟩ := h
  obtain ⟨u, rfl, ru⟩ := vals1 r
  obtain ⟨as, rd⟩ := Dp.reads I d x u hd ru
  cases d with
  | list ds =>
    have ok : ((PyData.showable (.list ds) && !PyData.hasDict (.list ds)) && (Nat.ble (PyData.depth (.list ds)) 40 && Nat.ble (PyData.shown (.list ds)).length 100000)) = true := ok
    obtain ⟨h1, h2⟩ := He.ba ok
    obtain ⟨h3, h4⟩ := He.ba h1
    obtain ⟨h5, h6⟩ := He.ba h2
    have h4 : PyData.hasDict (.list ds) = false := by
      cases hh : PyData.hasDict (.list ds) with
      | false => rfl
      | true => rw [hh] at h4; cases h4
    have h5 := Nat.le_of_ble_eq_true h5
    have h6 := Nat.le_of_ble_eq_true h6
    obtain ⟨a, rfl⟩ : ∃ a, u = .ref a := by
      cases rd
      exact ⟨_, rfl⟩
    refine PySem.repr_of_reads' rd h3 (PyData.noDict_hsm h4) hg (by omega) (fun _ _ e => e) (fun h' u tk hk => ⟨.str _, H, I.kept (t' := tk) hk, ⟨u, rfl⟩, q⟩) (by rw [sizeLine_eq]; omega)
  | _ => cases ok
def gRepr : GL := fun xs A => match xs with
  | [x] => match toD A x with
    | some d => match reprOk d with
      | true => some (.str d.shown, A)
      | false => none
    | none => none
  | _ => none
theorem r_repr {K : PySem.W.Frag} : RLA K (rRepr K) gRepr := by
  intro ρ H A xs vs z A' Q w r e q
  unfold gRepr at e
  split at e
  · rename_i x
    cases hd : toD A x with
    | none => rw [hd] at e; cases e
    | some d =>
      rw [hd] at e
      dsimp only at e
      cases ho : reprOk d with
      | false => rw [ho] at e; cases e
      | true =>
        rw [ho] at e
        cases e
        obtain ⟨v, rfl, r1⟩ := r.l1
        exact ⟨v, d, rfl, w.dp r1 hd, ho, fin0 w (.str _) q⟩
  · cases e
end AX

set_option Elab.async false
set_option linter.all false
set_option maxRecDepth 100000
set_option maxHeartbeats 4000000
/-! AX27: contracts of defs that are called where no repr is under way. -/
namespace AX
open PySem PySem.Spec PyProof.Rows L2
theorem FnG.mono {P : Program} {w : World} {K : PySem.W.Frag} {mg : Str → Option Value} {base : Heap} {CX : CXT} {j k : Nat} {f : Addr} {fd : FuncData} {ps : List Str} {sp : Sp} (F : FnG P w K mg base CX j f fd ps sp) (h : j ≤ k) : FnG P w K mg base CX k f fd ps sp :=
  ⟨F.len, fun A outer s H args us vs Q E hg hr => F.run A outer s H args us vs Q E hg (hr.mono h)⟩
structure CalG (P : Program) (w : World) (K : PySem.W.Frag) (mg : Str → Option Value) (base : Heap) (k : Nat) (x : Str) (n : Nat) (g : List AV → M AV) : Prop where
  ex : ∃ (fd : FuncData) (ps : List Str), FnG P w K mg base (L2N.CX P w) k (He.ga K x) fd ps (spA K n g) ∧ mg x = some (.ref (He.ga K x)) ∧ PySem.W.keepIn K (.ref (He.ga K x)) = true ∧ L2.Binds K fd ps []
section
variable {P : Program} {w : World} {K : PySem.W.Frag} {mg : Str → Option Value} {base : Heap}
def BodyOkG (P : Program) (w : World) (K : PySem.W.Frag) (mg : Str → Option Value) (base : Heap) (k : Nat) (N : List Str) (qual : Str) (sc : Scope) (fa : Addr) (body : List Stmt) (f : ASt → M AOut) : Prop :=
  ∀ (cdv : Value) (A : Around) (outer : List Env) (s : Shared) (H : Hp) (E : XK), (A.deeper (envOfC qual sc s.heap.objs.size fa cdv)).guards = some [] → Room k (A.deeper (envOfC qual sc s.heap.objs.size fa cdv)) →
    TkE (cxOf (L2N.CX P w) P w K mg base N qual sc fa cdv A outer s H E) E → PSs (cxOf (L2N.CX P w) P w K mg base N qual sc fa cdv A outer s H E) body (SS K E f)
theorem cal_mkG {x : Str} {params : Arguments} {body : List Stmt} {sc : Scope} {N ps : List Str} {k : Nat} {f : ASt → M AOut} (F : ∃ fd, FunD K x x params body sc [] [] (He.ga K x) fd) (hm : mg x = some (.ref (He.ga K x))) (S : FnScope N ps sc)
    (hbi : ∀ (kV doc pm : Value) (an : Option Addr) (cdv ct : Value) (us : List Value), us.length = ps.length → bindArgs (PySem.W.fnOf x x params body sc .none kV doc pm an cdv ct) ⟨us, []⟩ = pure (ps.zip us))
    (hb : BodyOkG P w K mg base k N x sc (He.ga K x) body f) : CalG P w K mg base (k + 1) x ps.length (runB N.length f) := by
  obtain ⟨fd, F⟩ := F
  exact ⟨fd, ps, fnG_of F S (fun vs H Q E h => h.1) fun cdv A outer s H vs Q E hg hr h => ⟨SS K E f, hb cdv A outer s H E hg hr (L2N.takes_of rfl rfl rfl rfl), body_at h⟩, hm, F.kp, F.bindsN hbi⟩
end
section
variable {X : Cx} {E : XK} {e : Expr} {es : List Expr} {fl : ASt → M (List AV)} {x : Str} {p pos : Pos} {n k j : Nat} {g : List AV → M AV}
theorem a_callG (c : CalG X.prog X.w X.K X.mg X.base k x n g) (hgd : X.A.guards = some []) (hr : Room j X.A) (tk : TkE X E) (hk : k ≤ j) (hg : Gl X x) (ha : PA X (e :: es) (SL X.K E fl))
    (hdb : (x == ("__debug__" : Str)) = false := by decide) (he : starEach (e :: es) X.env = (false, eval e X.env) :: starEach es X.env := by rfl) (hpl : (backTo pos (starEach es X.env)).any (·.1) = false := by rfl) :
    PE X (.Call (.Name x p) (e :: es) [] pos) (S X.K E (aCall n g fl)) := by
  obtain ⟨fd, ps, F, hm, kp, b⟩ := c.ex
  refine wE (pe_callG F hgd (hr.mono hk) hg hm kp b (pX tk) ha hdb he hpl) fun σ H Q ⟨ρ, aσ, A, w, s, y⟩ => SX.mk w s y.bind fun xs A1 ρ1 H1 vs y1 g1 w1 r1 => ?_
  obtain ⟨hl, y2⟩ := y1.bind.chk
  rw [List.append_nil]
  exact ⟨by rw [← r1.length]; exact Nat.eq_of_beq_eq_true hl, ρ1, A1, xs, w1, r1, y2.mono (fun _ _ q => q.tr g1) fun _ _ q => q.tr g1⟩
end
end AX

set_option Elab.async false
set_option linter.all false
set_option maxRecDepth 100000
set_option maxHeartbeats 4000000
/-! AX28: an object with __slots__: its fields read. -/
namespace AX
open PySem PySem.Spec PyProof.Rows L2
def gSlf (c : Str) (i : Nat) : G1 := fun x A => match x with
  | .ref j => match A[j]? with
    | some (.slt c' vs) => match strB c' c with
      | true => match vs[i]? with
        | some v => some (v, A)
        | none => none
      | false => none
    | _ => none
  | _ => none
theorem gSlf_eq {c : Str} {i : Nat} {x z : AV} {A A' : AH} (h : gSlf c i x A = some (z, A')) : ∃ j vs, x = .ref j ∧ A[j]? = some (.slt c vs) ∧ vs[i]? = some z ∧ A' = A := by
  cases x with
  | ref j =>
    unfold gSlf at h
    dsimp only at h
    split at h
    · rename_i c' vs hA
      cases hc : strB c' c with
      | false => rw [hc] at h; cases h
      | true =>
        rw [hc] at h
        rw [strB_iff] at hc
        have hc := of_decide_eq_true hc
        subst hc
        cases hv : vs[i]? with
        | none => rw [hv] at h; cases h
        | some v =>
          rw [hv] at h
          cases h
          exact ⟨j, vs, rfl, hA, hv, rfl⟩
    · cases h
  | _ => cases h
section
variable {X : Cx} {E : XK} {e : Expr} {fe : ASt → M AV} {c f : Str} {i : Nat} {p : Addr} {pos : Pos}
theorem a_slf (hc : SlX.SCls X.K (He.ga X.K c)) (hs : SlX.Slot1 X.K (He.ga X.K c) f p i) (he : PE X e (S X.K E fe)) (hb : attributeBase e f X.env (eval e X.env) = eval e X.env := by rfl) : PE X (.Attribute e f pos) (S X.K E (aUn (gSlf c i) fe)) :=
  wE (SlX.pe_sl he hb) fun σ H Q ⟨ρ, aσ, A, w, s, y⟩ => SX.mk w s y.bind fun x A1 ρ1 H1 v y1 g1 w1 r1 => by
    obtain ⟨z, A', hz, q⟩ := y1.lift
    obtain ⟨j, vs, rfl, hA, hv, rfl⟩ := gSlf_eq hz
    cases r1 with
    | @ref _ a hi =>
      obtain ⟨dx, ws, h1, h2, rs⟩ := w1.obj hi hA
      obtain ⟨u, hu, ru⟩ := rs.get hv
      exact ⟨a, _, dx, p, _, i, u, rfl, .inr ⟨h1, h2⟩, hc, hs, by rw [List.getElem?_map, hu] <;> rfl, q ρ1 H1 u g1 w1 ru⟩
end
end AX

set_option Elab.async false
set_option linter.all false
set_option maxRecDepth 100000
set_option maxHeartbeats 4000000
/-! AX29: methods of an object with __slots__. -/
namespace AX
open PySem PySem.Spec PyProof.Rows L2
/-- a method of the class c, whose objects have slots -/
structure MetS (P : Program) (w : World) (K : PySem.W.Frag) (mg : Str → Option Value) (base : Heap) (k : Nat) (c m : Str) (n : Nat) (g : List AV → M AV) : Prop where
  ex : ∃ (f : Addr) (fd : FuncData) (ps : List Str), SlX.SCls K (He.ga K c) ∧ Meth K (He.ga K c) m f ∧ FnOk P w K mg base (L2N.CX P w) k f fd ps (spA K n g) ∧ L2.Binds K fd ps []
def isSlt (c : Str) (x : AV) (A : AH) : Bool := match x with
  | .ref j => match A[j]? with
    | some (.slt c' _) => strB c' c
    | _ => false
  | _ => false
def aMethS (c : Str) (n : Nat) (g : List AV → M AV) (fo : ASt → M AV) (fl : ASt → M (List AV)) : ASt → M AV := fun aσ => (fo aσ).bind fun x => (M.chk (isSlt c x)).bind fun _ => (fl aσ).bind fun xs => (M.chk (lenOk (x :: xs) n)).bind fun _ => g (x :: xs)
section
variable {X : Cx} {E : XK} {e o : Expr} {es : List Expr} {fo : ASt → M AV} {fl : ASt → M (List AV)} {m c : Str} {pos apos : Pos} {n k j : Nat} {g : List AV → M AV}
theorem fnR_of {CX : CXT} {P : Program} {w : World} {K : PySem.W.Frag} {mg : Str → Option Value} {base : Heap} {f : Addr} {fd : FuncData} {ps : List Str} {sp : Sp} (F : FnOk P w K mg base CX k f fd ps sp) (b : L2.Binds K fd ps []) : FnR P w K mg base CX k f sp := by
  intro A outer s H us vs Q E hr e0 r q
  have hl : us.length = ps.length := by rw [← r.length]; exact F.len _ _ _ _ q
  have b1 := b s us (e0.mod.kin.keeps fun b o e => (e0.bs b o e).1) (by rw [List.append_nil]; exact hl)
  rw [List.append_nil] at b1
  exact F.run A outer s H ⟨us, []⟩ us vs Q E hr e0 b1 r q
theorem a_methS {pl : Sem Bool} (d : MetS X.prog X.w X.K X.mg X.base k c m n g) (hr : Room j X.A) (tk : TkE X E) (hk : k ≤ j) (he : PE X o (S X.K E fo)) (ha : PA X (e :: es) (SL X.K E fl))
    (hst : starEach (e :: es) X.env = (false, eval e X.env) :: starEach es X.env := by rfl) (hpl : (backTo pos (starEach es X.env)).any (·.1) = false := by rfl)
    (ht : eval (.Call (.Attribute o m apos) (e :: es) [] pos) X.env = (do
      let ov ← eval o X.env
      standAt apos.atName
      let (f, first) ← holding [ov] (getMethod ov m pl)
      callWith pos f first (backTo pos (starEach (e :: es) X.env)) (backToKw pos (keywordEach [] X.env))) := by rfl) :
    PE X (.Call (.Attribute o m apos) (e :: es) [] pos) (S X.K E (aMethS c n g fo fl)) := by
  obtain ⟨f, fd, ps, hc, hm, F, b⟩ := d.ex
  refine wE (SlX.pe_methSl (pl := pl) he hc hm (fnR_of (F.mono hk) b) hr (pX tk) ha hst hpl ht) fun σ H Q ⟨ρ, aσ, A, w, s, y⟩ => SX.mk w s y.bind fun x A1 ρ1 H1 v y1 g1 w1 r1 => ?_
  obtain ⟨hi, y2⟩ := y1.bind.chk
  unfold isSlt at hi
  split at hi
  · rename_i jj
    split at hi
    · rename_i c' vs hA
      have ec := strB_true hi
      subst ec
      cases r1 with
      | @ref _ a hρ =>
        obtain ⟨dx, ws, h1, h2, rs⟩ := w1.obj hρ hA
        refine ⟨a, dx, _, rfl, .inr ⟨h1, h2⟩, SX.mk w1 (s.grow g1) (y2.bind.mono (fun _ _ q => q) fun _ _ q => PostX.tr q g1) fun xs A3 ρ3 H3 us y3 g3 w3 r3 => ?_⟩
        obtain ⟨hl, y4⟩ := y3.bind.chk
        have rr : VRs X.K ρ3 H3 (.ref jj :: xs) (.ref a :: us) := .cons (g3.vr (.ref hρ)) r3
        exact ⟨by rw [← rr.length]; exact Nat.eq_of_beq_eq_true hl, ρ3, A3, _, w3, rr, y4.mono (fun _ _ q => Post.tr q (g1.trans g3)) fun _ _ q => PostX.tr q (g1.trans g3)⟩
    · cases hi
  · cases hi
end
end AX

set_option Elab.async false
set_option linter.all false
set_option maxRecDepth 100000
set_option maxHeartbeats 4000000
/-! AX30: a field with a slot as a target. -/
namespace AX
open PySem PySem.Spec PyProof.Rows L2 SlX
/-- o.f, a target -/
def gSlot (K : PySem.W.Frag) (to : TE) (f : Str) : TG := fun v σ H Q => to σ H fun x H1 => ∃ (a C dx p : Addr) (vs : List (Option V)) (i : Nat), x = .ref a ∧ Slt H1 a C dx vs ∧ SCls K C ∧ Slot1 K C f p i ∧ Q σ (slH H1 a C dx (putS i v vs))
theorem pg_slot {X : Cx} {o : Expr} {to : TE} {f : Str} {pos : Pos} (ho : PE X o to) : PG X (.Attribute o f pos) (gSlot X.K to f) := by
  refine ⟨fun pins s σ H v u Q I r h => ?_⟩
  rw [assign_Attribute]
  refine wpAny_bind (wpAny_holding (thn (ho.run pins s σ H _ I h) fun ov s1 ⟨x, H1, I1, r1, a, C, dx, p, vs, i, ex, hs, c, t, q⟩ => ?_))
  subst ex
  obtain rfl : ov = Value.ref a := r1
  refine wpAny_bind (wpAny_standAt (wpAny_bind (wpAny_holding (setslot_ok I1 hs c t r fun s2 I2 => ?_))))
  exact wpAny_release ⟨σ, _, I2, q⟩
end AX

set_option Elab.async false
set_option linter.all false
set_option maxRecDepth 100000
set_option maxHeartbeats 4000000
/-! AX31: the contract of a method of a class with __slots__. -/
namespace AX
open PySem PySem.Spec PyProof.Rows L2
variable {P : Program} {w : World} {K : PySem.W.Frag} {mg : Str → Option Value} {base : Heap}
theorem met_mkS {c m qual : Str} {params : Arguments} {body : List Stmt} {sc : Scope} {N ps : List Str} {k : Nat} {f : ASt → M AOut} {fa : Addr} (hc : SlX.SCls K (He.ga K c)) (hm : Meth K (He.ga K c) m fa) (F : ∃ fd, FunD K m qual params body sc [] [] fa fd) (S : FnScope N ps sc)
    (hbi : ∀ (kV doc pm : Value) (an : Option Addr) (cdv ct : Value) (us : List Value), us.length = ps.length → bindArgs (PySem.W.fnOf m qual params body sc .none kV doc pm an cdv ct) ⟨us, []⟩ = pure (ps.zip us))
    (hb : BodyOk P w K mg base k N qual sc fa body f) : MetS P w K mg base (k + 1) c m ps.length (runB N.length f) := by
  obtain ⟨fd, F⟩ := F
  exact ⟨fa, fd, ps, hc, hm, fn_mk F S hb, F.bindsN hbi⟩
/-- what the head tells of a class with slots -/
def slotB (K : PySem.W.Frag) (c f : Str) (i : Nat) : Bool := match PySem.W.findIn K (.ref (He.ga K c)) f with
  | some (some (.ref p)) => (He.eqO (PySem.W.specialIn K (.ref p) "__get__") (some (some (.builtin "member_descriptor.__get__"))) && decide (PySem.W.takesIn K (.ref p) = some true)) &&
    (decide (PySem.W.typeIn K (.ref p) = some (.type "member_descriptor")) && (decide (PySem.W.slotIn K p (He.ga K c) = some i) && Nat.ble i 999))
  | _ => false
theorem slotB_ok {c f : Str} {i : Nat} (h : slotB K c f i = true) : ∃ p, SlX.Slot1 K (He.ga K c) f p i := by
  unfold slotB at h
  split at h
  · rename_i p hp
    obtain ⟨h1, h2⟩ := He.ba h
    obtain ⟨a1, a2⟩ := He.ba h1
    obtain ⟨a3, h3⟩ := He.ba h2
    obtain ⟨a4, a5⟩ := He.ba h3
    exact ⟨p, hp, He.eqO_ok a1, of_decide_eq_true a2, of_decide_eq_true a3, of_decide_eq_true a4, Nat.lt_succ_of_le (Nat.le_of_ble_eq_true a5)⟩
  · cases h
def sclsB (K : PySem.W.Frag) (c : Str) : Bool := (PySem.W.plainGet K (He.ga K c) Str.empty && PySem.W.isClsIn K (He.ga K c)) && (PySem.W.plainOver K (He.ga K c) && He.eqO (PySem.W.findIn K (.ref (He.ga K c)) "__setattr__") (some (some (.builtin "object.__setattr__"))))
theorem sclsB_ok {c : Str} (h : sclsB K c = true) : SlX.SCls K (He.ga K c) := by
  obtain ⟨h1, h2⟩ := He.ba h
  obtain ⟨a1, a2⟩ := He.ba h1
  obtain ⟨a3, a4⟩ := He.ba h2
  exact ⟨a1, a2, a3, He.eqO_ok a4⟩
end AX

set_option Elab.async false
set_option linter.all false
set_option maxRecDepth 100000
set_option maxHeartbeats 4000000
/-! AX32: try with several clauses that all bind one name; what a def that asks a lambda makes of it. -/
namespace AX
open PySem PySem.Spec PyProof.Rows L2 LamX
abbrev TsA := Addr → Value → Option Addr → TS
/-- the ends of a suite whose name goes -/
def gone (i : Nat) (D : Ends) : Ends := ⟨fun σ H => D.nx (σ.set i none) H, D.rt, fun σ H => D.bk (σ.set i none) H, fun σ H => D.ct (σ.set i none) H⟩
/-- what the clauses wish, one behind the other; at the end Wo -/
def wClauses (K : PySem.W.Frag) (i : Nat) (Wo : WX) (D : Ends) : List (Value × TsA) → WX
  | [] => Wo
  | (c, ts) :: r => fun cls d σ H => (PySem.W.exmOne K cls c = some true ∧ ∀ a, H a = none → ts a cls d (gone i D) (σ.set i (some (.ref a))) H) ∨ (PySem.W.exmOne K cls c = some false ∧ wClauses K i Wo D r cls d σ H)
inductive ClausesOk (X : Cx) (n : Str) : List ExceptHandler → List (Value × TsA) → Prop
  | nil : ClausesOk X n [] []
  | cons {x : Str} {c : Value} {ts : TsA} {b₀ : Stmt} {rest : List Stmt} {p1 p2 : Pos} {hs : List ExceptHandler} {l : List (Value × TsA)} (hc : Names X x c)
      (hsu : ∀ (a : Addr) (oe : Obj) (cls : Value) (d : Option Addr) (pn : List (Addr × Obj)), Zc cls d oe → (∃ vs, oe.data = .fields vs) → PSs (X.suite a ((a, oe) :: pn)) (b₀ :: rest) (ts a cls d)) (r : ClausesOk X n hs l) :
      ClausesOk X n (.ExceptHandler (some (.Name x p1)) (some n) (b₀ :: rest) p2 :: hs) ((c, ts) :: l)
section
variable {X : Cx} {n : Str} {i : Nat} {body : List Stmt} {h₀ : ExceptHandler} {hs : List ExceptHandler} {l : List (Value × TsA)} {pos : Pos} {tb : WX → TS} {Wo : WX}
/-- the clauses tried at an exception that is in flight -/
theorem clauses_run {pins : List (Addr × Obj)} {σ' : L2.St} {H' : Hp} {D : Ends} {B : Heap} {sI s' : Shared} {a : Addr} {cls : Value} {d : Option Addr} {h3 : Heap} (hst : X.stack = X.env :: X.outer) (hf : X.env.frame = some X.env.locals) (hN : X.N.Nodup) (hi : X.N[i]? = some n) (hln : X.env.kindOf n = some .local) (tk : L2.Takes X Wo)
    (J : Inv X pins σ' H' sI) (nb : ∀ b o, sI.heap.get? b = some o → b ∉ frs X.stack → B.get? b = some o) (up : sI.heap.UpToSlots s'.heap) (na : H' a = none) (os : s'.os = sI.os) (ag : AllBare s'.gens)
    (fl3 : HandSPX.FlyingZ B (X.env :: X.outer) a (Zc cls d) h3) (up3 : s'.heap.UpToSlots h3) :
    ∀ {hs : List ExceptHandler} {l : List (Value × TsA)}, ClausesOk X n hs l → wClauses X.K i Wo D l cls d σ' H' → wpAny (model X.prog X.w) X.A (handleBy (.ref a) X.env hs) (SP X pins D) X.xe { s' with heap := h3 } := by
  have ok := J.ok
  have J3 : Inv X pins σ' H' { s' with heap := h3 } := J.landed nb fl3.1 (up.trans up3) os ag
  obtain ⟨o3, v3, g3, z3, d3⟩ := fl3.there
  have far : a ∉ frs (X.env :: X.outer) := fun hm => by
    obtain ⟨_, ob, eb, nb⟩ := fl3.2.2.1.mem hm
    rw [g3] at eb
    cases eb
    exact nb _ d3
  have n1 : a ≠ X.env.locals := fun z => far (List.mem_filterMap.mpr ⟨X.env, List.mem_cons_self, by rw [hf, z]⟩)
  have n2 : a ∉ X.fs := fun hm => let ⟨e, he, q⟩ := List.mem_filterMap.mp hm; far (List.mem_filterMap.mpr ⟨e, List.mem_cons_of_mem _ he, q⟩)
  have T3 := J3.suite g3 d3 na n1 n2
  intro hs l hk
  induction hk with
  | nil =>
    intro w
    refine wpAny_handleBy_nil ?_
    obtain ⟨_, _, _, oe, vs, T, oT, ts', he, hz, hd, e1, hr⟩ := id fl3
    unfold PySem.passOn
    refine wpAny_bind (wpAny_field he hd e1 ?_)
    rw [if_neg (show ¬ ((Value.ref T == Value.none) = true) by simp)]
    have out : wpAny (model X.prog X.w) X.A (setFlight (.ref a) X.env.frame) (fun _ s4 => wpAny (model X.prog X.w) X.A (throw (.ref a) : Sem Flow) (SP X pins D) X.xe s4) X.xe { s' with heap := h3 } := by
      rw [hf]
      exact HandSPX.setFlight_upZ fl3 fun h4 held up4 => wpAny_throw (tk _ _ ⟨a, B, sI, pins, σ', H', cls, d, rfl, J, nb, (up.trans up3).trans up4, .inr (.inr (by rw [hst]; exact held)), na, os, ag, w⟩)
    first
      | exact wpAny_bind (wpAny_pure (wpAny_bind out))
      | exact wpAny_bind out
  | @cons x c ts b₀ rest p1 p2 hs2 l2 hc hsu r ih =>
    intro w
    refine wpAny_handleBy_cons (codeAny_handlers_test ?_) (by intro q; cases q)
    have LT : PySem.W.Looks (model X.prog X.w) h3 (typeOf (.ref a)) cls := fun A Q E s k q => wpAny_typeOf_ref (k _ _ g3) (by rw [z3.1]; exact q)
    have read : ∀ {Q E : Value → Shared → Prop}, Q c { s' with heap := h3 } → wpAny (model X.prog X.w) (X.A.mark (some (.ref a))) (eval (.Name x p1) X.env) Q E { s' with heap := h3 } := fun {Q E} q => by
      obtain ⟨g, db, m | ⟨m, v, nn⟩⟩ := hc
      · exact ld_glob (X := X.suite a ((a, o3) :: (X.pn ++ pins))) T3 g m q db
      · exact ld_blt (X := X.suite a ((a, o3) :: (X.pn ++ pins))) T3 g m v q nn db
    rcases w with ⟨hb, yes⟩ | ⟨hb, no⟩
    · refine read ((PySem.W.exm_one (M := model X.prog X.w) (J3.kIn) LT hb).here ?_)
      refine codeAny_handlers_suite_as ?_
      refine HandSPX.lands_againZ fl3 fun h4 fl4 up4 => ?_
      have J4 : Inv X pins σ' H' { s' with heap := h4 } := J.landed nb fl4.1 ((up.trans up3).trans up4) os ag
      obtain ⟨o4, v4, g4, z4, d4⟩ := fl4.there
      refine store_ok (X := X.suite a ((a, o4) :: (X.pn ++ pins))) (v := .ref a) (J4.suite g4 d4 na n1 n2) hN hi (.inl hln) rfl (fun s5 S5 => ?_) (.inr hln)
      refine wpAny_mono ((hsu a o4 cls d (X.pn ++ pins) z4 ⟨_, d4⟩).run [] s5 _ H' _ S5 (yes a na)) (fun f s6 hsp => ?_) (fun _ _ z => False.elim z)
      have fin : ∀ {σ6 : L2.St} {H6 : Hp} {Q : Shared → Prop}, Inv (X.suite a ((a, o4) :: (X.pn ++ pins))) [] σ6 H6 s6 → (∀ s7, Inv X pins (σ6.set i none) H6 s7 → Q s7) →
        wpAny (model X.prog X.w) X.A (do bindName X.env n .none; unbindBehindTheSuite X.env n p2) (fun _ s7 => Q s7) X.xe s6 := fun S6 hq => gone_ok (S6.unsuite ok) hN hi hln hq
      cases f with
      | next => exact let ⟨_, _, S6, q6⟩ := hsp; fin S6 fun s7 J7 => ⟨_, _, J7, q6⟩
      | brk => exact let ⟨_, _, S6, q6⟩ := hsp; fin S6 fun s7 J7 => ⟨_, _, J7, q6⟩
      | cont => exact let ⟨_, _, S6, q6⟩ := hsp; fin S6 fun s7 J7 => ⟨_, _, J7, q6⟩
      | ret u => exact let ⟨_, _, _, S6, r6, q6⟩ := hsp; fin S6 fun s7 J7 => ⟨_, _, _, J7, r6, q6⟩
    · refine read ((PySem.W.exm_one (M := model X.prog X.w) (J3.kIn) LT hb).here ?_)
      show wpAny _ X.A (handleBy (.ref a) X.env hs2) _ _ _
      exact ih no
theorem ps_try_clauses (hst : X.stack = X.env :: X.outer) (hf : X.env.frame = some X.env.locals) (hN : X.N.Nodup) (hi : X.N[i]? = some n) (hln : X.env.kindOf n = some .local) (tk : L2.Takes X Wo)
    (hb : ∀ (W : WX) (pn : List (Addr × Obj)) (xe : Value → Shared → Prop), L2.Takes (X.tr pn xe) W → PassesOwn (model X.prog X.w) X.A X.env xe → PSs (X.tr pn xe) body (tb W))
    (hh : ClausesOk X n (h₀ :: hs) l) : PS X (.Try body (h₀ :: hs) [] [] pos) (fun D σ H => tb (wClauses X.K i Wo D l) D σ H) := by
  refine ⟨fun pins s σ H D I hw => ?_⟩
  have ok := I.ok
  refine wpAny_Try_except ?_
  have catchR : ∀ u s', XE (X.tr (X.pn ++ pins) (fun e s₁ => wpAny (model X.prog X.w) X.A (noteFrame e X.env) (fun _ s₂ => wpAny (model X.prog X.w) X.A (setFlight e none) (fun _ s₃ =>
      wpAny (model X.prog X.w) X.A (handleBy e X.env (h₀ :: hs)) (SP X pins D) X.xe s₃) X.xe s₂) X.xe s₁)) (wClauses X.K i Wo D l) u s' →
      wpAny (model X.prog X.w) X.A (noteFrame u X.env) (fun _ s₂ => wpAny (model X.prog X.w) X.A (setFlight u none) (fun _ s₃ => wpAny (model X.prog X.w) X.A (handleBy u X.env (h₀ :: hs)) (SP X pins D) X.xe s₃) X.xe s₂) X.xe s' := by
    rintro u s' ⟨a, B, sI, pins', σ', H', cls, d, rfl, J', nb, up, sky, na, os, ag, w⟩
    refine L2.Sky.land Zc.steady (by rw [ok.frames, hst]) hf (show L2.Sky B (X.env :: X.outer) a (Zc cls d) X.env.locals s'.heap by rw [← hst]; exact sky) fun h3 fl3 up3 => ?_
    exact clauses_run hst hf hN hi hln tk (J'.ofTry ok) nb up na os ag fl3 up3 hh w
  refine wpAny_mono ((hb (wClauses X.K i Wo D l) (X.pn ++ pins) _ (fun u s' xx => catchR u s' xx) PassesOwn.looking).run [] s σ H D (I.toTry _) hw) (fun f s1 hsp => ?_) (fun e s1 he => he)
  cases f with
  | next => exact let ⟨σ', H', J', q⟩ := hsp; wpAny_execs_nil ⟨σ', H', J'.ofTry ok, q⟩
  | brk => exact let ⟨σ', H', J', q⟩ := hsp; ⟨σ', H', J'.ofTry ok, q⟩
  | cont => exact let ⟨σ', H', J', q⟩ := hsp; ⟨σ', H', J'.ofTry ok, q⟩
  | ret u => exact let ⟨v, σ', H', J', r, q⟩ := hsp; ⟨v, σ', H', J'.ofTry ok, r, q⟩
end
end AX

set_option Elab.async false
set_option linter.all false
set_option maxRecDepth 100000
set_option maxHeartbeats 4000000
/-! AX33: a lambda without parameters, handed to a def that asks it. -/
namespace AX
open PySem PySem.Spec PyProof.Rows L2 LamX
/-! ### from the one air into the other -/
theorem sky_zc {B : Heap} {l : List Env} {a L : Addr} {cls : Value} {d : Option Addr} {h : Heap} (s : L2.Sky B l a (L2N.Zn cls d) L h) : L2.Sky B l a (Zc cls d) L h := by
  rcases s with ⟨h1, h2, h3, oe, vs, h4, hz, h5⟩ | ⟨k1, k2, k3, oe, vs, T, oT, ts, he, hz, r⟩ | ⟨k1, k2, k3, oe, vs, T, oT, ts, he, hz, r⟩
  · exact .inl ⟨h1, h2, h3, oe, vs, h4, hz.zc, h5⟩
  · exact .inr (.inl ⟨k1, k2, k3, oe, vs, T, oT, ts, he, hz.zc, r⟩)
  · exact .inr (.inr ⟨k1, k2, k3, oe, vs, T, oT, ts, he, hz.zc, r⟩)
theorem takesN {X : Cx} {W : WX} (t : L2.Takes X W) : L2N.Takes X W := fun u s' ⟨a, B, sI, pins, σ, H, cls, d, e, I, nb, up, sky, na, os, ag, w⟩ => t u s' ⟨a, B, sI, pins, σ, H, cls, d, e, I, nb, up, sky_zc sky, na, os, ag, w⟩
/-! ### the making -/
section
variable {X : Cx} {pins : List (Addr × Obj)} {σ : L2.St} {H : Hp} {s : Shared}
abbrev lamQ (X : Cx) : Str := X.env.qual ++ "<lambda>"
theorem lam_new {c P : Addr} {params : Arguments} {body : Expr} {scope : Scope} {pos : Pos} {E Q : Value → Shared → Prop} (I : Inv X pins σ H s) (TB : TabB X.base X.mg c P) (hcode : X.env.code = .ref c) (hT : TabS H P (lamQ X))
    (hdef : defaultsOf params X.env = ([], [])) (hfree : ∀ y ∈ scope.names, y.2 = .free → ∃ c, X.env.cells.lookup y.1 = some c)
    (h : ∀ (f c' : Addr) (pm ctv : Value) (H1 : Hp) (s' : Shared), Inv X pins σ H1 s' → (∀ b o, H b = some o → b ≠ P → H1 b = some o) → (∀ b, H1 b = none → H b = none) → TabS H1 P (lamQ X) →
      s'.heap.get? f = some (PySem.W.kla_obj "<lambda>" (lamQ X) params body scope (cloFrom X.env.cells scope.names []) pm c' ctv) → H1 f = none → f ∉ frs X.stack → H1 c' = some (CodeO c' (lamQ X)) → Q (.ref f) s') :
    wpAny (model X.prog X.w) X.A (eval (.Lambda params body scope pos) X.env) Q E s := by
  obtain ⟨ps, tabP, trip, among⟩ := id hT
  have hpP : s.heap.get? P = some { cls := .none, data := .fields ps } := I.hok P _ tabP
  have outside : ∀ f, s.heap.objs.size ≤ f → f ∉ frs X.stack := fun f hf z => (List.mem_cons.mp (I.stkSub _ z)).elim (fun e => by
    have lo := I.lt
    rw [← e] at lo
    exact absurd (Nat.lt_of_lt_of_le lo hf) (Nat.lt_irrefl _)) fun e => I.nofs hf e
  refine PySem.W.kla_eval hdef ?_
  cases found : codeAmong pos ps.toList with
  | some cv =>
    obtain ⟨c', rfl, hco⟩ := among pos cv found
    refine PySem.W.kla_makeFunctionHit (mg := X.mg) (c := c) (P := P) (ps := ps) (closure_ok hfree) I.ok.glob (I.mod.glob.keeps I.bk) hcode (TB.code.keeps I.bk) hpP trip found (TB.bm.keeps I.bk) fun ctv h' tk hx hsz => ?_
    exact h h'.objs.size c' _ ctv H _ (I.kept (t' := tk) fun b o e => Heap.get?_push_of_some _ (hx b o e)) (fun _ _ e _ => e) (fun _ e => e) hT (Heap.get?_push_size _ rfl) (I.hok.fresh hsz) (outside _ hsz) hco
  | none =>
    refine PySem.W.kla_makeFunction (mg := X.mg) (c := c) (P := P) (ps := ps) (closure_ok hfree) I.ok.glob (I.mod.glob.keeps I.bk) hcode (TB.code.keeps I.bk) hpP trip found TB.gP (TB.bm.keeps I.bk) fun c' ctv h' tk hx hge hlt hrec htb => ?_
    obtain ⟨c2, oc, vs, t, e2, hoc, hd, hv⟩ := hrec
    cases e2
    have nC : H c' = none := I.hok.fresh hge
    have nPC : P ≠ c' := ne_of_none tabP nC
    have hsz : s.heap.objs.size ≤ h'.objs.size := Nat.le_trans hge (Nat.le_of_lt hlt)
    have J := inv_table (t' := tk) (more := #[rawInt pos.line, rawInt pos.col, .ref c']) (h' := h'.push (PySem.W.kla_obj "<lambda>" (lamQ X) params body scope (cloFrom X.env.cells scope.names []) ((X.mg "__name__").getD .none) c' ctv)) I tabP
      (fun b o hb e => Heap.get?_push_of_some _ (hx b o hb e)) (Heap.get?_push_of_some _ htb) hge ⟨oc, vs, t, Heap.get?_push_of_some _ hoc, hd, hv⟩
    have old : ∀ b o, H b = some o → b ≠ P → upd (upd H P (.tbl (ps ++ #[rawInt pos.line, rawInt pos.col, .ref c']))) c' (CodeO c' (lamQ X)) b = some o := fun b o e hb => by rw [upd_ne (ne_of_none e nC), upd_ne hb]; exact e
    refine h h'.objs.size c' _ ctv _ _ J old (fun b e => ?_) ?_ (Heap.get?_push_size _ rfl) ?_ (outside _ hsz) upd_same
    · by_cases b1 : b = c'
      · rw [b1]; exact nC
      · rw [upd_ne b1] at e
        by_cases b2 : b = P
        · rw [b2, upd_same] at e; cases e
        · rw [upd_ne b2] at e; exact e
    · have el : (ps ++ #[rawInt pos.line, rawInt pos.col, .ref c']).toList = ps.toList ++ [rawInt pos.line, rawInt pos.col, .ref c'] := by simp
      refine ⟨_, by rw [upd_ne nPC, upd_same], by rw [el]; exact PySem.TriplesOk_snoc _ _ _ _ trip, fun p' cv hcv => ?_⟩
      rw [el] at hcv
      rcases among_app _ trip hcv with z | z
      · obtain ⟨c0, e1, e2⟩ := among p' cv z
        exact ⟨c0, e1, old _ _ e2 fun z => by
          rw [z, tabP] at e2
          exact codeO_ne ps (Option.some.inj e2).symm⟩
      · exact ⟨c', z, upd_same⟩
    · rw [upd_ne (Nat.ne_of_gt hlt), upd_ne (Nat.ne_of_gt (Nat.lt_of_lt_of_le (Heap.lt_size hpP) hsz))]
      exact I.hok.fresh hsz
end
/-! ### what is made of the lambda's end -/
def askR : Except AExc AV → Option AV
  | .ok v => some v
  | .error e => match strB e.c "TooLarge" with
    | true => match fGet e.ns e.vs "what", fGet e.ns e.vs "limit" with
      | some x, some y => some (.tup [x, y])
      | _, _ => none
    | false => match strB e.c "BadSight" with
      | true => fGet e.ns e.vs "fault"
      | false => none
def aAsk (P : Addr) (q : Str) (j : Nat) (fb : ASt → M AV) : ASt → M AV := fun aσ A => match fb aσ A with
  | none => none
  | some (l, A', r) => match askR r with
    | some v => some ((A[j]? = some (.tab P q)) :: l, A', .ok v)
    | none => none
theorem Yes.ask {P : Addr} {q : Str} {j : Nat} {fb : ASt → M AV} {aσ : ASt} {A : AH} {k : AV → AH → Prop} {x : AExc → AH → Prop} (y : Yes (aAsk P q j fb aσ) A k x) :
    A[j]? = some (.tab P q) ∧ ∃ l A' r v, fb aσ A = some (l, A', r) ∧ (∀ p ∈ l, p) ∧ askR r = some v ∧ k v A' := by
  obtain ⟨l, A', r, e, hl, h⟩ := y
  unfold aAsk at e
  cases hf : fb aσ A with
  | none => rw [hf] at e; cases e
  | some z =>
    obtain ⟨l1, A1, r1⟩ := z
    rw [hf] at e
    dsimp only at e
    cases ha : askR r1 with
    | none => rw [ha] at e; cases e
    | some v =>
      rw [ha] at e
      cases e
      exact ⟨hl _ List.mem_cons_self, l1, _, r1, v, rfl, fun p hp => hl p (List.mem_cons_of_mem _ hp), ha, h⟩
/-- what the asking def wishes of the lambda's exceptions -/
def askE (K : PySem.W.Frag) (Q : VK) : XK := fun cls d H => (cls = .ref (He.ga K "TooLarge") ∧ ∃ dd fs u v, d = some dd ∧ H dd = some (.xd fs) ∧ (fs : List (Str × V)).lookup ("what" : Str) = some u ∧ fs.lookup ("limit" : Str) = some v ∧ ∀ p, H p = none → Q (.ref p) (upd H p (.tup [u, v]))) ∨
  (cls = .ref (He.ga K "BadSight") ∧ ∃ dd fs v, d = some dd ∧ H dd = some (.xd fs) ∧ (fs : List (Str × V)).lookup ("fault" : Str) = some v ∧ Q v H)
/-- the text of such a def -/
def AskB (a n : Str) (b : List Stmt) : Prop := ∃ p0 p1 p2 p3 p4 p5 p6 p7 p8 p9 p10 p11 p12 p13 p14 p15 p16 k, b = [.Try [.Return (some (.Call (.Name a p1) [] [] p2)) p3]
  [.ExceptHandler (some (.Name "TooLarge" p4)) (some n) [.Return (some (.Tuple [.Attribute (.Name n p5) "what" p6, .Attribute (.Name n p7) "limit" p8] k p9)) p10] p11,
   .ExceptHandler (some (.Name "BadSight" p12)) (some n) [.Return (some (.Attribute (.Name n p13) "fault" p14)) p15] p16] [] [] p0]
/-- what is asked of the exceptions' classes -/
structure AskX (K : PySem.W.Frag) : Prop where
  t : XfC K (He.ga K "TooLarge")
  b : XfC K (He.ga K "BadSight")
  tw : PySem.W.findIn K (.ref (He.ga K "TooLarge")) "what" = some none
  tl : PySem.W.findIn K (.ref (He.ga K "TooLarge")) "limit" = some none
  bf : PySem.W.findIn K (.ref (He.ga K "BadSight")) "fault" = some none
  tt : PySem.W.exmOne K (.ref (He.ga K "TooLarge")) (.ref (He.ga K "TooLarge")) = some true
  bt : PySem.W.exmOne K (.ref (He.ga K "BadSight")) (.ref (He.ga K "TooLarge")) = some false
  bb : PySem.W.exmOne K (.ref (He.ga K "BadSight")) (.ref (He.ga K "BadSight")) = some true
/-- the def's body, walked -/
theorem ask_body {X : Cx} {a n x q : Str} {sg : Scope} {g : Addr} {cdg : Value} {bg : List Stmt} {f c' : Addr} {s : Shared} {H : Hp} {Q : VK} {tl : XK → Hp → VK → Prop} (hB : AskB a n bg) (T : AskX X.K) (Sg : FnScope [a, n] [a] sg) (hn : sg.names.lookup n = some .local)
    (hT : sg.names.lookup ("TooLarge" : Str) = some .globalImplicit) (hS : sg.names.lookup ("BadSight" : Str) = some .globalImplicit) (mT : X.mg "TooLarge" = some (.ref (He.ga X.K "TooLarge"))) (mS : X.mg "BadSight" = some (.ref (He.ga X.K "BadSight")))
    (dn : (n == ("__debug__" : Str)) = false) (cn : (n == ("__classdict__" : Str)) = false)
    (act : ∀ (W : WX) (pn : List (Addr × Obj)) (xe : Value → Shared → Prop) (E : XK) (p1 p2 : Pos), L2.Takes ((cxOf C8.CX0 X.prog X.w X.K X.mg X.base [a, n] x sg g cdg X.A X.stack s H C8.E0).tr pn xe) W → (∀ cls d σ' H', E cls d H' → W cls d σ' H') →
      PE ((cxOf C8.CX0 X.prog X.w X.K X.mg X.base [a, n] x sg g cdg X.A X.stack s H C8.E0).tr pn xe) (.Call (.Name a p1) [] [] p2) (fun σZ HZ Q => σZ[0]? = some (some (.ref f)) ∧ HZ c' = some (CodeO c' q) ∧ tl E HZ Q))
    (hc : H c' = some (CodeO c' q)) (h : tl (askE X.K Q) H Q) :
    ∃ t, PSs (cxOf C8.CX0 X.prog X.w X.K X.mg X.base [a, n] x sg g cdg X.A X.stack s H C8.E0).nox bg t ∧ t { nx := fun _ H' => Q .non H', rt := Q } (L2.start [a, n] [.ref f]) H := by
  obtain ⟨p0, p1, p2, p3, p4, p5, p6, p7, p8, p9, p10, p11, p12, p13, p14, p15, p16, k, rfl⟩ := hB
  have N1 : Names (cxOf C8.CX0 X.prog X.w X.K X.mg X.base [a, n] x sg g cdg X.A X.stack s H C8.E0).nox "TooLarge" (.ref (He.ga X.K "TooLarge")) := ⟨hT, by decide, .inl mT⟩
  have N2 : Names (cxOf C8.CX0 X.prog X.w X.K X.mg X.base [a, n] x sg g cdg X.A X.stack s H C8.E0).nox "BadSight" (.ref (He.ga X.K "BadSight")) := ⟨hS, by decide, .inl mS⟩
  refine ⟨_, pss_one (ps_try_clauses (X := (cxOf C8.CX0 X.prog X.w X.K X.mg X.base [a, n] x sg g cdg X.A X.stack s H C8.E0).nox) (i := 1) (n := n)
      (tb := fun W D σ H => ∃ Ech : XK, (∀ cls d σ' H', σ'.length = 2 → Ech cls d H' → W cls d σ' H') ∧ σ[0]? = some (some (.ref f)) ∧ H c' = some (CodeO c' q) ∧ tl Ech H D.rt)
      (l := [(.ref (He.ga X.K "TooLarge"), fun a cls d => tRet (tTup (tCons (tXf a cls d (He.ga X.K "TooLarge") "what" (tVar 1)) (tCons (tXf a cls d (He.ga X.K "TooLarge") "limit" (tVar 1)) tNil)))),
        (.ref (He.ga X.K "BadSight"), fun a cls d => tRet (tXf a cls d (He.ga X.K "BadSight") "fault" (tVar 1)))])
      rfl rfl Sg.nd rfl hn LamX.takes0 (fun W pn xe tk _ => ?_)
      (.cons N1 (fun e oe cls d pn hz hf => pss_one (ps_ret (pe_tup (pa_cons (pe_xf T.t T.tw hz hf (pe_var rfl (.inl hn) dn cn)) (pa_cons (pe_xf T.t T.tl hz hf (pe_var rfl (.inl hn) dn cn)) pa_nil)))))
        (.cons N2 (fun e oe cls d pn hz hf => pss_one (ps_ret (pe_xf T.b T.bf hz hf (pe_var rfl (.inl hn) dn cn)))) .nil))), ?_⟩
  · refine ⟨fun pins s' σ H' D I h' => ?_⟩
    obtain ⟨Ech, hW, h1, h2, h3⟩ := h'
    have len2 : ∀ cls d σ' H', (σ'.length = 2 ∧ Ech cls d H') → W cls d σ' H' := fun cls d σ' H' z => hW cls d σ' H' z.1 z.2
    have tk' : L2.Takes ((cxOf C8.CX0 X.prog X.w X.K X.mg X.base [a, n] x sg g cdg X.A X.stack s H C8.E0).tr pn xe) (fun cls d _ H' => Ech cls d H') := fun u s2 ⟨a, B, sI, pins, σ, H, cls, d, e, I, nb, up, sky, na, os, ag, w⟩ =>
      tk u s2 ⟨a, B, sI, pins, σ, H, cls, d, e, I, nb, up, sky, na, os, ag, hW _ _ _ _ I.len w⟩
    exact (pss_one (ps_ret (pos := p3) (act _ pn xe Ech p1 p2 tk' fun _ _ _ _ z => z))).run pins s' σ H' D I ⟨h1, h2, h3⟩
  · refine ⟨askE X.K Q, fun cls d σ' H' hl hE => ?_, rfl, hc, h⟩
    have at1 : ∀ e : Addr, (σ'.set 1 (some (V.ref e)))[1]? = some (some (V.ref e)) := fun e => List.getElem?_set_self (by omega)
    rcases hE with ⟨rfl, dd, fs, u, v, rfl, hd, hu, hv, q1⟩ | ⟨rfl, dd, fs, v, rfl, hd, hv, q1⟩
    · refine .inl ⟨T.tt, fun e ne => ?_⟩
      refine ⟨_, at1 e, rfl, rfl, dd, fs, u, rfl, hd, hu, _, at1 e, rfl, rfl, dd, fs, v, rfl, hd, hv, ?_⟩
      exact ⟨Nat.le_trans (by decide : 2 ≤ 1000) (by rw [sizeLine_eq]; omega), fun p hp => q1 p hp⟩
    · refine .inr ⟨T.bt, .inl ⟨T.bb, fun e ne => ?_⟩⟩
      exact ⟨_, at1 e, rfl, rfl, dd, fs, v, rfl, hd, hv, q1⟩
end AX

set_option Elab.async false
set_option linter.all false
set_option maxRecDepth 100000
set_option maxHeartbeats 4000000
/-! AX34: len(set(t)) of a tuple of few flat tuples that all differ. -/
namespace AX
open PySem PySem.Spec PyProof.Rows L2
abbrev FT (P : Program) (w : World) (h : Heap) (k : List Key) (a : Addr) : Prop := IsTupleKey (mixKind P w) h k a
abbrev fh (P : Program) (w : World) (k : List Key) : Int := tupleKeyHash (mixKind P w) k
abbrev Row := Addr × List Key
section
variable {P : Program} {w : World} {A : Around} {E : Value → Shared → Prop} {s : Shared}
def Flat1 (v : Value) : Prop := (∃ i t, v = .int i t) ∨ ∃ x t, v = .str x t
theorem flat_items {k : List Key} {vs : List Value} (h : ItemsAre (mixKind P w) k vs) : ∀ v ∈ vs, Flat1 v := by
  induction h with
  | nil => exact fun v hv => (by cases hv)
  | @cons k0 v0 ks vs h1 _ ih =>
    intro v hv
    rcases List.mem_cons.mp hv with rfl | hv
    · rcases keyIs_shape h1 with ⟨i, t, _, q⟩ | ⟨x, t, _, q⟩
      · exact .inl ⟨i, t, q⟩
      · exact .inr ⟨x, t, q⟩
    · exact ih v hv
theorem flat_cls (n : Nat) {v : Value} (h : Flat1 v) : ofAClassStatement n v = pure false := by
  rcases h with ⟨i, t, rfl⟩ | ⟨x, t, rfl⟩ <;> cases n <;> rfl
theorem hash_int (n : Nat) (i : Int) (t : Tok) : hashByValue n (.int i t) = pure true := by cases n <;> rfl
theorem hash_str (n : Nat) (x : Str) (t : Tok) : hashByValue n (.str x t) = pure false := by cases n <;> rfl
theorem ft_cls {k : List Key} {b : Addr} {Q : Bool → Shared → Prop} (hk : FT P w s.heap k b) (h : Q false s) : wpAny (model P w) A (ofAClassStatement 8 (.ref b)) Q E s := by
  have ty := hk.typeIs
  obtain ⟨o, its, n, ho, _, hd, hi⟩ := hk
  unfold ofAClassStatement
  refine wpAny_bind (wpAny_typeOf ty ?_)
  dsimp only
  have e : (("tuple" : String) == "tuple") = true := by decide
  simp only [e, if_true, Bool.not_true, Bool.false_eq_true, if_false]
  try refine wpAny_bind (wpAny_pure ?_)
  try simp only [Bool.not_true, Bool.false_eq_true, if_false]
  show wpAny _ _ (seqItems? (.ref b) >>= _) _ _ s
  refine wpAny_bind (wpAny_seqItems ho hd ?_)
  dsimp only
  refine wpAny_bind ?_
  show wpAny _ _ (forIn its _ _) _ _ s
  rw [← Array.forIn_toList]
  refine wpAny_forIn_list _ (fun r z s' => z.1 = none ∧ s' = s ∧ ∀ v ∈ r, Flat1 v) _ (fun v r z s' hz => ?_) (fun z s' hz => ?_) _ _ ⟨rfl, rfl, flat_items hi⟩
  · obtain ⟨_, rfl, al⟩ := hz
    rw [flat_cls _ (al v List.mem_cons_self)]
    refine wpAny_bind (wpAny_pure ?_)
    simp only [Bool.false_eq_true, if_false]
    exact wpAny_pure ⟨rfl, rfl, fun u hu => al u (List.mem_cons_of_mem _ hu)⟩
  · obtain ⟨z1, z2⟩ := z
    obtain ⟨hz, rfl, _⟩ := hz
    simp only at hz
    subst hz
    exact wpAny_pure h
theorem ft_byValue {k : List Key} {b : Addr} {Q : Bool → Shared → Prop} (hk : FT P w s.heap k b) (h : ∀ b, Q b s) : wpAny (model P w) A (hashByValue 8 (.ref b)) Q E s := by
  have ty := hk.typeIs
  obtain ⟨o, its, n, ho, _, hd, hi⟩ := hk
  unfold hashByValue
  refine wpAny_bind (wpAny_specialOf ty F.slot_tuple_hash.lookup ?_)
  show wpAny _ _ (seqItems? (.ref b) >>= _) _ _ s
  refine wpAny_bind (wpAny_seqItems ho hd (wpAny_bind ?_))
  show wpAny _ _ (forIn its _ _) _ _ s
  rw [← Array.forIn_toList]
  refine wpAny_forIn_list _ (fun r z s' => z.1 = none ∧ s' = s ∧ ∀ v ∈ r, Flat1 v) _ (fun v r z s' hz => ?_) (fun z s' hz => ?_) _ _ ⟨rfl, rfl, flat_items hi⟩
  · obtain ⟨_, rfl, al⟩ := hz
    rcases al v List.mem_cons_self with ⟨i, t, rfl⟩ | ⟨x, t, rfl⟩
    · rw [hash_int]
      refine wpAny_bind (wpAny_pure ?_)
      simp only [Bool.not_true, Bool.false_eq_true, if_false]
      exact wpAny_pure ⟨rfl, rfl, fun u hu => al u (List.mem_cons_of_mem _ hu)⟩
    · rw [hash_str]
      refine wpAny_bind (wpAny_pure ?_)
      simp only [Bool.not_false, if_true]
      exact wpAny_pure (wpAny_pure (h false))
  · obtain ⟨z1, z2⟩ := z
    obtain ⟨hz, rfl, _⟩ := hz
    simp only at hz
    subst hz
    exact wpAny_pure (h true)
theorem ft_unseen {k : List Key} {b : Addr} {Q : Bool → Shared → Prop} (hk : FT P w s.heap k b) {ys : List Value} (hy : ∀ y ∈ ys, ∃ k' c, y = Value.ref c ∧ FT P w s.heap k' c) (h : Q false s) : wpAny (model P w) A (searchCouldBeSeen (.ref b) ys) Q E s := by
  unfold searchCouldBeSeen
  refine wpAny_bind (wpAny_forIn_list _ (fun r z s' => z.1 = none ∧ s' = s ∧ ∀ y ∈ r, ∃ k' c, y = Value.ref c ∧ FT P w s.heap k' c) _ (fun v r z s' hz => ?_) (fun z s' hz => ?_) _ _ ⟨rfl, rfl, hy⟩)
  · obtain ⟨_, rfl, al⟩ := hz
    obtain ⟨k', c, rfl, hc⟩ := al v List.mem_cons_self
    have al' := fun u (hu : u ∈ r) => al u (List.mem_cons_of_mem _ hu)
    dsimp only
    by_cases hv : (b == c || (carriedByValue (.ref b) && carriedByValue (.ref c))) = true
    · exact wp_if_pos hv (wpAny_pure ⟨rfl, rfl, al'⟩)
    · refine wp_if_neg hv (wpAny_bind (wpAny_eqIsQuiet_tuple hk ?_))
      simp only [Bool.not_true, Bool.false_eq_true, if_false]
      refine wpAny_bind (wpAny_eqIsQuiet_tuple hc ?_)
      simp only [Bool.not_true, Bool.false_eq_true, if_false]
      refine wpAny_bind (ft_cls hk ?_)
      simp only [Bool.false_eq_true, if_false]
      refine wpAny_bind (ft_cls hc ?_)
      simp only [Bool.false_eq_true, if_false]
      exact wpAny_pure ⟨rfl, rfl, al'⟩
  · obtain ⟨z1, z2⟩ := z
    obtain ⟨hz, rfl, _⟩ := hz
    simp only at hz
    subst hz
    exact wpAny_pure h
theorem _root_.L2.TabOk.same {t t' : SetTable} {hs : List Int} (T : TabOk t hs) (g1 : t'.place = t.place) (g2 : t'.mask = t.mask) (g3 : t'.dummies = t.dummies) : TabOk t' hs :=
  ⟨by rw [g1]; exact T.ris, g3.trans T.dm, by rw [g1]; exact T.sz, by rw [g2]; exact T.mok, by rw [g1, g2]; exact T.bd, by rw [g1, g2]; exact T.reach⟩
/-- the set at a holds the tuples L, its table is the first one -/
structure FS (P : Program) (w : World) (h : Heap) (a : Addr) (L : List Row) (es : Array (Int × Value)) (ep : Nat) (t : SetTable) : Prop where
  ob : ∃ o, h.get? a = some o ∧ o.ExactSet ∧ o.data = .set es ep t
  rows : es.toList = L.map fun p => (fh P w p.2, Value.ref p.1)
  tab : TabOk t (L.map fun p => fh P w p.2)
  m7 : t.mask = 7
  tup : ∀ p ∈ L, FT P w h p.2 p.1
  few : L.length ≤ 3
variable {a : Addr} {L : List Row} {es : Array (Int × Value)} {ep : Nat} {t : SetTable}
theorem FS.esz (R : FS P w s.heap a L es ep t) : es.size = L.length := by
  have z := congrArg List.length R.rows
  rwa [Array.length_toList, List.length_map] at z
theorem FS.psz (R : FS P w s.heap a L es ep t) : t.place.size = L.length := by
  have z := R.tab.sz
  rwa [List.length_map] at z
theorem FS.fit (R : FS P w s.heap a L es ep t) : t.fits es.size = true := by
  have z1 := R.esz
  have z2 := R.psz
  have z3 := R.few
  have z4 := R.m7
  unfold SetTable.fits SetTable.fill
  rw [R.tab.dm, Bool.and_eq_true, beq_iff_eq, decide_eq_true_eq]
  refine ⟨by omega, ?_⟩
  show t.place.size + 0 ≤ t.mask
  omega
theorem FS.row (R : FS P w s.heap a L es ep t) {i : Nat} {p : Row} (h : L[i]? = some p) : es[i]? = some (fh P w p.2, Value.ref p.1) := by
  rw [← Array.getElem?_toList, R.rows, List.getElem?_map, h] <;> rfl
theorem FS.stays (R : FS P w s.heap a L es ep t) : ¬ t.gaveWay = true := by
  unfold SetTable.gaveWay
  rw [R.m7]
  decide
theorem nth_dummy (m : Nat) : ∀ (n : Nat) (p : SetTable.Probe), p.dummy = none → (nth m p n).dummy = none
  | 0, _, h => h
  | n + 1, p, h => nth_dummy m n (adv m p) (by unfold adv; split <;> exact h)
abbrev st0 (m : Nat) (h : Int) : SetTable.Probe := runAt m (SetTable.bits h % (m + 1)) (SetTable.bits h)
/-- a tuple that is not there: the first empty slot of its way is told -/
theorem fs_find (R : FS P w s.heap a L es ep t) {x : Addr} {k : List Key} (hx : FT P w s.heap k x) (hn : k ∉ L.map (·.2)) (hu : A.units < cLine) {K : Nat} (hKf : K < 10 * SetTable.turns t.mask) (hK : way t.mask (fh P w k) K ∉ t.place.toList)
    (hKb : ∀ c, c < K → way t.mask (fh P w k) c ∈ t.place.toList) {Q : SetFound → Shared → Prop} (hQ : Q (.free (way t.mask (fh P w k) K) false) s) :
    ∀ (f c : Nat) (stand : Option SetTable.Probe), stand.getD (t.probeStart (fh P w k)) = nth t.mask (st0 t.mask (fh P w k)) c → c ≤ K → K - c < f → wpAny (model P w) A (setSearchFrom a (.ref x) (fh P w k) true f stand) Q E s
  | 0, _, _, _, _, hf => absurd hf (Nat.not_lt_zero _)
  | f + 1, c, stand, hst, hc, hf => by
    obtain ⟨o, ho, hex, hd⟩ := R.ob
    have step : ∀ q, nth t.mask (nth t.mask (st0 t.mask (fh P w k)) c) q = nth t.mask (st0 t.mask (fh P w k)) (c + q) := fun q => (nth_add t.mask c _ q).symm
    have stepJ : ∀ q, (nth t.mask (nth t.mask (st0 t.mask (fh P w k)) c) q).j = way t.mask (fh P w k) (c + q) := fun q => congrArg SetTable.Probe.j (step q)
    have eK : c + (K - c) = K := by omega
    have met := go_spec t R.tab.ris R.tab.dm (fun i => (es[i]?.map (·.1)).getD 0) (fh P w k) (10 * SetTable.turns t.mask) (K - c) _ (nth_dummy t.mask c _ rfl) (by omega) (fun q hq => by rw [stepJ]; exact hKb (c + q) (by omega)) (by rw [stepJ, eK]; exact hK)
    rw [setSearchFrom_succ]
    refine wpAny_bind (wpAny_setState_of ho hd R.fit ?_)
    dsimp only
    refine wp_if_neg R.stays ?_
    try refine wpAny_bind (wpAny_pure ?_)
    rcases met with ⟨q, i, hq, hi, _, _, hp⟩ | ⟨_, hp⟩
    · have hp' : t.probe (fun i => (es[i]?.map (·.1)).getD 0) (fh P w k) (stand.getD (t.probeStart (fh P w k))) = some (.candidate (way t.mask (fh P w k) (c + q)) i (nth t.mask (st0 t.mask (fh P w k)) (c + (q + 1)))) := by rw [hst, ← stepJ, ← step]; exact hp
      rw [hp']
      dsimp only
      rw [stepJ] at hi
      have il : i < L.length := by
        have q1 : i < t.place.toList.length := (List.getElem?_eq_some_iff.mp hi).1
        rwa [Array.length_toList, R.psz] at q1
      obtain ⟨p, hpe⟩ : ∃ p, L[i]? = some p := ⟨_, List.getElem?_eq_getElem il⟩
      have pm : p ∈ L := List.mem_of_getElem? hpe
      have ne : ¬ p.2 = k := fun e => hn (List.mem_map.mpr ⟨p, pm, e⟩)
      have go : wpAny (model P w) A (searchRest a (.ref x) (fh P w k) true f es t (way t.mask (fh P w k) (c + q)) i (nth t.mask (st0 t.mask (fh P w k)) (c + (q + 1)))) Q E s := by
        unfold searchRest
        rw [R.row hpe]
        dsimp only
        refine wpAny_bind (wpAny_holding (wpAny_eqBool_tuple hu (R.tup p pm) hx (wpAny_bind (wpAny_setState_of ho hd R.fit ?_))))
        dsimp only
        refine wp_if_neg (by simp [ne]) ?_
        try refine wpAny_bind (wpAny_pure ?_)
        rw [sameMem]
        dsimp only
        simp only [if_true, slot_live R.tab.ris hi, R.row hpe]
        refine wpAny_bind (wpAny_isSame_ref_self (wpAny_bind (wpAny_pure ?_)))
        simp only [if_true]
        exact wp_if_neg (by simp [ne]) (fs_find R hx hn hu hKf hK hKb hQ f (c + (q + 1)) _ rfl (by omega) (by omega))
      by_cases hl : t.led = true
      · refine wp_if_neg (by simp [hl]) ?_
        try refine wpAny_bind (wpAny_pure ?_)
        exact go
      · refine wp_if_pos (by simp [hl]) (wpAny_bind (ft_unseen hx (fun y hy => ?_) ?_))
        · obtain ⟨e, he, ee⟩ := List.mem_map.mp hy
          have he2 : e ∈ es.toList := by
            have z : e ∈ es ∧ e.1 = fh P w k := by simpa using he
            simpa using z.1
          rw [R.rows] at he2
          obtain ⟨p2, hp2, e2⟩ := List.mem_map.mp he2
          exact ⟨p2.2, p2.1, by rw [← ee, ← e2], R.tup p2 hp2⟩
        · refine wp_if_neg (by decide) ?_
          try refine wpAny_bind (wpAny_pure ?_)
          exact go
    · have hp' : t.probe (fun i => (es[i]?.map (·.1)).getD 0) (fh P w k) (stand.getD (t.probeStart (fh P w k))) = some (.empty (way t.mask (fh P w k) K) none) := by
        have e2 := stepJ (K - c)
        rw [eK] at e2
        rw [hst, ← e2]
        exact hp
      rw [hp']
      exact wpAny_pure hQ
theorem ft_but {h h' : Heap} {k : List Key} {a b : Addr} {o : Obj} {es : Array (Int × Value)} {ep : Nat} {t : SetTable} (hb : FT P w h k b) (ho : h.get? a = some o) (hd : o.data = .set es ep t) (hs : Heap.SameBut a h h') : FT P w h' k b := by
  obtain ⟨o2, its, n, ho2, hc, hd2, hi⟩ := hb
  refine ⟨o2, its, n, (hs.2 b fun e => ?_).trans ho2, hc, hd2, hi⟩
  rw [e, ho] at ho2
  cases ho2
  rw [hd] at hd2
  cases hd2
/-- one more -/
theorem fs_add (R : FS P w s.heap a L es ep t) {x : Addr} {k : List Key} (hx : FT P w s.heap k x) (hn : k ∉ L.map (·.2)) (hu : A.units < cLine) (hfew : L.length ≤ 2) {Q : Bool → Shared → Prop}
    (hQ : ∀ h' L' es' ep' t', Heap.SameBut a s.heap h' → FS P w h' a L' es' ep' t' → L'.Perm ((x, k) :: L) → Q true { s with heap := h' }) : wpAny (model P w) A (setAddHashed a (.ref x) (fh P w k)) Q E s := by
  obtain ⟨o, ho, hex, hd⟩ := R.ob
  have m7 := R.m7
  obtain ⟨K, hKf, hK, hKb⟩ := R.tab.first (by rw [List.length_map, m7]; omega) (fh P w k)
  have Ksmall : K < 100000 := by
    rw [m7] at hKf
    have e : 10 * SetTable.turns 7 ≤ 1420 := by decide
    omega
  unfold setAddHashed
  refine wpAny_holding ?_
  rw [show (100000 : Nat) = 99999 + 1 from rfl, setAddHashedIn_succ]
  refine wpAny_bind (wpAny_setState_of ho hd R.fit ?_)
  dsimp only
  refine wp_if_neg (by simp [byScan, Value.scannable]) ?_
  try refine wpAny_bind (wpAny_pure ?_)
  refine wpAny_bind ?_
  unfold setSearch
  refine fs_find R hx hn hu hKf hK hKb ?_ 100000 0 none rfl (Nat.zero_le _) (by omega)
  dsimp only
  refine wpAny_bind (wpAny_setState_of ho hd R.fit ?_)
  dsimp only
  obtain ⟨q1, q2, q3, q4, q5, q6, _, _, q9⟩ := R.tab.put hK hKb
  generalize hpt : t.put (way t.mask (fh P w k) K) = pt at q1 q3 q4 q5 q6 q9 ⊢
  obtain ⟨t1, p⟩ := pt
  dsimp only at q1 q3 q4 q5 q6 q9 ⊢
  subst q1
  have hin : (SetTable.insertAt es (SetTable.below t.place (way t.mask (fh P w k) K)) (fh P w k, Value.ref x)).toList = (L.take (SetTable.below t.place (way t.mask (fh P w k) K)) ++ (x, k) :: L.drop (SetTable.below t.place (way t.mask (fh P w k) K))).map fun p => (fh P w p.2, Value.ref p.1) := by
    rw [SetTable.toList_insertAt, R.rows, List.map_append, List.map_cons, List.map_take, List.map_drop]
  generalize SetTable.below t.place (way t.mask (fh P w k) K) = j at q2 q3 hin ⊢
  have pm : (L.take j ++ (x, k) :: L.drop j).Perm ((x, k) :: L) := put_perm L j (x, k)
  have len1 := pm.length_eq
  rw [List.length_cons] at len1
  have e3 : (L.map fun p => fh P w p.2).take j ++ fh P w k :: (L.map fun p => fh P w p.2).drop j = (L.take j ++ (x, k) :: L.drop j).map fun p => fh P w p.2 := by rw [List.map_append, List.map_cons, List.map_take, List.map_drop]
  rw [e3] at q3
  generalize L.take j ++ (x, k) :: L.drop j = L1 at pm len1 q3 hin
  have z1 : (SetTable.insertAt es j (fh P w k, Value.ref x)).size = L1.length := by
    have z := congrArg List.length hin
    rwa [Array.length_toList, List.length_map] at z
  generalize SetTable.insertAt es j (fh P w k, Value.ref x) = es1 at hin z1 ⊢
  have fill1 : t1.fill = L.length + 1 := by rw [q9, List.length_map]
  have sb : Heap.SameBut a s.heap (s.heap.update a (Obj.putSet es1 t1)) := Heap.SameBut.update ..
  have fin : ∀ t2 : SetTable, t2.place = t1.place → t2.mask = t1.mask → t2.dummies = t1.dummies → ¬ t2.tooFull = true ∧ Q true { s with heap := s.heap.update a (Obj.putSet es1 t2) } := fun t2 g1 g2 g3 => by
    have sb : Heap.SameBut a s.heap (s.heap.update a (Obj.putSet es1 t2)) := Heap.SameBut.update ..
    refine ⟨fun z => ?_, hQ _ L1 es1 (ep + 1) t2 sb ⟨⟨_, store_at ho hd, ⟨hex.1, hex.2.1, hex.2.2⟩, rfl⟩, hin, q3.same g1 g2 g3, g2.trans (q4.trans m7), fun r hr => ?_, by omega⟩ pm⟩
    · have f2 : t2.fill = t1.fill := by unfold SetTable.fill; rw [g1, g3]
      unfold SetTable.tooFull at z
      rw [decide_eq_true_eq, f2, fill1, g2, q4, m7] at z
      omega
    · rcases List.mem_cons.mp (pm.mem_iff.mp hr) with e | hr
      · rw [e]; exact ft_but hx ho hd sb
      · exact ft_but (R.tup r hr) ho hd sb
  by_cases pl : t1.plain = true
  · first
      | (refine wpAny_bind ?_; refine wp_if_pos pl ?_; refine ft_byValue hx fun bv => ?_)
      | refine wp_if_pos pl (wpAny_bind (ft_byValue hx fun bv => ?_))
    have e : ∀ bv : Bool, (if bv = true then t1 else { t1 with plain := false }).place = t1.place ∧ (if bv = true then t1 else { t1 with plain := false }).mask = t1.mask ∧ (if bv = true then t1 else { t1 with plain := false }).dummies = t1.dummies := fun bv => by cases bv <;> exact ⟨rfl, rfl, rfl⟩
    obtain ⟨g1, g2, g3⟩ := e bv
    obtain ⟨slack, done⟩ := fin _ g1 g2 g3
    generalize (if bv = true then t1 else { t1 with plain := false }) = t2 at slack done ⊢
    refine wpAny_bind (wpAny_storeSet_of ho hd ?_ (by rw [z1, len1, sizeLine_eq]; omega))
    first
      | exact wp_if_neg (by simp [slack]) (wpAny_pure done)
      | (refine wpAny_bind ?_; exact wp_if_neg (by simp [slack]) (wpAny_pure (wpAny_pure done)))
      | (refine wp_if_neg (by simp [slack]) ?_; exact wpAny_bind (wpAny_pure (wpAny_pure done)))
  · first
      | (refine wpAny_bind ?_; refine wp_if_neg pl (wpAny_pure ?_))
      | refine wp_if_neg pl (wpAny_bind (wpAny_pure ?_))
    obtain ⟨slack, done⟩ := fin t1 rfl rfl rfl
    simp only [if_true]
    refine wpAny_bind (wpAny_storeSet_of ho hd ?_ (by rw [z1, len1, sizeLine_eq]; omega))
    first
      | exact wp_if_neg (by simp [slack]) (wpAny_pure done)
      | (refine wpAny_bind ?_; exact wp_if_neg (by simp [slack]) (wpAny_pure (wpAny_pure done)))
      | (refine wp_if_neg (by simp [slack]) ?_; exact wpAny_bind (wpAny_pure (wpAny_pure done)))
end
end AX

set_option Elab.async false
set_option linter.all false
set_option maxRecDepth 100000
set_option maxHeartbeats 4000000
/-! AX35: x(lambda: e), x a def that asks it. -/
namespace AX
open PySem PySem.Spec PyProof.Rows L2 LamX
section
variable {K : PySem.W.Frag} {ρ : List Addr} {H H1 : Hp} {A A' : AH} {P : Addr} {q : Str} {Q : VK}
/-- a table that grew -/
theorem tab_grow {j : Nat} (w : Wd K ρ H A) (hj : ρ[j]? = some P) (hA : A[j]? = some (.tab P q)) (keep : ∀ b o, H b = some o → b ≠ P → H1 b = some o) (dom : ∀ b, H1 b = none → H b = none) (T : TabS H1 P q) : Grow ρ H ρ H1 ∧ Wd K ρ H1 A := by
  obtain ⟨_, ps, hP, _⟩ := w.at_ j P _ hj hA
  have ne : ∀ {b : Addr} {o : HO}, H b = some o → (∀ ps, o ≠ .tbl ps) → b ≠ P := fun {b o} e n z => by
    rw [z, hP] at e
    exact n ps (Option.some.inj e).symm
  have tx : Tx H H1 := by
    refine ⟨fun a xs r => ?_, fun a o xs r => keep _ _ r (ne r fun _ => nofun), fun a o i r => keep _ _ r (ne r fun ps z => ?_)⟩
    · rcases r with r | ⟨o, r⟩
      · exact .inl (keep _ _ r (ne r fun _ => nofun))
      · exact .inr ⟨o, keep _ _ r (ne r fun _ => nofun)⟩
    · rw [z] at i
      exact i
  refine ⟨⟨⟨[], by simp, by simp⟩, fun a o e hn => keep a o e fun z => hn (z ▸ List.mem_of_getElem? hj), dom, tx⟩, ⟨w.len, w.nd, fun i a o hi hO => ?_⟩⟩
  by_cases e : i = j
  · subst e
    rw [hj] at hi
    cases hi
    rw [hA] at hO
    cases hO
    exact ⟨rfl, T⟩
  · have ap : a ≠ P := fun z => e ((List.getElem_inj w.nd).mp ((List.getElem?_eq_some_iff.mp hi).2.trans (z.trans (List.getElem?_eq_some_iff.mp hj).2.symm)))
    have o1 := w.at_ i a o hi hO
    obtain ⟨u, hu, _⟩ := o1.own
    have := o1.mono tx [] ((keep a u hu ap).trans hu.symm)
    rwa [List.append_nil] at this
/-- the lambda's end, as the asking def takes it -/
theorem ask_post {v : AV} (h : Post K (VR K) ρ H v A' Q) : ∀ r : Except AExc AV, askR r = some v → match r with
    | .ok x => Post K (VR K) ρ H x A' Q
    | .error e => PostX K ρ H e A' (askE K Q) := by
  intro r ha
  cases r with
  | ok x => cases ha; exact h
  | error e =>
    intro ρ' H' cls d g w er
    obtain ⟨hc, a, fs, hd, ea, hns, rv⟩ := er
    unfold askR at ha
    dsimp only at ha
    cases h1 : strB e.c "TooLarge" with
    | true =>
      rw [h1] at ha
      have ec := strB_true h1
      dsimp only at ha
      cases hx : fGet e.ns e.vs "what" with
      | none => rw [hx] at ha; cases ha
      | some x =>
        cases hy : fGet e.ns e.vs "limit" with
        | none => rw [hx, hy] at ha; cases ha
        | some y =>
          rw [hx, hy] at ha
          cases ha
          obtain ⟨u, hu, ru⟩ := fGet_ok hns rv hx
          obtain ⟨t, ht, rt⟩ := fGet_ok hns rv hy
          refine .inl ⟨by rw [hc, ec], a, fs, u, t, hd, ea, hu, ht, fun p hp => ?_⟩
          obtain ⟨w2, g2⟩ := w.out (u := .tup [u, t]) hp
          exact h ρ' _ _ (g.trans g2) w2 (.tup (Evl.st_of upd_same) (.cons (g2.vr ru) (.cons (g2.vr rt) .nil)))
    | false =>
      rw [h1] at ha
      dsimp only at ha
      cases h2 : strB e.c "BadSight" with
      | false => rw [h2] at ha; cases ha
      | true =>
        rw [h2] at ha
        have ec := strB_true h2
        obtain ⟨u, hu, ru⟩ := fGet_ok hns rv ha
        exact .inr ⟨by rw [hc, ec], a, fs, u, hd, ea, hu, h ρ' H' u g w ru⟩
end
theorem a_ask {X : Cx} {E : XK} {x a n q : Str} {c P : Addr} {k j : Nat} {pg : Arguments} {bg : List Stmt} {sg : Scope} {params : Arguments} {body : Expr} {scope : Scope} {fb : ASt → M AV} {p lpos pos : Pos}
    (F : ∃ fd, FunD X.K x x pg bg sg [] [] (He.ga X.K x) fd)
    (hbi : ∀ (kV doc pm : Value) (an : Option Addr) (cdv ct : Value) (us : List Value), us.length = [a].length → bindArgs (PySem.W.fnOf x x pg bg sg .none kV doc pm an cdv ct) ⟨us, []⟩ = pure ([a].zip us))
    (Sg : FnScope [a, n] [a] sg) (hB : AskB a n bg) (T : AskX X.K) (la : sg.names.lookup a = some .local) (ln : sg.names.lookup n = some .local)
    (hT : sg.names.lookup ("TooLarge" : Str) = some .globalImplicit) (hS : sg.names.lookup ("BadSight" : Str) = some .globalImplicit) (mT : X.mg "TooLarge" = some (.ref (He.ga X.K "TooLarge"))) (mS : X.mg "BadSight" = some (.ref (He.ga X.K "BadSight")))
    (hg : Gl X x) (hm : X.mg x = some (.ref (He.ga X.K x))) (TB : TabB X.base X.mg c P) (hcode : X.env.code = .ref c) (hq : lamQ X = q) (hr : Room (k + 2) X.A) (L : LamS X.env.scope scope) (hdef : defaultsOf params X.env = ([], []))
    (hbind : ∀ (q : Str) (cl : List (Str × Addr)) (pm cv ctv : Value), bindArgs (PySem.W.kla_fn "<lambda>" q params body scope cl pm cv ctv) ⟨[], []⟩ = pure [])
    (hbody : ∀ (A : Around) (outer : List Env) (s : Shared) (H : Hp) (E' : XK) (f c' : Addr), Room k (A.deeper (lamEnv X scope s.heap.objs.size f c')) → TkE (lamCx X A outer s H E' scope f c') E' → PE (lamCx X A outer s H E' scope f c') body (S X.K E' fb))
    (dx : (x == ("__debug__" : Str)) = false := by decide) (da : (a == ("__debug__" : Str)) = false := by decide) (ca : (a == ("__classdict__" : Str)) = false := by decide) (dn : (n == ("__debug__" : Str)) = false := by decide) (cn : (n == ("__classdict__" : Str)) = false := by decide) :
    PE X (.Call (.Name x p) [.Lambda params body scope lpos] [] pos) (S X.K E (aAsk P q j fb)) := by
  subst hq
  obtain ⟨fd, F⟩ := F
  have bd := F.bindsN hbi
  have kp := F.kp
  obtain ⟨oc, od, dV, kV, doc, pm, an, cdv, ct, osl, rfl, lk, hcd, _, _⟩ := F.ex
  refine ⟨fun pins s σ H Q I ⟨ρ, aσ, A, w, sr, y⟩ => ?_⟩
  obtain ⟨hA, l, A', r, v, hf, hl, ha, post⟩ := y.ask
  have hj : ρ[j]? = some P := by
    have jl : j < ρ.length := by rw [w.len]; exact (List.getElem?_eq_some_iff.mp hA).1
    have e := List.getElem?_eq_getElem jl
    obtain ⟨z, _⟩ := w.at_ j _ _ e hA
    rw [e, z]
  obtain ⟨_, tabS⟩ := w.at_ j P _ hj hA
  refine wpAny_Call_Name_kw (ld_glob I hg hm ?_ dx)
  refine PySem.W.callWith_K (h₀ := X.base) I.ok.mod.kin kp ?_ (by rfl) (by rfl)
  show wpAny _ _ (spliced ((false, eval (.Lambda params body scope lpos) X.env) :: backTo pos (starEach [] X.env))) _ _ s
  refine Calls.spliced_cons (lam_new I TB hcode tabS hdef (L.has I.ok) fun f c' pm' ctv H1 s' I1 keep dom T1 hfp hfn hfr hco => ?_)
  refine Calls.spliced_nil ⟨I1.kIn, ?_⟩
  obtain ⟨g, w1⟩ := tab_grow w hj hA keep dom T1
  have read : S X.K (askE X.K Q) fb σ H1 Q := ⟨ρ, aσ, A, w1, sr.grow g, l, A', r, hf, hl, by
    have z := ask_post (post.tr g) r ha
    cases r <;> exact z⟩
  have run : codeAny (model X.prog X.w) X.A (.call (.ref (He.ga X.K x)) ⟨[.ref f], []⟩) (CR C8.CX0 X.stack X.prog X.w H1 s' Q C8.E0) s' := by
    have b1 := bd s' [.ref f] I1.kIn rfl
    refine run_ofS (N := [a, n]) (ps := [a]) (us := [.ref f]) (vs := [.ref f]) lk hcd Sg hr I1.env0 b1 (.cons rfl .nil) rfl fun hr' => ?_
    obtain ⟨t', ht, hq'⟩ := ask_body (tl := fun E' H' Q' => S X.K E' fb σ H' Q') hB T Sg ln hT hS mT mS dn cn (fun W pn xe E' p1 p2 tk hW => pe_act (i := 0) (tb := S X.K E' fb) I1 L hfp hfn hfr (hbind _ _ _ _ _) tk hW hr'
      (fun A outer s H hr2 => hbody A outer s H E' f c' hr2 (takesN (L2.takes_of rfl rfl rfl rfl))) rfl (.inl la) da ca) hco read
    exact ⟨t', ht.nox, hq'⟩
  refine wpAny_call (codeAny_mono run fun r2 s2 hq => ?_)
  cases r2 with
  | error e => exact (show False from hq).elim
  | ok fl =>
    cases fl with
    | ret u => exact I1.after hq
    | next => exact False.elim hq
    | brk => exact False.elim hq
    | cont => exact False.elim hq
end AX

set_option Elab.async false
set_option linter.all false
set_option maxRecDepth 100000
set_option maxHeartbeats 4000000
/-! AX36: set(xs) of a tuple and of a list, whatever is put in. -/
namespace AX
open PySem PySem.Spec PyProof.Rows L2
/-- the old objects stand -/
abbrev Old (h0 h : Heap) : Prop := ∀ b o, h0.get? b = some o → h.get? b = some o
/-- what is known of the set at S behind i items; each item may be put in -/
structure Puts (P : Program) (w : World) (A : Around) (S : Addr) (n : Nat) (Pv : Nat → Value → Prop) (h0 : Heap) (J : Nat → Heap → Prop) : Prop where
  keep : ∀ i h h', J i h → (∀ o, h.get? S = some o → h'.get? S = some o) → Old h0 h' → J i h'
  step : ∀ (i : Nat) (v : Value) (s : Shared) (E : Value → Shared → Prop) (Q : Bool → Shared → Prop), i < n → Pv i v → J i s.heap → Old h0 s.heap →
    (∀ b h' tk, Heap.SameBut S s.heap h' → s.toks ≤ tk → J (i + 1) h' → Q b { s with heap := h', toks := tk }) → wpAny (model P w) A (setAdd S v) Q E s
section
variable {P : Program} {w : World} {A : Around} {R : Result → Shared → Prop} {I S : Addr} {fp wr : List Addr} {G : Array GenState → Array GenState → Prop} {n : Nat} {Pv : Nat → Value → Prop} {St : Nat → Shared → Prop} {h0 : Heap} {J : Nat → Heap → Prop}
theorem upd_loop (W : WalksS P w A.in1 I fp wr G n Pv St) (hS : S ∉ fp) (p : Puts P w A.in1 S n Pv h0 J) (nS : h0.get? S = none) (nw : ∀ b ∈ wr, h0.get? b = none) :
    ∀ (k i : Nat) (s : Shared), n - i = k → i ≤ n → St i s → Old h0 s.heap → J i s.heap →
      (∀ s', Moved (S :: wr) G s s' → J n s'.heap → Old h0 s'.heap → R (.ok (.ret .none)) s') → codeAny (model P w) A (.builtin "set.update.loop" ⟨[.ref S, .ref I], []⟩) R s := by
  have Sw : S ∉ wr := fun h => hS (W.sub _ h)
  have up : ∀ b ∈ wr, b ∈ S :: wr := fun b hb => List.mem_cons_of_mem _ hb
  have on : ∀ {s s' : Shared}, Moved wr G s s' → Old h0 s.heap → Old h0 s'.heap := fun hm ho b o e => hm.heap b o (fun hb => by rw [nw b hb] at e; cases e) (ho b o e)
  intro k
  induction k with
  | zero =>
    intro i s hk hi st ho hJ hR
    obtain rfl : i = n := by omega
    refine codeAny_builtin PyProof.Rows.F.entry_set_update_loop ?_
    rw [Around.under_plainId PyProof.Rows.F.plain_set_update_loop _]
    show wpAny _ A.in1 (pyNext (.ref I) >>= _) _ _ s
    refine wpAny_bind (W.done s _ _ st fun s' hm => ?_)
    show wpAny _ A.in1 (ret Value.none) _ _ s'
    exact wpAny_pure (hR s' (hm.mono up) (p.keep i _ _ hJ (fun o e => hm.heap S o Sw e) (on hm ho)) (on hm ho))
  | succ k ih =>
    intro i s hk hi st ho hJ hR
    have hlt : i < n := by omega
    refine codeAny_builtin PyProof.Rows.F.entry_set_update_loop ?_
    rw [Around.under_plainId PyProof.Rows.F.plain_set_update_loop _]
    show wpAny _ A.in1 (pyNext (.ref I) >>= _) _ _ s
    refine wpAny_bind (W.item i s _ _ hlt st fun v s' hP st' hm => ?_)
    show wpAny _ A.in1 (holding [v] (setAdd S v) >>= _) _ _ s'
    have o1 := on hm ho
    refine wpAny_bind (wpAny_holding (p.step i v s' _ _ hlt hP (p.keep i _ _ hJ (fun o e => hm.heap S o Sw e) o1) o1 fun b h' tk sb htk hJ' => ?_))
    have stay : ∀ c o, c ≠ S → s'.heap.get? c = some o → h'.get? c = some o := fun c o hc e => (sb.2 c hc).trans e
    have o2 : Old h0 h' := fun c o e => stay c o (fun z => by rw [z, nS] at e; cases e) (o1 c o e)
    refine wpAny_pure ⟨plainId_quiet PyProof.Rows.F.plain_set_update_loop _, ih (i + 1) _ (by omega) hlt (W.frame _ s' _ _ st' htk fun c hc o e => stay c o (fun z => hS (by rw [← z]; exact hc)) e) o2 hJ' fun s2 hm2 hJ2 ho2 => ?_⟩
    exact hR s2 (Moved.trans W.gtrans ((hm.mono up).then_heap htk fun c o hc e => stay c o (fun z => hc (by rw [z]; exact List.mem_cons_self)) e) hm2) hJ2 ho2
end
abbrev newSet (w : World) : Obj := { cls := .type "set", dict := none, data := .set #[] 0 (.fresh 0 0 (!w.params.followText "set-order")) }
section
variable {P : Program} {w : World} {A : Around} {E : Value → Shared → Prop} {s : Shared}
theorem none_above {h : Heap} {b : Addr} (hb : h.objs.size ≤ b) : h.get? b = none := by
  cases q : h.get? b with
  | none => rfl
  | some o => exact absurd (Nat.lt_of_lt_of_le (Heap.lt_size q) hb) (Nat.lt_irrefl _)
set_option maxHeartbeats 8000000 in
theorem call_set_tup {l : Addr} {its : Array Value} {J : Nat → Heap → Prop} {Q : Value → Shared → Prop} (hh : A.handled = none) (hl : s.heap.IsTuple l its) (p : ∀ A' : Around, A'.units ≤ A.units + 8 → Puts P w A' s.heap.objs.size its.size (fun i v => its[i]? = some v) s.heap J)
    (j0 : ∀ h : Heap, Old s.heap h → h.get? s.heap.objs.size = some (newSet w) → J 0 h)
    (h : ∀ (h' : Heap) (tk : Nat), J its.size h' → Old s.heap h' → Q (.ref s.heap.objs.size) { s with heap := h', toks := tk }) : wpAny (model P w) A (call (.type "set") [.ref l]) Q E s := by
  obtain ⟨c, tl, mro⟩ := PySem.F.called_set.mro
  have made := PySem.F.called_set.made
  have subs := PySem.F.called_set.sub
  refine wpAny_call (codeAny_of_tree ?_)
  show wpAny _ _ (callAny (.type "set") _) _ _ _
  refine wpAny_pure ⟨Code.quiet_builtin _ (by decide +kernel), codeAny_builtin PySem.F.entry_type_call ?_⟩
  rw [Around.under_plain (weight_type_call_type "set" [.ref l] []) rfl]
  have k1 := PySem.F.called_set.notType
  have k2 := PySem.F.called_set.canCreate
  have k3 := PySem.F.typeCall_set_1 (.ref l)
  repeat (any_goals (first | assumption | wp_step))

  refine codeAny_mono (L2.code_set_led1 (.ref l) (E := E) (Q₁ := fun obj s₁ => obj = .ref s.heap.objs.size ∧ s₁ = { s with heap := s.heap.push (newSet w) }) ⟨rfl, rfl⟩) fun r s₁ hr => ?_
  match r, hr with
  | .error e, hr => exact hr
  | .ok .next, hr => exact hr.elim
  | .ok .brk, hr => exact hr.elim
  | .ok .cont, hr => exact hr.elim
  | .ok (.ret obj), hr =>
    obtain ⟨rfl, rfl⟩ := hr
    have gS : (s.heap.push (newSet w)).get? s.heap.objs.size = some (newSet w) := Heap.get?_push_size _ rfl
    have tS : Shared.TypeIs { s with heap := s.heap.push (newSet w) } (.ref s.heap.objs.size) "set" := ⟨_, gS, rfl⟩
    have k4 := PySem.F.called_set.init.lookup
    have k5 := PySem.F.called_set.init.bind (.ref s.heap.objs.size)
    repeat (any_goals (first | assumption | wp_step))

    refine codeAny_mono (codeAny_call_builtin (R := wants (fun r s₂ => r = .none ∧ ∃ h' tk, s₂ = { s with heap := h', toks := tk } ∧ J its.size h' ∧ Old s.heap h') E) PySem.F.called_set.init.plain PySem.F.entry_set_init (check_set_init_1 tS ?_)) fun r₂ s₂ hr₂ => ?_
    · obtain ⟨⟨oc, od, odt, osl⟩, ho, hc, nl, hd⟩ := hl
      simp only at hc hd
      subst hc hd
      have ho1 : (s.heap.push (newSet w)).get? l = some { cls := .type "tuple", dict := od, data := .seq its nl, slots := osl } := Heap.get?_push_of_some _ ho
      have k6 := PySem.F.sub_tuple_set
      have k7 := PySem.F.sub_tuple_frozenset
      have k8 : (Value.type "tuple" == Value.type "dict") = false := by decide
      have hl1 : (s.heap.push (newSet w)).IsTuple l its := ⟨_, ho1, rfl, nl, rfl⟩
      have lS : l < s.heap.objs.size := Heap.lt_size ho
      unfold Builtin.«set.__init__» noKeywords Builtin.Frozenset.updateFrom
      generalize hPI : pyIter = PI
      wp_walk
      subst hPI
      refine wpAny_pyIter_tuple hl1 ?_
      refine wpAny_bind (wpAny_runValue ?_)
      have hh3 : A.in1.in1.in1.handled = none := by simp [hh]
      have nI : l ≠ (s.heap.push (newSet w)).objs.size := by rw [Heap.size_push]; exact Nat.ne_of_lt (Nat.lt_succ_of_lt lS)
      have nS : s.heap.objs.size ∉ [(s.heap.push (newSet w)).objs.size, l] := by
        rw [Heap.size_push]
        simp only [List.mem_cons, List.mem_singleton, List.not_mem_nil, or_false, not_or]
        exact ⟨Nat.ne_of_lt (Nat.lt_succ_self _), Nat.ne_of_gt lS⟩
      refine upd_loop ((Walks.tuple hh3 _ l nI its).toS) nS (p _ (by simp only [Around.in1_units]; omega)) (none_above (Nat.le_refl _)) (fun b hb => none_above (by rw [List.mem_singleton.mp hb, Heap.size_push]; exact Nat.le_succ _)) (its.size - 0) 0 _ (by omega) (Nat.zero_le _)
        ⟨⟨_, Heap.get?_push_size _ rfl, rfl, rfl⟩, hl1.push _⟩ (fun b o e => Heap.get?_push_of_some _ (Heap.get?_push_of_some _ e)) (j0 _ (fun b o e => Heap.get?_push_of_some _ (Heap.get?_push_of_some _ e)) (Heap.get?_push_of_some _ gS)) fun s' hm hJ ho' => ?_
      obtain ⟨h', g', d', tk', os'⟩ := s'
      obtain rfl : g' = s.gens := hm.gens
      obtain rfl : d' = s.drawn := hm.drawn
      obtain rfl : os' = s.os := hm.os
      show wpAny _ _ _ _ _ _
      refine wpAny_pure ?_
      show wpAny _ _ (ret Value.none) _ _ _
      exact wpAny_pure ⟨rfl, h', tk', rfl, hJ, ho'⟩
    · match r₂, hr₂ with
      | .error e, hr₂ => exact hr₂
      | .ok .next, hr₂ => exact hr₂.elim
      | .ok .brk, hr₂ => exact hr₂.elim
      | .ok .cont, hr₂ => exact hr₂.elim
      | .ok (.ret r), hr₂ =>
        obtain ⟨rfl, h', tk, rfl, hJ, ho'⟩ := hr₂
        repeat (any_goals (first | assumption | wp_step))
        exact h _ _ hJ ho'
set_option maxHeartbeats 8000000 in
theorem call_set_lst {l : Addr} {its : Array Value} {J : Nat → Heap → Prop} {Q : Value → Shared → Prop} (hh : A.handled = none) (hl : s.heap.IsList l its) (p : ∀ A' : Around, A'.units ≤ A.units + 8 → Puts P w A' s.heap.objs.size its.size (fun i v => its[i]? = some v) s.heap J)
    (j0 : ∀ h : Heap, Old s.heap h → h.get? s.heap.objs.size = some (newSet w) → J 0 h)
    (h : ∀ (h' : Heap) (tk : Nat), J its.size h' → Old s.heap h' → Q (.ref s.heap.objs.size) { s with heap := h', toks := tk }) : wpAny (model P w) A (call (.type "set") [.ref l]) Q E s := by
  obtain ⟨c, tl, mro⟩ := PySem.F.called_set.mro
  have made := PySem.F.called_set.made
  have subs := PySem.F.called_set.sub
  refine wpAny_call (codeAny_of_tree ?_)
  show wpAny _ _ (callAny (.type "set") _) _ _ _
  refine wpAny_pure ⟨Code.quiet_builtin _ (by decide +kernel), codeAny_builtin PySem.F.entry_type_call ?_⟩
  rw [Around.under_plain (weight_type_call_type "set" [.ref l] []) rfl]
  have k1 := PySem.F.called_set.notType
  have k2 := PySem.F.called_set.canCreate
  have k3 := PySem.F.typeCall_set_1 (.ref l)
  repeat (any_goals (first | assumption | wp_step))

  refine codeAny_mono (L2.code_set_led1 (.ref l) (E := E) (Q₁ := fun obj s₁ => obj = .ref s.heap.objs.size ∧ s₁ = { s with heap := s.heap.push (newSet w) }) ⟨rfl, rfl⟩) fun r s₁ hr => ?_
  match r, hr with
  | .error e, hr => exact hr
  | .ok .next, hr => exact hr.elim
  | .ok .brk, hr => exact hr.elim
  | .ok .cont, hr => exact hr.elim
  | .ok (.ret obj), hr =>
    obtain ⟨rfl, rfl⟩ := hr
    have gS : (s.heap.push (newSet w)).get? s.heap.objs.size = some (newSet w) := Heap.get?_push_size _ rfl
    have tS : Shared.TypeIs { s with heap := s.heap.push (newSet w) } (.ref s.heap.objs.size) "set" := ⟨_, gS, rfl⟩
    have k4 := PySem.F.called_set.init.lookup
    have k5 := PySem.F.called_set.init.bind (.ref s.heap.objs.size)
    repeat (any_goals (first | assumption | wp_step))

    refine codeAny_mono (codeAny_call_builtin (R := wants (fun r s₂ => r = .none ∧ ∃ h' tk, s₂ = { s with heap := h', toks := tk } ∧ J its.size h' ∧ Old s.heap h') E) PySem.F.called_set.init.plain PySem.F.entry_set_init (check_set_init_1 tS ?_)) fun r₂ s₂ hr₂ => ?_
    · obtain ⟨⟨oc, od, odt, osl⟩, ho, hc, nl, hd⟩ := hl
      simp only at hc hd
      subst hc hd
      have ho1 : (s.heap.push (newSet w)).get? l = some { cls := .type "list", dict := od, data := .seq its nl, slots := osl } := Heap.get?_push_of_some _ ho
      have k6 := PySem.F.sub_list_set
      have k7 := PySem.F.sub_list_frozenset
      have k8 : (Value.type "list" == Value.type "dict") = false := by decide
      have hl1 : (s.heap.push (newSet w)).IsList l its := ⟨_, ho1, rfl, nl, rfl⟩
      have lS : l < s.heap.objs.size := Heap.lt_size ho
      unfold Builtin.«set.__init__» noKeywords Builtin.Frozenset.updateFrom
      generalize hPI : pyIter = PI
      wp_walk
      subst hPI
      refine wpAny_pyIter_list hl1 ?_
      refine wpAny_bind (wpAny_runValue ?_)
      have hh3 : A.in1.in1.in1.handled = none := by simp [hh]
      have nI : l ≠ (s.heap.push (newSet w)).objs.size := by rw [Heap.size_push]; exact Nat.ne_of_lt (Nat.lt_succ_of_lt lS)
      have nS : s.heap.objs.size ∉ [(s.heap.push (newSet w)).objs.size, l] := by
        rw [Heap.size_push]
        simp only [List.mem_cons, List.mem_singleton, List.not_mem_nil, or_false, not_or]
        exact ⟨Nat.ne_of_lt (Nat.lt_succ_self _), Nat.ne_of_gt lS⟩
      refine upd_loop ((Walks.list hh3 _ l nI its).toS) nS (p _ (by simp only [Around.in1_units]; omega)) (none_above (Nat.le_refl _)) (fun b hb => none_above (by rw [List.mem_singleton.mp hb, Heap.size_push]; exact Nat.le_succ _)) (its.size - 0) 0 _ (by omega) (Nat.zero_le _)
        ⟨⟨_, Heap.get?_push_size _ rfl, rfl, rfl⟩, hl1.push _⟩ (fun b o e => Heap.get?_push_of_some _ (Heap.get?_push_of_some _ e)) (j0 _ (fun b o e => Heap.get?_push_of_some _ (Heap.get?_push_of_some _ e)) (Heap.get?_push_of_some _ gS)) fun s' hm hJ ho' => ?_
      obtain ⟨h', g', d', tk', os'⟩ := s'
      obtain rfl : g' = s.gens := hm.gens
      obtain rfl : d' = s.drawn := hm.drawn
      obtain rfl : os' = s.os := hm.os
      show wpAny _ _ _ _ _ _
      refine wpAny_pure ?_
      show wpAny _ _ (ret Value.none) _ _ _
      exact wpAny_pure ⟨rfl, h', tk', rfl, hJ, ho'⟩
    · match r₂, hr₂ with
      | .error e, hr₂ => exact hr₂
      | .ok .next, hr₂ => exact hr₂.elim
      | .ok .brk, hr₂ => exact hr₂.elim
      | .ok .cont, hr₂ => exact hr₂.elim
      | .ok (.ret r), hr₂ =>
        obtain ⟨rfl, h', tk, rfl, hJ, ho'⟩ := hr₂
        repeat (any_goals (first | assumption | wp_step))
        exact h _ _ hJ ho'
end
end AX

set_option Elab.async false
set_option linter.all false
set_option maxRecDepth 100000
set_option maxHeartbeats 4000000
/-! AX37: len(set(t)) of a tuple of at most three flat tuples that all differ. -/
namespace AX
open PySem PySem.Spec PyProof.Rows L2
theorem items_of {P : Program} {w : World} : ∀ {ks : List Key} {us : List Value}, Vals (ks.map kV) us → ItemsAre (mixKind P w) ks us
  | [], _, .nil => .nil
  | .inl i :: ks, _, .cons r t => by
    obtain ⟨u, rfl⟩ := r
    exact .cons (mixKind_int P w i u) (items_of t)
  | .inr x :: ks, _, .cons r t => by
    obtain ⟨u, rfl⟩ := r
    exact .cons (mixKind_str P w x u) (items_of t)
theorem ft_of {P : Program} {w : World} {h : Heap} {a : Addr} {ks : List Key} {its : List Value} (hp : IsTup h a its.toArray) (r : Vals (ks.map kV) its) : FT P w h ks a := by
  obtain ⟨o, e, c, n, d⟩ := hp
  exact ⟨o, its.toArray, n, e, c, d, by simpa using items_of r⟩
theorem ft_old {P : Program} {w : World} {h h' : Heap} {k : List Key} {b : Addr} (x : FT P w h k b) (o : Old h h') : FT P w h' k b := by
  obtain ⟨ob, its, n, ho, r⟩ := x
  exact ⟨ob, its, n, o b ob ho, r⟩
/-- behind i tuples -/
def FJ (P : Program) (w : World) (S : Addr) (ks : List Row) (i : Nat) (h : Heap) : Prop := ∃ L es ep t, FS P w h S L es ep t ∧ L.length = i ∧ ∀ r ∈ L, r ∈ ks.take i
theorem fj_puts {P : Program} {w : World} {A : Around} {S : Addr} {ks : List Row} {its : Array Value} {h0 : Heap} (hu : A.units < cLine) (hi : its.toList = ks.map fun r => Value.ref r.1) (hk : ∀ r ∈ ks, FT P w h0 r.2 r.1) (nd : (ks.map (·.2)).Nodup) (h3 : ks.length ≤ 3) :
    Puts P w A S its.size (fun i v => its[i]? = some v) h0 (FJ P w S ks) where
  keep := fun i h h' ⟨L, es, ep, t, R, hl, hs⟩ hS ho => by
    obtain ⟨o, e, r⟩ := R.ob
    exact ⟨L, es, ep, t, ⟨⟨o, hS o e, r⟩, R.rows, R.tab, R.m7, fun r hr => ft_old (hk r (List.mem_of_mem_take (hs r hr))) ho, R.few⟩, hl, hs⟩
  step := fun i v s E Q hlt hv ⟨L, es, ep, t, R, hl, hs⟩ ho hQ => by
    have hv2 : its.toList[i]? = some v := by rw [Array.getElem?_toList]; exact hv
    rw [hi, List.getElem?_map] at hv2
    cases hr : ks[i]? with
    | none => rw [hr] at hv2; cases hv2
    | some r =>
      rw [hr] at hv2
      cases hv2
      have hx : FT P w s.heap r.2 r.1 := ft_old (hk r (List.mem_of_getElem? hr)) ho
      have il : i < ks.length := (List.getElem?_eq_some_iff.mp hr).1
      have hn : r.2 ∉ L.map (·.2) := fun hm => by
        obtain ⟨q, hq, e⟩ := List.mem_map.mp hm
        obtain ⟨j, hj⟩ := List.getElem?_of_mem (hs q hq)
        rw [List.getElem?_take] at hj
        split at hj
        · rename_i hji
          have jl : j < ks.length := (List.getElem?_eq_some_iff.mp hj).1
          have e1 : (ks.map (·.2))[j]? = some r.2 := by rw [List.getElem?_map, hj, ← e] <;> rfl
          have e2 : (ks.map (·.2))[i]? = some r.2 := by rw [List.getElem?_map, hr] <;> rfl
          have := (List.getElem?_inj (by rw [List.length_map]; exact jl) nd).mp (e1.trans e2.symm)
          omega
        · cases hj
      unfold setAdd
      refine wpAny_holding (wpAny_bind (wpAny_pyHash_tuple hu hx ?_))
      refine fs_add (s := { s with toks := s.toks + (r.2.length + 1) }) R hx hn hu (by omega) fun h' L' es' ep' t' sb R' pm => hQ true h' _ sb (Nat.le_add_right _ _) ⟨L', es', ep', t', R', by rw [pm.length_eq, List.length_cons, hl], fun q hq => ?_⟩
      have tk : ks.take (i + 1) = ks.take i ++ [r] := by rw [List.take_succ, hr] <;> rfl
      rw [tk]
      rcases List.mem_cons.mp (pm.mem_iff.mp hq) with e | hq
      · rw [e]; exact List.mem_append_right _ (List.mem_singleton.mpr rfl)
      · exact List.mem_append_left _ (hs q hq)
theorem fs_new {P : Program} {w : World} {h : Heap} {a : Addr} (e : h.get? a = some (newSet w)) : FJ P w a [] 0 h := ⟨[], #[], 0, _, ⟨⟨_, e, ⟨rfl, rfl, rfl⟩, rfl⟩, rfl,
  ⟨List.Pairwise.nil, rfl, rfl, .inl rfl, fun x hx => (by cases hx), fun i h j hi => (by simp at hi)⟩, rfl, fun p hp => (by cases hp), Nat.zero_le _⟩, rfl, fun r hr => (by cases hr)⟩
def tLenSetF (K : PySem.W.Frag) (ta : TE) : TE := fun σ H Q => ta σ H fun x H1 => ∃ (l : Addr) (ks : List Row), x = .ref l ∧ SqT K H1 l (ks.map fun r => V.ref r.1) ∧ (∀ r ∈ ks, SqT K H1 r.1 (r.2.map kV)) ∧ (ks.map (·.2)).Nodup ∧ ks.length ≤ 3 ∧ Q (.int (ks.length : Nat)) H1
theorem vals_refs : ∀ {ks : List Row} {us : List Value}, Vals (ks.map fun r => V.ref r.1) us → us = ks.map fun r => Value.ref r.1
  | [], _, .nil => rfl
  | r :: ks, _, .cons e t => by
    rw [vals_refs t, List.map_cons]
    congr 1
theorem pe_lenSetF {X : Cx} {a : Expr} {ta : TE} {p p2 q pos : Pos} (hu : X.A.units + 64 < cLine) (hg : Gl X "len") (hm : X.mg "len" = none) (hg2 : Gl X "set") (hm2 : X.mg "set" = none) (ha : PE X a ta) (hc : X.calm = true := by rfl)
    (na : starEach [a] X.env = (false, eval a X.env) :: starEach [] X.env := by rfl) : PE X (.Call (.Name "len" p) [.Call (.Name "set" p2) [a] [] q] [] pos) (tLenSetF X.K ta) := by
  refine ⟨fun pins s σ H Q I h => ?_⟩
  refine Call_ (ld_blt I hg hm boot_len (PyProof.Rows.callWith_builtin1 (PyProof.Rows.args_cons ?_ rfl) rfl rfl))
  refine Call_ (ld_blt I hg2 hm2 boot_set (PyProof.Rows.callWith_type1 (PyProof.Rows.args_cons (thn (ha.run pins s σ H _ I h) fun v s1 ⟨x, H1, I1, r1, q1⟩ => PyProof.Rows.args_nil ?_) na) na rfl))
  obtain ⟨l, ks, rfl, hq, hks, hnd, h3, q1⟩ := q1
  cases r1
  obtain ⟨its, r, pl, hz⟩ := I1.tuple hq
  have ei := vals_refs r
  have hlen : its.toArray.size = ks.length := by rw [List.size_toArray, ei, List.length_map]
  have fk : ∀ r ∈ ks, FT X.prog X.w s1.heap r.2 r.1 := fun r hr => let ⟨_, rv, p, _⟩ := I1.tuple (hks r hr); ft_of p rv
  refine call_set_tup (J := FJ X.prog X.w s1.heap.objs.size ks) (I1.ok.hd hc) (show s1.heap.IsTuple l its.toArray from pl) (fun A' hA => fj_puts (by omega) (by simpa using ei) fk hnd h3) (fun h ho e => ?_) fun h' tk hJ ho => PyProof.Rows.args_nil ?_
  · obtain ⟨L, es, ep, t, R, hl, hs⟩ := fs_new (P := X.prog) e
    have : L = [] := List.eq_nil_of_length_eq_zero hl
    subst this
    exact ⟨[], es, ep, t, R, rfl, fun r hr => (by cases hr)⟩
  · rw [hlen] at hJ
    obtain ⟨L, es, ep, t, R, hl, _⟩ := hJ
    obtain ⟨o, e, hex, hd⟩ := R.ob
    have hn := (FS.esz (s := { s1 with heap := h', toks := tk }) R).trans hl
    have I2 : Inv X pins σ H1 { s1 with heap := h', toks := tk } := I1.kept fun b o e => ho b o e
    exact call_len_set e hex hd (FS.fit (s := { s1 with heap := h', toks := tk }) R) (by rw [hn]; omega) ⟨.int ks.length, H1, I2.tok _, ⟨_, by rw [hn]⟩, q1⟩
end AX

set_option Elab.async false
set_option linter.all false
set_option maxRecDepth 100000
set_option maxHeartbeats 4000000
/-! AX38: sorted(set(xs)) of a list of texts. -/
namespace AX
open PySem PySem.Spec PyProof.Rows L2
def txOf (e : Int × Value) : Str := match e.2 with
  | .str x _ => x
  | _ => Str.empty
abbrev TxE (P : Program) (w : World) (e : Int × Value) : Prop := ∃ x tk, e.2 = Value.str x tk ∧ e.1 = (PySem.strKind P w).hash x
/-- the set at a has the texts ys, in its table's order -/
def SetX (P : Program) (w : World) (h : Heap) (a : Addr) (ys : List Str) : Prop := ∃ o es ep t, h.get? a = some o ∧ o.ExactSet ∧ o.data = .set es ep t ∧ (∀ e ∈ es.toList, TxE P w e) ∧ es.toList.map txOf = ys ∧ ys.Nodup ∧
  es.size < scanBound ∧ t.fits es.size = true ∧ Ris t.place.toList ∧ (w.params.followText "set-order" = true ∨ t.led = true)
section
variable {P : Program} {w : World} {A : Around} {E : Value → Shared → Prop} {s : Shared} {a : Addr} {ys : List Str}
theorem tx_elems {l : List (Int × Value)} (g : ∀ e ∈ l, TxE P w e) : ElemsOf (PySem.strKind P w) l := fun e he => by
  obtain ⟨x, tk, h1, h2⟩ := g e he
  exact ⟨⟨x, by rw [h1]; exact PySem.strKind_is P w x tk, h2⟩, by rw [h1] <;> rfl⟩
theorem tx_is {e : Int × Value} (g : TxE P w e) (x : Str) : (PySem.strKind P w).is x e.2 = true ↔ txOf e = x := by
  obtain ⟨y, tk, h1, _⟩ := g
  unfold txOf
  rw [h1]
  constructor
  · intro h
    exact ((PySem.strKind P w).inj _ _ _ (PySem.strKind_is P w y tk) h)
  · intro h
    rw [← h]
    exact PySem.strKind_is P w y tk
theorem tx_mem {l : List (Int × Value)} (g : ∀ e ∈ l, TxE P w e) (x : Str) : x ∈ l.map txOf ↔ ∃ e ∈ l, (PySem.strKind P w).is x e.2 = true := by
  rw [List.mem_map]
  exact ⟨fun ⟨e, he, q⟩ => ⟨e, he, (tx_is (g e he) x).2 q⟩, fun ⟨e, he, q⟩ => ⟨e, he, (tx_is (g e he) x).1 q⟩⟩
/-- what is left to do once the new entry's place is known -/
theorem tx_tail {g : Bool → Sem Unit} (hg : ∀ (b : Bool) (s₁ : Shared) (Q' : Unit → Shared → Prop), Q' () s₁ → wpAny (model P w) A (g b) Q' E s₁) {o : Obj} {es : Array (Int × Value)} {ep : Nat} {t : SetTable} (ho : s.heap.get? a = some o) (hex : o.ExactSet) (hd : o.data = .set es ep t)
    {e1 : Array (Int × Value)} {t2 : SetTable} (g1 : ∀ e ∈ e1.toList, TxE P w e) (nd : (e1.toList.map txOf).Nodup) (hb : e1.size < scanBound) (hf : t2.fits e1.size = true) (hr : Ris t2.place.toList) (hl : w.params.followText "set-order" = true ∨ t2.led = true) {dum : Bool} {R : Option Bool → Shared → Prop}
    (hR : ∀ h' zs, Heap.SameBut a s.heap h' → SetX P w h' a zs → zs.Perm (e1.toList.map txOf) → R (some true) { s with heap := h' }) :
    wpAny (model P w) A (do
        storeSet a e1 t2
        if (!dum && t2.tooFull) = true then do
            g (relayAll t2 e1 (SetTable.grown e1.size)).2.2
            storeSet a (relayAll t2 e1 (SetTable.grown e1.size)).1 (relayAll t2 e1 (SetTable.grown e1.size)).2.1
            pure (some true)
          else pure (some true)) R E s := by
  have st1 := store_at (es' := e1) (t' := t2) ho hd
  have b1 := Heap.SameBut.update s.heap a (Obj.putSet e1 t2)
  refine wpAny_bind (wpAny_storeSet_of ho hd ?_ (fits_of_scanBound hb))
  split
  · have pm := relayAll_perm t2 e1 (SetTable.grown e1.size)
    have f3 := relayAll_fits t2 e1 (SetTable.grown e1.size)
    have r3 := relayAll_ris t2 e1 (SetTable.grown e1.size)
    have l3 := relayAll_led t2 e1 (SetTable.grown e1.size)
    generalize relayAll t2 e1 (SetTable.grown e1.size) = z at pm f3 r3 l3 ⊢
    obtain ⟨e2, t3, gv⟩ := z
    dsimp only at pm f3 r3 l3 ⊢
    have sz : e2.size = e1.size := by rw [← Array.length_toList, pm.length_eq, Array.length_toList]
    refine wpAny_bind (hg _ _ _ (wpAny_bind (wpAny_storeSet_of st1 rfl (wpAny_pure (hR _ (e2.toList.map txOf) (b1.trans (Heap.SameBut.update _ a _)) ?_ (pm.map txOf))) (fits_of_scanBound (by rw [sz]; exact hb)))))
    exact ⟨_, e2, _, t3, store_at (es' := e2) (t' := t3) st1 rfl, hex, rfl, fun e he => g1 e (pm.mem_iff.mp he), rfl, (pm.map txOf).nodup_iff.mpr nd, by rw [sz]; exact hb, f3, r3, hl.imp id fun q => by rw [l3]; exact q⟩
  · exact wpAny_pure (hR _ (e1.toList.map txOf) b1 ⟨_, e1, _, t2, st1, hex, rfl, g1, rfl, nd, hb, hf, hr, hl⟩ (List.Perm.refl _))
theorem tx_add {x : Str} {tk : Tok} {Q : Bool → Shared → Prop} (R : SetX P w s.heap a ys) (room : ys.length + 1 < scanBound)
    (hQ : ∀ b h' zs, Heap.SameBut a s.heap h' → SetX P w h' a zs → (∀ y, y ∈ zs ↔ y = x ∨ y ∈ ys) → zs.length ≤ ys.length + 1 → Q b { s with heap := h' }) : wpAny (model P w) A (setAddHashed a (.str x tk) ((PySem.strKind P w).hash x)) Q E s := by
  obtain ⟨o, es, ep, t, ho, hex, hd, g, rfl, nd, hb, hf, hr, hl⟩ := R
  have key : (PySem.strKind P w).is x (.str x tk) = true := PySem.strKind_is P w x tk
  have scan : (Value.str x tk).scannable = true := rfl
  have els := tx_elems g
  have len : (es.toList.map txOf).length = es.size := by rw [List.length_map, Array.length_toList]
  unfold setAddHashed setAddHashedIn
  refine wpAny_holding (wpAny_bind (wpAny_setState_of ho hd hf ?_))
  dsimp only
  rw [byScan_of scan hb els]
  simp only [↓reduceIte]
  unfold setAddByScan
  refine wpAny_bind (wpAny_bind (wpAny_rule (wpAny_bind (wpAny_setScan_of key ho hd hf els ?_))))
  cases hfi : List.findIdx? (fun e => (PySem.strKind P w).is x e.2) es.toList with
  | some j =>
    dsimp only
    obtain ⟨hj, pj, _⟩ := List.findIdx?_eq_some_iff_getElem.mp hfi
    have hin : x ∈ es.toList.map txOf := (tx_mem g x).2 ⟨es.toList[j], List.getElem_mem hj, pj⟩
    exact wpAny_pure (wpAny_pure (hQ false s.heap _ (Heap.SameBut.refl a s.heap) ⟨o, es, ep, t, ho, hex, hd, g, rfl, nd, hb, hf, hr, hl⟩ (fun y => ⟨.inr, fun z => z.elim (fun e => e ▸ hin) id⟩) (Nat.le_succ _)))
  | none =>
    dsimp only
    have hno : x ∉ es.toList.map txOf := fun z => by
      obtain ⟨e, he, q⟩ := (tx_mem g x).1 z
      have c := List.findIdx?_eq_none_iff.mp hfi e he
      rw [q] at c
      cases c
    have gw : ∀ (b : Bool) {s₁ : Shared} {Q' : Unit → Shared → Prop}, Q' () s₁ → wpAny (model P w) A (match b with | true => rule "set.scan.the-table-gave-way" | false => pure ()) Q' E s₁ :=
      fun b s₁ Q' q => by cases b <;> first | exact wpAny_pure q | exact wpAny_rule q
    have pm := layNew_perm t es ((PySem.strKind P w).hash x) (.str x tk)
    have f1 := layNew_fits t es ((PySem.strKind P w).hash x) (.str x tk)
    have r1 := layNew_ris t es ((PySem.strKind P w).hash x) (.str x tk) hr
    have l1 := layNew_led t es ((PySem.strKind P w).hash x) (.str x tk)
    generalize layNew t es ((PySem.strKind P w).hash x) (.str x tk) = z at pm f1 r1 l1 ⊢
    obtain ⟨e1, t1, dum, gv⟩ := z
    dsimp only at pm f1 r1 l1 ⊢
    rw [Array.toList_push] at pm
    have pc : e1.toList.Perm (((PySem.strKind P w).hash x, Value.str x tk) :: es.toList) := pm.trans (List.perm_append_singleton _ _)
    have pk : (e1.toList.map txOf).Perm (x :: es.toList.map txOf) := pc.map txOf
    have g1 : ∀ e ∈ e1.toList, TxE P w e := fun e he => (List.mem_cons.mp (pc.mem_iff.mp he)).elim (fun z => by rw [z]; exact ⟨x, tk, rfl, rfl⟩) (g e)
    have nd1 : (e1.toList.map txOf).Nodup := pk.nodup_iff.mpr (List.nodup_cons.mpr ⟨hno, nd⟩)
    have sz : e1.size = es.size + 1 := by rw [← Array.length_toList, pc.length_eq, List.length_cons, Array.length_toList]
    have b1 : e1.size < scanBound := by rw [sz, ← len]; exact room
    have led1 : w.params.followText "set-order" = true ∨ t1.led = true := hl.imp id fun z => by rw [l1]; exact z
    have fin : ∀ h' zs, Heap.SameBut a s.heap h' → SetX P w h' a zs → zs.Perm (e1.toList.map txOf) → Q true { s with heap := h' } := fun h' zs sb r p => hQ true h' zs sb r (fun y => by rw [(p.trans pk).mem_iff, List.mem_cons]) (by rw [(p.trans pk).length_eq, List.length_cons]; exact Nat.le_refl _)
    refine wpAny_bind (gw _ ?_)
    split
    · refine wpAny_bind ?_
      rw [hashByValue_scannable 8 scan]
      refine wpAny_pure ?_
      refine tx_tail ?_ ho hex hd g1 nd1 b1 ?_ ?_ ?_ ?_
      · intro b s₁ Q' q; cases b <;> first | exact wpAny_pure q | exact wpAny_rule q
      · first | (split <;> first | exact f1 | exact SetTable.fits_plain_off f1) | exact f1
      · first | (split <;> exact r1) | exact r1
      · first | (split <;> exact led1) | exact led1
      · intro h' zs sb r p; dsimp only; exact wpAny_pure (fin h' zs sb r p)
    · refine wpAny_bind (wpAny_pure ?_)
      simp only [↓reduceIte]
      refine tx_tail ?_ ho hex hd g1 nd1 b1 f1 r1 led1 ?_
      · intro b s₁ Q' q; cases b <;> first | exact wpAny_pure q | exact wpAny_rule q
      · intro h' zs sb r p; dsimp only; exact wpAny_pure (fin h' zs sb r p)
/-- behind i texts -/
def XJ (P : Program) (w : World) (S : Addr) (xs : List Str) (i : Nat) (h : Heap) : Prop := ∃ zs, SetX P w h S zs ∧ (∀ y, y ∈ zs ↔ y ∈ xs.take i) ∧ zs.length ≤ i
theorem xj_puts {S : Addr} {xs : List Str} {its : Array Value} {h0 : Heap} (hi : ∀ (i : Nat) (v : Value), its[i]? = some v → ∃ x t, xs[i]? = some x ∧ v = .str x t) (hb : its.size + 1 < scanBound) : Puts P w A S its.size (fun i v => its[i]? = some v) h0 (XJ P w S xs) where
  keep := fun i h h' ⟨zs, ⟨o, es, ep, t, e, r⟩, r2⟩ hS _ => ⟨zs, ⟨o, es, ep, t, hS o e, r⟩, r2⟩
  step := fun i v s E Q hlt hv ⟨zs, R, hm, hl⟩ ho hQ => by
    obtain ⟨x, tk, hx, rfl⟩ := hi i v hv
    unfold setAdd
    refine wpAny_holding (wpAny_bind ((PySem.strKind P w).pyHash (PySem.strKind_is P w x tk) ?_))
    refine tx_add (s := { s with toks := s.toks + 1 }) R (by omega) fun b h' zs' sb R' m l => hQ b h' _ sb (Nat.le_succ _) ⟨zs', R', fun y => ?_, by omega⟩
    have tk : xs.take (i + 1) = xs.take i ++ [x] := by rw [List.take_succ, hx] <;> rfl
    rw [tk, List.mem_append, m y, hm y, List.mem_singleton]
    exact Or.comm
theorem xj_new {h : Heap} {xs : List Str} (e : h.get? a = some (newSet w)) : XJ P w a xs 0 h := ⟨[], ⟨_, #[], 0, _, e, ⟨rfl, rfl, rfl⟩, rfl, fun e he => (by cases he), rfl, List.nodup_nil, by unfold scanBound; decide, by rfl, List.Pairwise.nil, by
    show _ ∨ (!w.params.followText "set-order") = true
    cases w.params.followText "set-order"
    · exact .inr rfl
    · exact .inl rfl⟩, fun y => by simp, Nat.zero_le _⟩
end
end AX

set_option Elab.async false
set_option linter.all false
set_option maxRecDepth 100000
set_option maxHeartbeats 4000000
/-! AX39: sorted(set(xs)); the runs of it and of len(set(t)). -/
namespace AX
open PySem PySem.Spec PyProof.Rows L2 PySem.W
section
variable {P : Program} {w : World} {A : Around} {E : Value → Shared → Prop} {s : Shared} {a : Addr} {ys : List Str}
/-- the texts rise -/
def RisesT (l : List Str) : Prop := l.Pairwise fun x y => x.cps.toList < y.cps.toList
theorem txs_len : ∀ (l D : List Str), l.Nodup → (∀ x ∈ l, x ∈ D) → l.length ≤ D.length
  | [], _, _, _ => Nat.zero_le _
  | x :: l, D, hn, hs => by
    obtain ⟨h1, h2⟩ := List.nodup_cons.mp hn
    have hx : x ∈ D := hs x List.mem_cons_self
    have ih := txs_len l (D.erase x) h2 fun y hy => (List.mem_erase_of_ne (show y ≠ x from fun e => h1 (by rw [← e]; exact hy))).2 (hs y (List.mem_cons_of_mem _ hy))
    have e := List.length_erase_of_mem hx
    have hp : 0 < D.length := List.length_pos_of_mem hx
    rw [List.length_cons]
    omega
theorem strs_vals : ∀ (l : List Value), (∀ v ∈ l, ∃ x t, v = Value.str x t) → ∃ xs : List Str, EachIs (fun v x => ∃ t, v = Value.str x t) l xs
  | [], _ => ⟨[], .nil⟩
  | v :: l, h => by
    obtain ⟨x, t, e⟩ := h v List.mem_cons_self
    obtain ⟨xs, r⟩ := strs_vals l fun u hu => h u (List.mem_cons_of_mem _ hu)
    exact ⟨x :: xs, .cons ⟨t, e⟩ r⟩
theorem each_map_tx {l : List Value} {xs : List Str} (h : EachIs (fun v x => ∃ t, v = Value.str x t) l xs) : l.map (fun v => txOf (0, v)) = xs := by
  induction h with
  | nil => rfl
  | cons h _ ih =>
    obtain ⟨t, rfl⟩ := h
    rw [List.map_cons, ih]
    rfl
theorem sorted_setX {Q : Value → Shared → Prop} (R : SetX P w s.heap a ys) (hh : A.handled = none) (hu : A.units + 8 < cLine)
    (hQ : ∀ s' p (out : Array Value) (c : Nat) (xs : List Str), (∀ b o, s.heap.get? b = some o → s'.heap.get? b = some o) → s'.gens = s.gens → s'.os = s.os → s.heap.objs.size ≤ p → s'.heap.get? p = some (seqObj "list" out c) →
      EachIs (fun v x => ∃ t, v = Value.str x t) out.toList xs → RisesT xs → (∀ y, y ∈ xs ↔ y ∈ ys) → Q (.ref p) s') : wpAny (model P w) A (call (.builtin "sorted") [.ref a]) Q E s := by
  obtain ⟨o, es, ep, t, ho, hex, hd, g, rfl, nd, hb, hf, hr, hl⟩ := R
  refine Calls.call_function_entry kind_sorted plain_sorted entry_sorted (args_sorted1 _) ?_
  unfold Builtin.«sorted»
  refine wpAny_bind (m := checkCount "sorted" 1 1 _) (wpAny_pure ?_)
  refine wpAny_bind (collect_set (A := A.in1) hh ⟨o, ho, hex.1, hd⟩ hf hb hr hl fun s1 vs k1 hz g1 o1 pm => ?_)
  obtain ⟨xs, each⟩ := strs_vals vs fun v hv => by
    obtain ⟨e, he, q⟩ := List.mem_map.mp (pm.mem_iff.mp hv)
    obtain ⟨x, tk, h1, _⟩ := g e he
    exact ⟨x, tk, by rw [← q]; exact h1⟩
  have px : xs.Perm (es.toList.map txOf) := by
    have q := pm.map fun v => txOf (0, v)
    rw [each_map_tx each, List.map_map] at q
    exact q
  have vl : vs.length = es.size := by rw [pm.length_eq, List.length_map, Array.length_toList]
  have xl : xs.length = es.size := by rw [← each.length, vl]
  have szl : es.size ≤ sizeLine := fits_of_scanBound hb
  refine wpAny_bind (wpAny_newList ?_ (by rw [vl]; exact szl))
  have hoL : (s1.heap.push (seqObj "list" vs.toArray 0)).get? s1.heap.objs.size = some (seqObj "list" vs.toArray 0) := Heap.get?_push_size _ rfl
  refine wpAny_bind (wpAny_holding (list_sort_data (s := { s1 with heap := s1.heap.push (seqObj "list" vs.toArray 0) }) (A := A.in1) (R := fun v x => ∃ t, v = Value.str x t) (enc := fun x : Str => PyData.str x) (bs := xs) hoL each
    (each.mono fun v x ⟨t, e⟩ => ⟨[], by rw [e]; exact .str _ _, by simp⟩) (AllAlike.of fun _ _ => by rfl) (Sortable.others fun b => ⟨nofun, fun _ => nofun⟩) (by rw [xl]; exact szl) (fun b _ => by
      show A.units + 1 + 1 + 0 < cLine
      omega) fun out ho1 ho2 => ?_))
  obtain ⟨c, hc⟩ := sortedHeap_at (vs := vs) (out := out.toArray) hoL
  have ps : (xs.mergeSort (dataLe false fun x : Str => PyData.str x)).Perm xs := List.mergeSort_perm _ _
  have le : dataLe false (fun x : Str => PyData.str x) = fun a b => decide ((id a).cps.toList ≤ (id b).cps.toList) := dataLe_str (β := Str) id
  rw [le] at ho2 ps
  have sorted : (xs.mergeSort fun a b => decide ((id a).cps.toList ≤ (id b).cps.toList)).Pairwise fun x y => x.cps.toList ≤ y.cps.toList := by
    have q := List.pairwise_mergeSort (le := fun a b : Str => decide ((id a).cps.toList ≤ (id b).cps.toList)) (fun a b c h1 h2 => by
      rw [decide_eq_true_eq] at h1 h2 ⊢
      exact List.le_trans h1 h2) (fun a b => by
      rw [Bool.or_eq_true, decide_eq_true_eq, decide_eq_true_eq]
      exact List.le_total _ _) xs
    exact q.imp fun h => by rw [decide_eq_true_eq] at h; exact h
  have nds : (xs.mergeSort fun a b => decide ((id a).cps.toList ≤ (id b).cps.toList)).Nodup := ps.nodup_iff.mpr (px.nodup_iff.mpr nd)
  refine wpAny_pure ⟨_, rfl, hQ _ s1.heap.objs.size out.toArray c _ (fun b u e => ?_) g1 o1 hz hc (show EachIs _ out.toArray.toList _ from ho2) ?_ (fun y => by rw [ps.mem_iff, px.mem_iff])⟩
  · have q := k1 b u e
    have hlt := Heap.lt_size q
    show (sortedHeap (s1.heap.push (seqObj "list" vs.toArray 0)) s1.heap.objs.size vs out.toArray).get? b = some u
    rw [sortedHeap_old (Nat.ne_of_lt hlt) (by rw [size_push']; exact Nat.lt_succ_of_lt hlt)]
    exact Heap.get?_push_of_some _ q
  · refine List.Pairwise.imp (fun {x y} h => ?_) (List.Pairwise.and sorted nds)
    rcases Classical.em (x.cps.toList < y.cps.toList) with q | q
    · exact q
    · exact absurd (str_ext (List.le_antisymm h.1 (List.not_lt.mp q))) h.2
end
/-! ### the rule -/
def tSortX (K : PySem.W.Frag) (ta : TE) : TE := fun σ H Q => ta σ H fun x H1 => ∃ (l : Addr) (xs : List Str), x = .ref l ∧ SqL K H1 l (xs.map V.str) ∧ xs.length ≤ 1000 ∧
  ∀ (p : Addr) (ys : List Str), RisesT ys → (∀ y, y ∈ ys ↔ y ∈ xs) → H1 p = none → Q (.ref p) (upd H1 p (.lst (ys.map V.str)))
theorem vals_txs : ∀ {xs : List Str} {us : List Value}, Vals (xs.map V.str) us → ∀ (i : Nat) (v : Value), us[i]? = some v → ∃ x t, xs[i]? = some x ∧ v = .str x t
  | [], _, .nil, i, v, h => by simp at h
  | x :: xs, _, .cons r t, 0, v, h => by
    cases h
    obtain ⟨u, e⟩ := r
    exact ⟨x, u, rfl, e⟩
  | x :: xs, _, .cons r t, i + 1, v, h => by
    obtain ⟨y, u, h1, h2⟩ := vals_txs t i v (by simpa using h)
    exact ⟨y, u, by simpa using h1, h2⟩
theorem vals_each {xs : List Str} {us : List Value} (h : EachIs (fun v x => ∃ t, v = Value.str x t) us xs) : Vals (xs.map V.str) us := by
  induction h with
  | nil => exact .nil
  | cons h _ ih => exact .cons h ih
theorem pe_sortX {X : Cx} {a : Expr} {ta : TE} {p p2 q pos : Pos} (hu : X.A.units + 64 < cLine) (hg : Gl X "sorted") (hm : X.mg "sorted" = none) (hg2 : Gl X "set") (hm2 : X.mg "set" = none) (ha : PE X a ta) (hc : X.calm = true := by rfl)
    (na : starEach [a] X.env = (false, eval a X.env) :: starEach [] X.env := by rfl) : PE X (.Call (.Name "sorted" p) [.Call (.Name "set" p2) [a] [] q] [] pos) (tSortX X.K ta) := by
  refine ⟨fun pins s σ H Q I h => ?_⟩
  refine Call_ (ld_blt I hg hm (by first | exact boot_sorted | rfl | kernel_rfl) (PyProof.Rows.callWith_builtin1 (PyProof.Rows.args_cons ?_ rfl) rfl rfl))
  refine Call_ (ld_blt I hg2 hm2 boot_set (PyProof.Rows.callWith_type1 (PyProof.Rows.args_cons (thn (ha.run pins s σ H _ I h) fun v s1 ⟨x, H1, I1, r1, q1⟩ => PyProof.Rows.args_nil ?_) na) na rfl))
  obtain ⟨l, xs, rfl, hq, h3, q1⟩ := q1
  cases r1
  obtain ⟨its, r, pl, hz⟩ := I1.list hq
  have hlen : its.toArray.size = xs.length := by rw [List.size_toArray, ← r.length, List.length_map]
  refine call_set_lst (J := XJ X.prog X.w s1.heap.objs.size xs) (I1.ok.hd hc) (show s1.heap.IsList l its.toArray from pl.isList) (fun A' hA => xj_puts (fun i v hv => vals_txs r i v (by simpa using hv)) (by rw [hlen]; unfold scanBound; omega)) (fun h ho e => xj_new e) fun h' tk hJ ho => PyProof.Rows.args_nil ?_
  rw [hlen] at hJ
  obtain ⟨zs, R, hm, _⟩ := hJ
  rw [List.take_length] at hm
  have I2 : Inv X pins σ H1 { s1 with heap := h', toks := tk } := I1.kept fun b o e => ho b o e
  refine sorted_setX (s := { s1 with heap := h', toks := tk }) R (I2.ok.hd hc) (by omega) fun s' p out c ys k g o hp hg he hr hs => ?_
  have hn : H1 p = none := I2.hok.fresh hp
  have rv := vals_each he
  have hlen2 : (ys.map V.str).length ≤ sizeLine := by
    have n1 : ys.Nodup := hr.imp fun h e => by
      rw [e] at h
      exact absurd h (List.lt_irrefl _)
    have : ys.length ≤ xs.length := (txs_len ys xs n1 fun y hy => (hm y).1 ((hs y).1 hy))
    rw [List.length_map, sizeLine_eq]
    omega
  have J : Inv X pins σ (upd H1 p (.lst (ys.map V.str))) { s1 with heap := s'.heap, gens := s'.gens, drawn := s'.drawn, toks := s'.toks } :=
    Inv.call (s := ({ s1 with heap := h', toks := tk } : Shared)) (ch := []) I2 (Un.laid (h := h') (h' := s'.heap) k hp hn) (I2.hok.laid (h' := s'.heap) k hp ⟨hlen2, out.toList, c, rv, hg⟩) (by rw [g]; exact I2.bare) (fun _ z => nomatch z)
  have e : s' = { s1 with heap := s'.heap, gens := s'.gens, drawn := s'.drawn, toks := s'.toks } := by
    cases s'
    cases s1
    cases o
    rfl
  rw [e]
  exact ⟨.ref p, _, J, rfl, q1 p ys hr (fun y => by rw [hs, hm]) hn⟩
end AX

set_option Elab.async false
set_option linter.all false
set_option maxRecDepth 100000
set_option maxHeartbeats 4000000
/-! AX40: the runs of len(set(t)) and of sorted(set(xs)). -/
namespace AX
open PySem PySem.Spec PyProof.Rows L2
def keysL : List AV → Option (List Key)
  | [] => some []
  | x :: xs => match keyOf x with
    | some k => (keysL xs).map fun ks => k :: ks
    | none => none
def flatL : List AV → Option (List (List Key))
  | [] => some []
  | .tup xs :: r => match keysL xs with
    | some k => (flatL r).map fun ks => k :: ks
    | none => none
  | _ :: _ => none
def keysB : List Key → List Key → Bool
  | [], [] => true
  | a :: r, b :: s => match keyB a b with
    | true => keysB r s
    | false => false
  | _, _ => false
theorem keysB_self : ∀ l : List Key, keysB l l = true
  | [] => rfl
  | a :: r => by
    unfold keysB
    rw [keyB_eq, decide_eq_true rfl]
    exact keysB_self r
def nodB : List (List Key) → Bool
  | [] => true
  | k :: ks => match ks.any (keysB k) with
    | true => false
    | false => nodB ks
theorem nodB_ok : ∀ {l : List (List Key)}, nodB l = true → l.Nodup
  | [], _ => List.nodup_nil
  | k :: ks, h => by
    unfold nodB at h
    cases q : ks.any (keysB k) with
    | true => rw [q] at h; cases h
    | false =>
      rw [q] at h
      refine List.nodup_cons.mpr ⟨fun hm => ?_, nodB_ok h⟩
      have z := List.any_eq_true.mpr ⟨k, hm, keysB_self k⟩
      rw [q] at z
      cases z
def gLenSet : G1 := fun x A => match x with
  | .tup xs => match flatL xs with
    | some ks => match nodB ks && Nat.ble ks.length 3 with
      | true => some (.int (ks.length : Nat), A)
      | false => none
    | none => none
  | _ => none
section
variable {K : PySem.W.Frag} {ρ : List Addr} {H : Hp} {A : AH}
theorem keysL_ok : ∀ {xs : List AV} {vs : List V} {ks : List Key}, VRs K ρ H xs vs → keysL xs = some ks → vs = ks.map kV
  | _, _, _, .nil, e => by cases e; rfl
  | _, _, _, .cons (x := x) (xs := xs) r rs, e => by
    unfold keysL at e
    cases h : keyOf x with
    | none => rw [h] at e; cases e
    | some k =>
      rw [h] at e
      dsimp only at e
      cases h2 : keysL xs with
      | none => rw [h2] at e; cases e
      | some ks =>
        rw [h2] at e
        cases e
        rw [keysL_ok rs h2, keyOf_eq r h] <;> rfl
theorem flatL_ok : ∀ {xs : List AV} {vs : List V} {ks : List (List Key)}, VRs K ρ H xs vs → flatL xs = some ks → ∃ rows : List Row, vs = rows.map (fun r => V.ref r.1) ∧ rows.map (·.2) = ks ∧ ∀ r ∈ rows, SqT K H r.1 (r.2.map kV)
  | _, _, _, .nil, e => by cases e; exact ⟨[], rfl, rfl, fun r h => (by cases h)⟩
  | _, _, _, .cons (x := x) (xs := xs) r rs, e => by
    cases x with
    | tup ys =>
      unfold flatL at e
      cases h : keysL ys with
      | none => rw [h] at e; cases e
      | some k =>
        rw [h] at e
        dsimp only at e
        cases h2 : flatL xs with
        | none => rw [h2] at e; cases e
        | some ks =>
          rw [h2] at e
          cases e
          obtain ⟨a, us, rfl, h3, r3⟩ := r.tup_eq
          obtain ⟨rows, e1, e2, e3⟩ := flatL_ok rs h2
          have eu := keysL_ok r3 h
          subst eu
          exact ⟨(a, k) :: rows, by rw [e1] <;> rfl, by rw [← e2] <;> rfl, fun q hq => (List.mem_cons.mp hq).elim (fun z => by rw [z]; exact h3) (e3 q)⟩
    | _ => cases e
end
section
variable {X : Cx} {E : XK} {a : Expr} {fa : ASt → M AV} {p p2 q pos : Pos}
theorem a_lenSet (hu : X.A.units + 64 < cLine) (hg : Gl X "len") (hm : X.mg "len" = none) (hg2 : Gl X "set") (hm2 : X.mg "set" = none) (ha : PE X a (S X.K E fa)) (hc : X.calm = true := by rfl)
    (na : starEach [a] X.env = (false, eval a X.env) :: starEach [] X.env := by rfl) : PE X (.Call (.Name "len" p) [.Call (.Name "set" p2) [a] [] q] [] pos) (S X.K E (aUn gLenSet fa)) :=
  wE (pe_lenSetF hu hg hm hg2 hm2 ha hc na) fun σ H Q ⟨ρ, aσ, A, w, s, y⟩ => SX.mk w s y.bind fun x A1 ρ1 H1 v y1 g1 w1 r1 => by
    obtain ⟨z, A', hg, q⟩ := y1.lift
    unfold gLenSet at hg
    split at hg
    · split at hg
      · rename_i ks hk
        cases hb : nodB ks && Nat.ble ks.length 3 with
        | false => rw [hb] at hg; cases hg
        | true =>
          rw [hb] at hg
          cases hg
          rw [Bool.and_eq_true] at hb
          obtain ⟨l, us, rfl, h3, r3⟩ := r1.tup_eq
          obtain ⟨rows, e1, e2, e3⟩ := flatL_ok r3 hk
          subst e1
          have el : rows.length = ks.length := by rw [← e2, List.length_map]
          refine ⟨l, rows, rfl, h3, e3, by rw [e2]; exact nodB_ok hb.1, by rw [el]; exact Nat.le_of_ble_eq_true hb.2, ?_⟩
          rw [el]
          exact q ρ1 H1 _ g1 w1 (.int _)
      · cases hg
    · cases hg
end
/-! ### sorted(set(xs)) -/
def strsL : List AV → Option (List Str)
  | [] => some []
  | .str x :: xs => (strsL xs).map fun l => x :: l
  | _ :: _ => none
def insT (x : Str) : List Str → List Str
  | [] => [x]
  | y :: r => match natsLt x.cps.toList y.cps.toList with
    | true => x :: y :: r
    | false => match strB x y with
      | true => y :: r
      | false => y :: insT x r
def sortT : List Str → List Str
  | [] => []
  | x :: r => insT x (sortT r)
def riseT : List Str → Bool
  | [] => true
  | x :: r => (r.all fun y => natsLt x.cps.toList y.cps.toList) && riseT r
theorem riseT_ok : ∀ {l : List Str}, riseT l = true → RisesT l
  | [], _ => .nil
  | x :: r, h => by
    unfold riseT at h
    rw [Bool.and_eq_true, List.all_eq_true] at h
    exact .cons (fun y hy => natsLt_ok (h.1 y hy)) (riseT_ok h.2)
theorem insT_mem (x y : Str) : ∀ l : List Str, y ∈ insT x l ↔ y = x ∨ y ∈ l
  | [] => by simp [insT]
  | z :: r => by
    unfold insT
    cases natsLt x.cps.toList z.cps.toList with
    | true => simp
    | false =>
      dsimp only
      cases h : strB x z with
      | true =>
        have e := strB_true h
        subst e
        simp
      | false =>
        dsimp only
        rw [List.mem_cons, insT_mem x y r, List.mem_cons]
        constructor
        · rintro (h | h | h)
          · exact .inr (.inl h)
          · exact .inl h
          · exact .inr (.inr h)
        · rintro (h | h | h)
          · exact .inr (.inl h)
          · exact .inl h
          · exact .inr (.inr h)
theorem sortT_mem (y : Str) : ∀ l : List Str, y ∈ sortT l ↔ y ∈ l
  | [] => by simp [sortT]
  | x :: r => by
    unfold sortT
    rw [insT_mem, sortT_mem y r, List.mem_cons]
theorem rises_one : ∀ {l m : List Str}, RisesT l → RisesT m → (∀ x, x ∈ l ↔ x ∈ m) → l = m
  | [], [], _, _, _ => rfl
  | [], b :: m, _, _, h => absurd ((h b).2 List.mem_cons_self) (by simp)
  | a :: l, [], _, _, h => absurd ((h a).1 List.mem_cons_self) (by simp)
  | a :: l, b :: m, hl, hm, h => by
    obtain ⟨l1, l2⟩ := List.pairwise_cons.mp hl
    obtain ⟨m1, m2⟩ := List.pairwise_cons.mp hm
    have irr : ∀ x : Str, ¬ x.cps.toList < x.cps.toList := fun x => List.lt_irrefl _
    have e : a = b := by
      rcases List.mem_cons.mp ((h a).1 List.mem_cons_self) with q | q
      · exact q
      · rcases List.mem_cons.mp ((h b).2 List.mem_cons_self) with z | z
        · exact z.symm
        · exact absurd (List.lt_trans (l1 b z) (m1 a q)) (irr a)
    subst e
    rw [rises_one l2 m2 fun x => ?_]
    constructor
    · intro hx
      rcases List.mem_cons.mp ((h x).1 (List.mem_cons_of_mem _ hx)) with q | q
      · exact absurd (l1 x hx) (by rw [q]; exact irr _)
      · exact q
    · intro hx
      rcases List.mem_cons.mp ((h x).2 (List.mem_cons_of_mem _ hx)) with q | q
      · exact absurd (m1 x hx) (by rw [q]; exact irr _)
      · exact q
def gSortSet : G1 := fun x A => match x with
  | .ref i => match A[i]? with
    | some (.lst xs) => match strsL xs with
      | some ss => match riseT (sortT ss) && Nat.ble ss.length 1000 with
        | true => some (.ref A.length, A ++ [.lst ((sortT ss).map .str)])
        | false => none
      | none => none
    | _ => none
  | _ => none
theorem strsL_ok {K : PySem.W.Frag} {ρ : List Addr} {H : Hp} : ∀ {xs : List AV} {vs : List V} {ss : List Str}, VRs K ρ H xs vs → strsL xs = some ss → vs = ss.map V.str
  | _, _, _, .nil, e => by cases e; rfl
  | _, _, _, .cons (x := x) (xs := xs) r rs, e => by
    cases x with
    | str z =>
      unfold strsL at e
      cases h : strsL xs with
      | none => rw [h] at e; cases e
      | some l =>
        rw [h] at e
        cases e
        rw [strsL_ok rs h, r.str_eq] <;> rfl
    | _ => cases e
theorem vrs_strT {K : PySem.W.Frag} {ρ : List Addr} {H : Hp} : ∀ l : List Str, VRs K ρ H (l.map .str) (l.map V.str)
  | [] => .nil
  | x :: l => .cons (.str x) (vrs_strT l)
section
variable {X : Cx} {E : XK} {a : Expr} {fa : ASt → M AV} {p p2 q pos : Pos}
theorem a_sortSet (hu : X.A.units + 64 < cLine) (hg : Gl X "sorted") (hm : X.mg "sorted" = none) (hg2 : Gl X "set") (hm2 : X.mg "set" = none) (ha : PE X a (S X.K E fa)) (hc : X.calm = true := by rfl)
    (na : starEach [a] X.env = (false, eval a X.env) :: starEach [] X.env := by rfl) : PE X (.Call (.Name "sorted" p) [.Call (.Name "set" p2) [a] [] q] [] pos) (S X.K E (aUn gSortSet fa)) :=
  wE (pe_sortX hu hg hm hg2 hm2 ha hc na) fun σ H Q ⟨ρ, aσ, A, w, s, y⟩ => SX.mk w s y.bind fun x A1 ρ1 H1 v y1 g1 w1 r1 => by
    obtain ⟨z, A', hg, q⟩ := y1.lift
    unfold gSortSet at hg
    split at hg
    · split at hg
      · rename_i xs hA
        cases hs : strsL xs with
        | none => rw [hs] at hg; cases hg
        | some ss =>
          rw [hs] at hg
          dsimp only at hg
          cases hb : riseT (sortT ss) && Nat.ble ss.length 1000 with
          | false => rw [hb] at hg; cases hg
          | true =>
            rw [hb] at hg
            cases hg
            rw [Bool.and_eq_true] at hb
            obtain ⟨l, vs, rfl, _, h1, rs⟩ := w1.lst r1 hA
            have ev := strsL_ok rs hs
            subst ev
            refine ⟨l, ss, rfl, Evl.sq_of h1, Nat.le_of_ble_eq_true hb.2, fun b ys hr hm hb1 => ?_⟩
            have e : ys = sortT ss := rises_one hr (riseT_ok hb.1) fun y => by rw [hm, sortT_mem]
            subst e
            exact finL w1 (vrs_strT (sortT ss)) (q.tr g1) hb1
      · cases hg
    · cases hg
end
end AX

set_option Elab.async false
set_option linter.all false
set_option maxRecDepth 100000
set_option maxHeartbeats 4000000
/-! AX41: C(), C with two slots that its __init__ sets to two new lists. -/
namespace AX
open PySem PySem.Spec PyProof.Rows L2 SlX
/-- the heap behind it -/
def mkH (H : Hp) (C x dx l1 l2 T : Addr) (i j : Nat) : Hp := slH (slH (upd (upd (upd H l1 (.lst [])) l2 (.lst [])) T (.tup [.ref l1, .ref l2])) x C dx (putS i (.ref l1) [])) x C dx (putS j (.ref l2) (putS i (.ref l1) []))
def spMk (C : Addr) (i j : Nat) : Sp := fun vs H Q _ => vs.length = 1 ∧ ∃ x dx, vs = [.ref x] ∧ H x = some (.ins C dx []) ∧ H dx = some (.own x) ∧ ∀ l1 l2 T, H l1 = none → H l2 = none → l2 ≠ l1 → H T = none → T ≠ l1 → T ≠ l2 → Q .non (mkH H C x dx l1 l2 T i j)
structure MakS (P : Program) (w : World) (K : PySem.W.Frag) (mg : Str → Option Value) (base : Heap) (k : Nat) (c : Str) (i j : Nat) : Prop where
  ex : ∃ (f : Addr) (fd : FuncData) (ps : List Str), Mk K (He.ga K c) f ∧ FnOk P w K mg base (L2N.CX P w) k f fd ps (spMk (He.ga K c) i j) ∧ mg c = some (.ref (He.ga K c)) ∧ L2.Binds K fd ps []
/-- the text of such an __init__ -/
def MkB (f g : Str) (b : List Stmt) : Prop := ∃ p0 p1 p2 p3 p4 p5 p6 p7 p8 p9 k1 k2, b = [.Assign [.Tuple [.Attribute (.Name "self" p0) f p1, .Attribute (.Name "self" p2) g p3] k1 p4] (.Tuple [.List [] p5, .List [] p6] k2 p7) p8] ∧ p9 = p8
theorem no_swap {a b : Expr} {f g : Str} {p1 p3 p4 p7 : Pos} {k1 k2 : Nat} {vs : List Expr} (env : Env) : swappedStores [.Tuple [.Attribute a f p1, .Attribute b g p3] k1 p4] (.Tuple vs k2 p7) env = pure none := by
  unfold swappedStores
  dsimp only
  split
  · rfl
  · split
    · rfl
    · rfl
theorem maks_mk {P : Program} {w : World} {K : PySem.W.Frag} {mg : Str → Option Value} {base : Heap} {c f g qual : Str} {params : Arguments} {body : List Stmt} {sc : Scope} {k i j : Nat} {fa p q : Addr} (hm : Mk K (He.ga K c) fa) (hg : mg c = some (.ref (He.ga K c)))
    (F : ∃ fd, FunD K "__init__" qual params body sc [] [] fa fd) (S : FnScope ["self"] ["self"] sc) (hbi : ∀ (kV doc pm : Value) (an : Option Addr) (cdv ct : Value) (us : List Value), us.length = (["self"] : List Str).length → bindArgs (PySem.W.fnOf "__init__" qual params body sc .none kV doc pm an cdv ct) ⟨us, []⟩ = pure ((["self"] : List Str).zip us))
    (hB : MkB f g body) (ls : sc.names.lookup ("self" : Str) = some .local) (sc1 : SCls K (He.ga K c)) (s1 : Slot1 K (He.ga K c) f p i) (s2 : Slot1 K (He.ga K c) g q j) : MakS P w K mg base (k + 1) c i j := by
  obtain ⟨fd, F⟩ := F
  refine ⟨fa, fd, ["self"], hm, F.ok S (fun vs H Q E h => h.1) fun cdv A outer s H vs Q E hr h => ?_, hg, F.bindsN hbi⟩
  obtain ⟨p0, p1, p2, p3, p4, p5, p6, p7, p8, p9, k1, k2, rfl, _⟩ := hB
  obtain ⟨_, x, dx, rfl, hx, hdx, post⟩ := h
  refine ⟨_, pss_one (ps_asg (pe_tup (pa_cons (pe_lst pa_nil) (pa_cons (pe_lst pa_nil) pa_nil))) (pg_tup rfl (pgs_cons (pg_slot (pe_var (i := 0) rfl (.inl ls))) (pgs_cons (pg_slot (pe_var (i := 0) rfl (.inl ls))) pgs_nil))) rfl (no_swap _)), ?_⟩
  refine ⟨Nat.zero_le _, fun l1 h1 => ⟨Nat.zero_le _, fun l2 h2 => ?_⟩⟩
  refine ⟨Nat.le_trans (by decide : 2 ≤ 1000) (by rw [sizeLine_eq]; omega), fun T hT => ?_⟩
  have n21 : l2 ≠ l1 := fun e => by rw [e, upd_same] at h2; cases h2
  rw [upd_ne n21] at h2
  have nT2 : T ≠ l2 := fun e => by rw [e, upd_same] at hT; cases hT
  rw [upd_ne nT2] at hT
  have nT1 : T ≠ l1 := fun e => by rw [e, upd_same] at hT; cases hT
  rw [upd_ne nT1] at hT
  have xl : ∀ {b : Addr}, H b = none → x ≠ b := fun hb => ne_of_none hx hb
  have dl : ∀ {b : Addr}, H b = none → dx ≠ b := fun hb => ne_of_none hdx hb
  refine ⟨T, [.ref l1, .ref l2], rfl, Evl.st_of upd_same, rfl, .ref l1, [.ref l2], rfl, ?_⟩
  refine ⟨.ref x, rfl, x, He.ga K c, dx, p, [], i, rfl, .inl ⟨by rw [upd_ne (xl hT), upd_ne (xl h2), upd_ne (xl h1)]; exact hx, rfl⟩, sc1, s1, ?_⟩
  refine ⟨.ref l2, [], rfl, .ref x, rfl, x, He.ga K c, dx, q, putS i (.ref l1) [], j, rfl, .inr ⟨upd_same, ?_⟩, sc1, s2, rfl, ?_⟩
  · unfold slH
    rw [upd_ne (fun e => by rw [e, hx] at hdx; cases hdx), upd_same]
  · exact post l1 l2 T h1 h2 n21 hT nT1 nT2
/-! ### the call -/
def aMkS (c : Str) : ASt → M AV := fun _ => M.lift fun A => some (.ref (A.length + 2), A ++ [.lst []] ++ [.lst []] ++ [.slt c [.ref (A.length + 1), .ref A.length]])
section
variable {X : Cx} {E : XK} {c : Str} {p pos : Pos} {k j : Nat}
theorem a_makeS (d : MakS X.prog X.w X.K X.mg X.base k c 1 0) (hr : Room j X.A) (tk : TkE X E) (hk : k + 1 ≤ j) (hg : Gl X c) (hdb : (c == ("__debug__" : Str)) = false := by decide) : PE X (.Call (.Name c p) [] [] pos) (S X.K E (aMkS c)) := by
  obtain ⟨f, fd, ps, hm, F, hmg, b⟩ := d.ex
  refine wE (pe_make0 hm F (hr.mono hk) hg hmg b .nil (pX tk) hdb) fun σ H Q ⟨ρ, aσ, A, w, s, y⟩ x dx hx hdx hne => ?_
  obtain ⟨z, A', hz, post⟩ := y.lift
  cases hz
  have hxd : x ≠ dx := Ne.symm hne
  refine ⟨rfl, x, dx, rfl, upd_same, by rw [upd_ne hne, upd_same], fun l1 l2 T h1 h2 n21 hT nT1 nT2 => ⟨rfl, ?_⟩⟩
  have out : ∀ {b : Addr}, upd (upd H dx (.own x)) x (.ins (He.ga X.K c) dx []) b = none → b ≠ x ∧ b ≠ dx ∧ H b = none := fun {b} e => by
    by_cases e1 : b = x
    · rw [e1, upd_same] at e; cases e
    · rw [upd_ne e1] at e
      by_cases e2 : b = dx
      · rw [e2, upd_same] at e; cases e
      · rw [upd_ne e2] at e
        exact ⟨e1, e2, e⟩
  obtain ⟨a1, a2, a3⟩ := out h1
  obtain ⟨b1, b2, b3⟩ := out h2
  obtain ⟨t1, t2, t3⟩ := out hT
  have eH : mkH (upd (upd H dx (.own x)) x (.ins (He.ga X.K c) dx [])) (He.ga X.K c) x dx l1 l2 T 1 0 =
      upd (upd (upd (upd (upd H l1 (.lst [])) l2 (.lst [])) T (.tup [.ref l1, .ref l2])) dx (.xd [])) x (SlO x (He.ga X.K c) dx (([.ref l2, .ref l1] : List V).map some)) := by
    funext b
    unfold mkH slH
    by_cases e1 : b = x
    · rw [e1, upd_same, upd_same] <;> rfl
    · rw [upd_ne e1, upd_ne e1]
      by_cases e2 : b = dx
      · rw [e2, upd_same, upd_same]
      · rw [upd_ne e2, upd_ne e2, upd_ne e1, upd_ne e2]
        by_cases e3 : b = T
        · rw [e3, upd_same, upd_same]
        · rw [upd_ne e3, upd_ne e3]
          by_cases e4 : b = l2
          · rw [e4, upd_same, upd_same]
          · rw [upd_ne e4, upd_ne e4]
            by_cases e5 : b = l1
            · rw [e5, upd_same, upd_same]
            · rw [upd_ne e5, upd_ne e5, upd_ne e1, upd_ne e2]
  rw [eH]
  obtain ⟨wa, ga⟩ := w.new (u := .lst []) (o := .lst []) a3 ⟨[], upd_same, .nil⟩
  obtain ⟨wb, gb⟩ := wa.new (p := l2) (u := .lst []) (o := .lst []) (by rw [upd_ne n21]; exact b3) ⟨[], upd_same, .nil⟩
  obtain ⟨wc, gc⟩ := wb.out (p := T) (u := .tup [.ref l1, .ref l2]) (by rw [upd_ne nT2, upd_ne nT1]; exact t3)
  obtain ⟨wd, gd⟩ := wc.out (p := dx) (u := .xd []) (by rw [upd_ne (Ne.symm t2), upd_ne (Ne.symm b2), upd_ne (Ne.symm a2)]; exact hdx)
  have ra : ∀ {ρ' : List Addr} {H' : Hp}, (ρ ++ [l1] ++ [l2]) <+: ρ' → VRs X.K ρ' H' [.ref (A.length + 1), .ref A.length] [.ref l2, .ref l1] := fun {ρ' H'} ⟨r, e⟩ => by
    subst e
    refine .cons (.ref ?_) (.cons (.ref ?_) .nil)
    · rw [← w.len]; simp
    · rw [← w.len]; simp
  obtain ⟨we, ge⟩ := wd.new (p := x) (u := SlO x (He.ga X.K c) dx (([.ref l2, .ref l1] : List V).map some)) (o := .slt c [.ref (A.length + 1), .ref A.length]) (by rw [upd_ne hxd, upd_ne (Ne.symm t1), upd_ne (Ne.symm b1), upd_ne (Ne.symm a1)]; exact hx)
    ⟨dx, [.ref l2, .ref l1], upd_same, by rw [upd_ne hne, upd_same], ra ⟨[x], rfl⟩⟩
  exact post _ _ (.ref x) ((((ga.trans gb).trans gc).trans gd).trans ge) we (.ref (by rw [← w.len]; simp))
end
end AX

set_option Elab.async false
set_option linter.all false
set_option maxRecDepth 100000
set_option maxHeartbeats 4000000
namespace K95
open PySem PySem.Spec PyProof.Rows L2
/-! ### the text by places (printed by gen.py) -/
def top (i : Nat) : Stmt := PySem.Challenge.pw_runshown_k95_whole_couples_of_worlds_by.main.body.getD i (.Pass ⟨0, 0, 0, 0⟩)
abbrev s_BadWorld_init : Stmt := inClass (top 3) 0
abbrev s_BadSight_init : Stmt := inClass (top 4) 0
abbrev s_TooLarge_init : Stmt := inClass (top 5) 0
abbrev s_is_integer : Stmt := top 11
abbrev s_is_register : Stmt := top 12
abbrev s_is_name : Stmt := top 13
abbrev s_is_numeral : Stmt := top 14
abbrev s_is_operation : Stmt := top 15
abbrev s_is_way : Stmt := top 16
abbrev s_is_lot : Stmt := top 17
abbrev s_is_told_row : Stmt := top 18
abbrev s_is_meaning : Stmt := top 19
abbrev s_is_world_form : Stmt := top 20
abbrev s_goals_of : Stmt := top 22
abbrev s_made_worth : Stmt := top 26
abbrev s_Machine_init : Stmt := inClass (top 29) 0
abbrev s_Machine_its_step : Stmt := inClass (top 29) 4
abbrev s_Machine_state : Stmt := inClass (top 29) 5
abbrev s_Machine_worth_of : Stmt := inClass (top 29) 6
abbrev s_Machine_worths_of : Stmt := inClass (top 29) 7
abbrev s_Machine_put_into : Stmt := inClass (top 29) 8
abbrev s_Machine_step : Stmt := inClass (top 29) 9
abbrev s_Machine_do_plain : Stmt := inClass (top 29) 10
abbrev s_Machine_do_question : Stmt := inClass (top 29) 11
abbrev s_Machine_do_give : Stmt := inClass (top 29) 13
abbrev s_Machine_moment : Stmt := inClass (top 29) 14
abbrev s_Machine_events : Stmt := inClass (top 29) 15
abbrev s_is_place : Stmt := top 31
abbrev s_are_places : Stmt := top 32
abbrev s_is_sight : Stmt := top 33
abbrev s_place_fault : Stmt := top 34
abbrev s_checked_sight : Stmt := top 35
abbrev s_place_worth : Stmt := top 36
abbrev s_told_worths : Stmt := top 37
abbrev s_seen_worths : Stmt := top 38
abbrev s_is_too_great : Stmt := top 46
abbrev s_is_real : Stmt := top 47
abbrev s_real_worth : Stmt := top 48
abbrev s_mixed_worth : Stmt := top 49
abbrev s_World_init : Stmt := inClass (top 50) 0
abbrev s_World_looked_up : Stmt := inClass (top 50) 1
abbrev s_World_apply : Stmt := inClass (top 50) 2
abbrev s_World_read : Stmt := inClass (top 50) 3
abbrev s_World_answer : Stmt := inClass (top 50) 4
abbrev s_is_small : Stmt := top 51
abbrev s_is_shape : Stmt := top 52
abbrev s_checked_world : Stmt := top 53
abbrev s_thing_worth : Stmt := top 56
abbrev s_behind : Stmt := top 57
abbrev s_checked_many : Stmt := top 58
abbrev s_shown_by : Stmt := top 59
abbrev s_is_pair : Stmt := top 60
abbrev s_set_by : Stmt := top 64
abbrev s_used_by : Stmt := top 65
abbrev s_boxes_in : Stmt := top 66
abbrev s_own_lines : Stmt := top 67
abbrev s_own_places : Stmt := top 68
abbrev s_many_places : Stmt := top 70
abbrev s_Maker_init : Stmt := inClass (top 72) 1
abbrev s_Maker_put : Stmt := inClass (top 72) 2
abbrev s_Maker_body : Stmt := inClass (top 72) 3
abbrev s_Maker_statement : Stmt := inClass (top 72) 4
abbrev s_plain_code : Stmt := top 73
abbrev s_own_build : Stmt := top 74
abbrev s__law_bag : Stmt := top 76
abbrev s__law_take : Stmt := top 77
abbrev s__law_some : Stmt := top 78
abbrev s__law_mixed : Stmt := top 79
abbrev s__law_alike : Stmt := top 80
abbrev s__law_is_numeral : Stmt := top 81
abbrev s__law_formula : Stmt := top 82
abbrev s__law_apply : Stmt := top 83
abbrev s__law_asked : Stmt := top 84
abbrev s_law : Stmt := top 85
/-! ### names by slot -/
abbrev n_BadWorld_init : List Str := ["self", "fault"]
abbrev n_BadSight_init : List Str := ["self", "fault"]
abbrev n_TooLarge_init : List Str := ["self", "what", "limit"]
abbrev n_is_integer : List Str := ["thing"]
theorem sc_is_integer : FnScope n_is_integer ["thing"] (defScope s_is_integer) := ⟨rfl, rfl, rfl, by decide +kernel, rfl, by decide +kernel, by decide +kernel⟩
abbrev n_is_register : List Str := ["thing"]
theorem sc_is_register : FnScope n_is_register ["thing"] (defScope s_is_register) := ⟨rfl, rfl, rfl, by decide +kernel, rfl, by decide +kernel, by decide +kernel⟩
abbrev n_is_name : List Str := ["thing", "sign"]
theorem sc_is_name : FnScope n_is_name ["thing"] (defScope s_is_name) := ⟨rfl, rfl, rfl, by decide +kernel, rfl, by decide +kernel, by decide +kernel⟩
abbrev n_is_numeral : List Str := ["thing", "sign"]
theorem sc_is_numeral : FnScope n_is_numeral ["thing"] (defScope s_is_numeral) := ⟨rfl, rfl, rfl, by decide +kernel, rfl, by decide +kernel, by decide +kernel⟩
abbrev n_is_operation : List Str := ["thing"]
theorem sc_is_operation : FnScope n_is_operation ["thing"] (defScope s_is_operation) := ⟨rfl, rfl, rfl, by decide +kernel, rfl, by decide +kernel, by decide +kernel⟩
abbrev n_is_way : List Str := ["thing", "answer"]
theorem sc_is_way : FnScope n_is_way ["thing"] (defScope s_is_way) := ⟨rfl, rfl, rfl, by decide +kernel, rfl, by decide +kernel, by decide +kernel⟩
abbrev n_is_lot : List Str := ["thing", "least", "most", "fits", "member"]
theorem sc_is_lot : FnScope n_is_lot ["thing", "least", "most", "fits"] (defScope s_is_lot) := ⟨rfl, rfl, rfl, by decide +kernel, rfl, by decide +kernel, by decide +kernel⟩
abbrev n_is_told_row : List Str := ["thing"]
theorem sc_is_told_row : FnScope n_is_told_row ["thing"] (defScope s_is_told_row) := ⟨rfl, rfl, rfl, by decide +kernel, rfl, by decide +kernel, by decide +kernel⟩
abbrev n_is_meaning : List Str := ["thing"]
theorem sc_is_meaning : FnScope n_is_meaning ["thing"] (defScope s_is_meaning) := ⟨rfl, rfl, rfl, by decide +kernel, rfl, by decide +kernel, by decide +kernel⟩
abbrev n_is_world_form : List Str := ["thing"]
theorem sc_is_world_form : FnScope n_is_world_form ["thing"] (defScope s_is_world_form) := ⟨rfl, rfl, rfl, by decide +kernel, rfl, by decide +kernel, by decide +kernel⟩
abbrev n_goals_of : List Str := ["step", "row"]
theorem sc_goals_of : FnScope n_goals_of ["step", "row"] (defScope s_goals_of) := ⟨rfl, rfl, rfl, by decide +kernel, rfl, by decide +kernel, by decide +kernel⟩
abbrev n_made_worth : List Str := ["world", "operation", "worths", "worth"]
theorem sc_made_worth : FnScope n_made_worth ["world", "operation", "worths"] (defScope s_made_worth) := ⟨rfl, rfl, rfl, by decide +kernel, rfl, by decide +kernel, by decide +kernel⟩
abbrev n_Machine_init : List Str := ["self", "code", "world", "begin", "first", "stack", "registers", "cells", "events", "rows", "ticks", "name", "params", "cell", "row", "boxes", "event"]
theorem sc_Machine_init : FnScope n_Machine_init ["self", "code", "world", "begin"] (defScope s_Machine_init) := ⟨rfl, rfl, rfl, by decide +kernel, rfl, by decide +kernel, by decide +kernel⟩
abbrev n_Machine_its_step : List Str := ["self", "name", "row", "boxes"]
theorem sc_Machine_its_step : FnScope n_Machine_its_step ["self"] (defScope s_Machine_its_step) := ⟨rfl, rfl, rfl, by decide +kernel, rfl, by decide +kernel, by decide +kernel⟩
abbrev n_Machine_state : List Str := ["self", "word"]
theorem sc_Machine_state : FnScope n_Machine_state ["self"] (defScope s_Machine_state) := ⟨rfl, rfl, rfl, by decide +kernel, rfl, by decide +kernel, by decide +kernel⟩
abbrev n_Machine_worth_of : List Str := ["self", "box"]
theorem sc_Machine_worth_of : FnScope n_Machine_worth_of ["self", "box"] (defScope s_Machine_worth_of) := ⟨rfl, rfl, rfl, by decide +kernel, rfl, by decide +kernel, by decide +kernel⟩
abbrev n_Machine_worths_of : List Str := ["self", "boxes", "box"]
theorem sc_Machine_worths_of : FnScope n_Machine_worths_of ["self", "boxes"] (defScope s_Machine_worths_of) := ⟨rfl, rfl, rfl, by decide +kernel, rfl, by decide +kernel, by decide +kernel⟩
abbrev n_Machine_put_into : List Str := ["self", "box", "worth"]
theorem sc_Machine_put_into : FnScope n_Machine_put_into ["self", "box", "worth"] (defScope s_Machine_put_into) := ⟨rfl, rfl, rfl, by decide +kernel, rfl, by decide +kernel, by decide +kernel⟩
abbrev n_Machine_step : List Str := ["self", "step", "frame", "word"]
theorem sc_Machine_step : FnScope n_Machine_step ["self"] (defScope s_Machine_step) := ⟨rfl, rfl, rfl, by decide +kernel, rfl, by decide +kernel, by decide +kernel⟩
abbrev n_Machine_do_plain : List Str := ["self", "step", "word", "worth"]
theorem sc_Machine_do_plain : FnScope n_Machine_do_plain ["self", "step"] (defScope s_Machine_do_plain) := ⟨rfl, rfl, rfl, by decide +kernel, rfl, by decide +kernel, by decide +kernel⟩
abbrev n_Machine_do_question : List Str := ["self", "step", "frame", "answer"]
theorem sc_Machine_do_question : FnScope n_Machine_do_question ["self", "step"] (defScope s_Machine_do_question) := ⟨rfl, rfl, rfl, by decide +kernel, rfl, by decide +kernel, by decide +kernel⟩
abbrev n_Machine_do_give : List Str := ["self", "worth"]
theorem sc_Machine_do_give : FnScope n_Machine_do_give ["self", "worth"] (defScope s_Machine_do_give) := ⟨rfl, rfl, rfl, by decide +kernel, rfl, by decide +kernel, by decide +kernel⟩
abbrev n_Machine_moment : List Str := ["self", "stack", "registers", "cells", "name", "row", "boxes"]
theorem sc_Machine_moment : FnScope n_Machine_moment ["self"] (defScope s_Machine_moment) := ⟨rfl, rfl, rfl, by decide +kernel, rfl, by decide +kernel, by decide +kernel⟩
abbrev n_Machine_events : List Str := ["self"]
theorem sc_Machine_events : FnScope n_Machine_events ["self"] (defScope s_Machine_events) := ⟨rfl, rfl, rfl, by decide +kernel, rfl, by decide +kernel, by decide +kernel⟩
abbrev n_is_place : List Str := ["thing"]
theorem sc_is_place : FnScope n_is_place ["thing"] (defScope s_is_place) := ⟨rfl, rfl, rfl, by decide +kernel, rfl, by decide +kernel, by decide +kernel⟩
abbrev n_are_places : List Str := ["thing", "place"]
theorem sc_are_places : FnScope n_are_places ["thing"] (defScope s_are_places) := ⟨rfl, rfl, rfl, by decide +kernel, rfl, by decide +kernel, by decide +kernel⟩
abbrev n_is_sight : List Str := ["thing"]
theorem sc_is_sight : FnScope n_is_sight ["thing"] (defScope s_is_sight) := ⟨rfl, rfl, rfl, by decide +kernel, rfl, by decide +kernel, by decide +kernel⟩
abbrev n_place_fault : List Str := ["moment", "place", "stack", "registers", "cells", "there"]
theorem sc_place_fault : FnScope n_place_fault ["moment", "place"] (defScope s_place_fault) := ⟨rfl, rfl, rfl, by decide +kernel, rfl, by decide +kernel, by decide +kernel⟩
abbrev n_checked_sight : List Str := ["moment", "sight", "place", "fault"]
theorem sc_checked_sight : FnScope n_checked_sight ["moment", "sight"] (defScope s_checked_sight) := ⟨rfl, rfl, rfl, by decide +kernel, rfl, by decide +kernel, by decide +kernel⟩
abbrev n_place_worth : List Str := ["moment", "place"]
theorem sc_place_worth : FnScope n_place_worth ["moment", "place"] (defScope s_place_worth) := ⟨rfl, rfl, rfl, by decide +kernel, rfl, by decide +kernel, by decide +kernel⟩
abbrev n_told_worths : List Str := ["events", "found", "event"]
theorem sc_told_worths : FnScope n_told_worths ["events"] (defScope s_told_worths) := ⟨rfl, rfl, rfl, by decide +kernel, rfl, by decide +kernel, by decide +kernel⟩
abbrev n_seen_worths : List Str := ["moment", "events", "sight", "places", "told", "way", "found", "place"]
theorem sc_seen_worths : FnScope n_seen_worths ["moment", "events", "sight"] (defScope s_seen_worths) := ⟨rfl, rfl, rfl, by decide +kernel, rfl, by decide +kernel, by decide +kernel⟩
abbrev n_is_too_great : List Str := ["worth", "rest", "_turn"]
theorem sc_is_too_great : FnScope n_is_too_great ["worth"] (defScope s_is_too_great) := ⟨rfl, rfl, rfl, by decide +kernel, rfl, by decide +kernel, by decide +kernel⟩
abbrev n_is_real : List Str := ["op", "parts"]
theorem sc_is_real : FnScope n_is_real ["op", "parts"] (defScope s_is_real) := ⟨rfl, rfl, rfl, by decide +kernel, rfl, by decide +kernel, by decide +kernel⟩
abbrev n_real_worth : List Str := ["op", "parts"]
theorem sc_real_worth : FnScope n_real_worth ["op", "parts"] (defScope s_real_worth) := ⟨rfl, rfl, rfl, by decide +kernel, rfl, by decide +kernel, by decide +kernel⟩
abbrev n_mixed_worth : List Str := ["seed", "op", "parts", "here", "sign", "part"]
theorem sc_mixed_worth : FnScope n_mixed_worth ["seed", "op", "parts"] (defScope s_mixed_worth) := ⟨rfl, rfl, rfl, by decide +kernel, rfl, by decide +kernel, by decide +kernel⟩
abbrev n_World_init : List Str := ["self", "meaning", "reads", "answers", "row"]
theorem sc_World_init : FnScope n_World_init ["self", "meaning", "reads", "answers"] (defScope s_World_init) := ⟨rfl, rfl, rfl, by decide +kernel, rfl, by decide +kernel, by decide +kernel⟩
abbrev n_World_looked_up : List Str := ["self", "op", "parts", "kind"]
theorem sc_World_looked_up : FnScope n_World_looked_up ["self", "op", "parts"] (defScope s_World_looked_up) := ⟨rfl, rfl, rfl, by decide +kernel, rfl, by decide +kernel, by decide +kernel⟩
abbrev n_World_apply : List Str := ["self", "op", "parts", "worth"]
theorem sc_World_apply : FnScope n_World_apply ["self", "op", "parts"] (defScope s_World_apply) := ⟨rfl, rfl, rfl, by decide +kernel, rfl, by decide +kernel, by decide +kernel⟩
abbrev n_World_read : List Str := ["self", "i"]
theorem sc_World_read : FnScope n_World_read ["self", "i"] (defScope s_World_read) := ⟨rfl, rfl, rfl, by decide +kernel, rfl, by decide +kernel, by decide +kernel⟩
abbrev n_World_answer : List Str := ["self", "i"]
theorem sc_World_answer : FnScope n_World_answer ["self", "i"] (defScope s_World_answer) := ⟨rfl, rfl, rfl, by decide +kernel, rfl, by decide +kernel, by decide +kernel⟩
abbrev n_is_small : List Str := ["thing"]
theorem sc_is_small : FnScope n_is_small ["thing"] (defScope s_is_small) := ⟨rfl, rfl, rfl, by decide +kernel, rfl, by decide +kernel, by decide +kernel⟩
abbrev n_is_shape : List Str := ["thing", "meaning", "op", "parts", "worth", "one"]
theorem sc_is_shape : FnScope n_is_shape ["thing"] (defScope s_is_shape) := ⟨rfl, rfl, rfl, by decide +kernel, rfl, by decide +kernel, by decide +kernel⟩
abbrev n_checked_world : List Str := ["thing", "meaning", "rows", "one", "other", "row"]
theorem sc_checked_world : FnScope n_checked_world ["thing"] (defScope s_checked_world) := ⟨rfl, rfl, rfl, by decide +kernel, rfl, by decide +kernel, by decide +kernel⟩
abbrev n_thing_worth : List Str := ["moment", "thing", "boxes"]
theorem sc_thing_worth : FnScope n_thing_worth ["moment", "thing"] (defScope s_thing_worth) := ⟨rfl, rfl, rfl, by decide +kernel, rfl, by decide +kernel, by decide +kernel⟩
abbrev n_behind : List Str := ["code", "world", "rows", "machine", "_row"]
theorem sc_behind : FnScope n_behind ["code", "world", "rows"] (defScope s_behind) := ⟨rfl, rfl, rfl, by decide +kernel, rfl, by decide +kernel, by decide +kernel⟩
abbrev n_checked_many : List Str := ["rows"]
theorem sc_checked_many : FnScope n_checked_many ["rows"] (defScope s_checked_many) := ⟨rfl, rfl, rfl, by decide +kernel, rfl, by decide +kernel, by decide +kernel⟩
abbrev n_shown_by : List Str := ["lower", "upper", "sight", "thing", "moment"]
theorem sc_shown_by : FnScope n_shown_by ["lower", "upper", "sight", "thing"] (defScope s_shown_by) := ⟨rfl, rfl, rfl, by decide +kernel, rfl, by decide +kernel, by decide +kernel⟩
abbrev n_is_pair : List Str := ["build", "m", "sight", "j", "thing", "one", "other", "worlds", "runs", "told", "its", "world", "lower", "upper"]
theorem sc_is_pair : FnScope n_is_pair ["build", "m", "sight", "j", "thing", "one", "other"] (defScope s_is_pair) := ⟨rfl, rfl, rfl, by decide +kernel, rfl, by decide +kernel, by decide +kernel⟩
abbrev n_set_by : List Str := ["row"]
theorem sc_set_by : FnScope n_set_by ["row"] (defScope s_set_by) := ⟨rfl, rfl, rfl, by decide +kernel, rfl, by decide +kernel, by decide +kernel⟩
abbrev n_used_by : List Str := ["row"]
theorem sc_used_by : FnScope n_used_by ["row"] (defScope s_used_by) := ⟨rfl, rfl, rfl, by decide +kernel, rfl, by decide +kernel, by decide +kernel⟩
abbrev n_boxes_in : List Str := ["params", "rows", "found", "row"]
theorem sc_boxes_in : FnScope n_boxes_in ["params", "rows"] (defScope s_boxes_in) := ⟨rfl, rfl, rfl, by decide +kernel, rfl, by decide +kernel, by decide +kernel⟩
abbrev n_own_lines : List Str := ["code", "name", "params", "rows"]
theorem sc_own_lines : FnScope n_own_lines ["code"] (defScope s_own_lines) := ⟨rfl, rfl, rfl, by decide +kernel, rfl, by decide +kernel, by decide +kernel⟩
abbrev n_own_places : List Str := ["name", "rows", "at"]
theorem sc_own_places : FnScope n_own_places ["name", "rows"] (defScope s_own_places) := ⟨rfl, rfl, rfl, by decide +kernel, rfl, by decide +kernel, by decide +kernel⟩
abbrev n_many_places : List Str := ["statement", "many", "body", "one"]
theorem sc_many_places : FnScope n_many_places ["statement"] (defScope s_many_places) := ⟨rfl, rfl, rfl, by decide +kernel, rfl, by decide +kernel, by decide +kernel⟩
abbrev n_Maker_init : List Str := ["self"]
theorem sc_Maker_init : FnScope n_Maker_init ["self"] (defScope s_Maker_init) := ⟨rfl, rfl, rfl, by decide +kernel, rfl, by decide +kernel, by decide +kernel⟩
abbrev n_Maker_put : List Str := ["self", "row", "place"]
theorem sc_Maker_put : FnScope n_Maker_put ["self", "row", "place"] (defScope s_Maker_put) := ⟨rfl, rfl, rfl, by decide +kernel, rfl, by decide +kernel, by decide +kernel⟩
abbrev n_Maker_body : List Str := ["self", "body", "place", "statement"]
theorem sc_Maker_body : FnScope n_Maker_body ["self", "body", "place"] (defScope s_Maker_body) := ⟨rfl, rfl, rfl, by decide +kernel, rfl, by decide +kernel, by decide +kernel⟩
abbrev n_Maker_statement : List Str := ["self", "statement", "place"]
theorem sc_Maker_statement : FnScope n_Maker_statement ["self", "statement", "place"] (defScope s_Maker_statement) := ⟨rfl, rfl, rfl, by decide +kernel, rfl, by decide +kernel, by decide +kernel⟩
abbrev n_plain_code : List Str := ["program", "functions", "places", "name", "params", "body", "maker"]
theorem sc_plain_code : FnScope n_plain_code ["program"] (defScope s_plain_code) := ⟨rfl, rfl, rfl, by decide +kernel, rfl, by decide +kernel, by decide +kernel⟩
abbrev n_own_build : List Str := ["code"]
theorem sc_own_build : FnScope n_own_build ["code"] (defScope s_own_build) := ⟨rfl, rfl, rfl, by decide +kernel, rfl, by decide +kernel, by decide +kernel⟩
abbrev n__law_bag : List Str := ["script", "cell"]
theorem sc__law_bag : FnScope n__law_bag ["script"] (defScope s__law_bag) := ⟨rfl, rfl, rfl, by decide +kernel, rfl, by decide +kernel, by decide +kernel⟩
abbrev n__law_take : List Str := ["bag", "many", "cell", "stirred", "value", "begin", "second"]
theorem sc__law_take : FnScope n__law_take ["bag", "many"] (defScope s__law_take) := ⟨rfl, rfl, rfl, by decide +kernel, rfl, by decide +kernel, by decide +kernel⟩
abbrev n__law_some : List Str := ["bag", "things"]
theorem sc__law_some : FnScope n__law_some ["bag", "things"] (defScope s__law_some) := ⟨rfl, rfl, rfl, by decide +kernel, rfl, by decide +kernel, by decide +kernel⟩
abbrev n__law_mixed : List Str := ["bag", "things", "found", "thing"]
theorem sc__law_mixed : FnScope n__law_mixed ["bag", "things"] (defScope s__law_mixed) := ⟨rfl, rfl, rfl, by decide +kernel, rfl, by decide +kernel, by decide +kernel⟩
abbrev n__law_alike : List Str := ["found", "due"]
theorem sc__law_alike : FnScope n__law_alike ["found", "due"] (defScope s__law_alike) := ⟨rfl, rfl, rfl, by decide +kernel, rfl, by decide +kernel, by decide +kernel⟩
abbrev n__law_is_numeral : List Str := ["thing", "sign"]
theorem sc__law_is_numeral : FnScope n__law_is_numeral ["thing"] (defScope s__law_is_numeral) := ⟨rfl, rfl, rfl, by decide +kernel, rfl, by decide +kernel, by decide +kernel⟩
abbrev n__law_formula : List Str := ["seed", "op", "parts", "h", "sign", "part"]
theorem sc__law_formula : FnScope n__law_formula ["seed", "op", "parts"] (defScope s__law_formula) := ⟨rfl, rfl, rfl, by decide +kernel, rfl, by decide +kernel, by decide +kernel⟩
abbrev n__law_apply : List Str := ["meaning", "op", "parts", "row"]
theorem sc__law_apply : FnScope n__law_apply ["meaning", "op", "parts"] (defScope s__law_apply) := ⟨rfl, rfl, rfl, by decide +kernel, rfl, by decide +kernel, by decide +kernel⟩
abbrev n__law_asked : List Str := ["act", "error"]
theorem sc__law_asked : FnScope n__law_asked ["act"] (defScope s__law_asked) := ⟨rfl, rfl, rfl, by decide +kernel, rfl, by decide +kernel, by decide +kernel⟩
abbrev n_law : List Str := ["script", "bag", "rows", "build", "kind", "meaning", "reads", "by", "other", "one", "two", "names", "seen", "is_told", "thing", "lots", "its", "worth", "sight", "name", "same", "due", "longer", "odd", "spots", "doors", "k", "box", "mine", "couple", "m", "j"]
theorem sc_law : FnScope n_law ["script"] (defScope s_law) := ⟨rfl, rfl, rfl, by decide +kernel, rfl, by decide +kernel, by decide +kernel⟩
/-! ### the defs as data -/
def d_BadWorld_init : He.DefD := ⟨("BadWorld", some "__init__"), "__init__", "BadWorld.__init__", defArgs s_BadWorld_init, defBody s_BadWorld_init, defScope s_BadWorld_init, [], []⟩
def d_BadSight_init : He.DefD := ⟨("BadSight", some "__init__"), "__init__", "BadSight.__init__", defArgs s_BadSight_init, defBody s_BadSight_init, defScope s_BadSight_init, [], []⟩
def d_TooLarge_init : He.DefD := ⟨("TooLarge", some "__init__"), "__init__", "TooLarge.__init__", defArgs s_TooLarge_init, defBody s_TooLarge_init, defScope s_TooLarge_init, [], []⟩
def d_is_integer : He.DefD := ⟨("is_integer", none), "is_integer", "is_integer", defArgs s_is_integer, defBody s_is_integer, defScope s_is_integer, [], []⟩
def d_is_register : He.DefD := ⟨("is_register", none), "is_register", "is_register", defArgs s_is_register, defBody s_is_register, defScope s_is_register, [], []⟩
def d_is_name : He.DefD := ⟨("is_name", none), "is_name", "is_name", defArgs s_is_name, defBody s_is_name, defScope s_is_name, [], []⟩
def d_is_numeral : He.DefD := ⟨("is_numeral", none), "is_numeral", "is_numeral", defArgs s_is_numeral, defBody s_is_numeral, defScope s_is_numeral, [], []⟩
def d_is_operation : He.DefD := ⟨("is_operation", none), "is_operation", "is_operation", defArgs s_is_operation, defBody s_is_operation, defScope s_is_operation, [], []⟩
def d_is_way : He.DefD := ⟨("is_way", none), "is_way", "is_way", defArgs s_is_way, defBody s_is_way, defScope s_is_way, [], []⟩
def d_is_lot : He.DefD := ⟨("is_lot", none), "is_lot", "is_lot", defArgs s_is_lot, defBody s_is_lot, defScope s_is_lot, [], []⟩
def d_is_told_row : He.DefD := ⟨("is_told_row", none), "is_told_row", "is_told_row", defArgs s_is_told_row, defBody s_is_told_row, defScope s_is_told_row, [], []⟩
def d_is_meaning : He.DefD := ⟨("is_meaning", none), "is_meaning", "is_meaning", defArgs s_is_meaning, defBody s_is_meaning, defScope s_is_meaning, [], []⟩
def d_is_world_form : He.DefD := ⟨("is_world_form", none), "is_world_form", "is_world_form", defArgs s_is_world_form, defBody s_is_world_form, defScope s_is_world_form, [], []⟩
def d_goals_of : He.DefD := ⟨("goals_of", none), "goals_of", "goals_of", defArgs s_goals_of, defBody s_goals_of, defScope s_goals_of, [], []⟩
def d_made_worth : He.DefD := ⟨("made_worth", none), "made_worth", "made_worth", defArgs s_made_worth, defBody s_made_worth, defScope s_made_worth, [], []⟩
def d_Machine_init : He.DefD := ⟨("Machine", some "__init__"), "__init__", "Machine.__init__", defArgs s_Machine_init, defBody s_Machine_init, defScope s_Machine_init, [.non], []⟩
def d_Machine_its_step : He.DefD := ⟨("Machine", some "its_step"), "its_step", "Machine.its_step", defArgs s_Machine_its_step, defBody s_Machine_its_step, defScope s_Machine_its_step, [], []⟩
def d_Machine_state : He.DefD := ⟨("Machine", some "state"), "state", "Machine.state", defArgs s_Machine_state, defBody s_Machine_state, defScope s_Machine_state, [], []⟩
def d_Machine_worth_of : He.DefD := ⟨("Machine", some "worth_of"), "worth_of", "Machine.worth_of", defArgs s_Machine_worth_of, defBody s_Machine_worth_of, defScope s_Machine_worth_of, [], []⟩
def d_Machine_worths_of : He.DefD := ⟨("Machine", some "worths_of"), "worths_of", "Machine.worths_of", defArgs s_Machine_worths_of, defBody s_Machine_worths_of, defScope s_Machine_worths_of, [], []⟩
def d_Machine_put_into : He.DefD := ⟨("Machine", some "put_into"), "put_into", "Machine.put_into", defArgs s_Machine_put_into, defBody s_Machine_put_into, defScope s_Machine_put_into, [], []⟩
def d_Machine_step : He.DefD := ⟨("Machine", some "step"), "step", "Machine.step", defArgs s_Machine_step, defBody s_Machine_step, defScope s_Machine_step, [], []⟩
def d_Machine_do_plain : He.DefD := ⟨("Machine", some "do_plain"), "do_plain", "Machine.do_plain", defArgs s_Machine_do_plain, defBody s_Machine_do_plain, defScope s_Machine_do_plain, [], []⟩
def d_Machine_do_question : He.DefD := ⟨("Machine", some "do_question"), "do_question", "Machine.do_question", defArgs s_Machine_do_question, defBody s_Machine_do_question, defScope s_Machine_do_question, [], []⟩
def d_Machine_do_give : He.DefD := ⟨("Machine", some "do_give"), "do_give", "Machine.do_give", defArgs s_Machine_do_give, defBody s_Machine_do_give, defScope s_Machine_do_give, [], []⟩
def d_Machine_moment : He.DefD := ⟨("Machine", some "moment"), "moment", "Machine.moment", defArgs s_Machine_moment, defBody s_Machine_moment, defScope s_Machine_moment, [], []⟩
def d_Machine_events : He.DefD := ⟨("Machine", some "events"), "events", "Machine.events", defArgs s_Machine_events, defBody s_Machine_events, defScope s_Machine_events, [], []⟩
def d_is_place : He.DefD := ⟨("is_place", none), "is_place", "is_place", defArgs s_is_place, defBody s_is_place, defScope s_is_place, [], []⟩
def d_are_places : He.DefD := ⟨("are_places", none), "are_places", "are_places", defArgs s_are_places, defBody s_are_places, defScope s_are_places, [], []⟩
def d_is_sight : He.DefD := ⟨("is_sight", none), "is_sight", "is_sight", defArgs s_is_sight, defBody s_is_sight, defScope s_is_sight, [], []⟩
def d_place_fault : He.DefD := ⟨("place_fault", none), "place_fault", "place_fault", defArgs s_place_fault, defBody s_place_fault, defScope s_place_fault, [], []⟩
def d_checked_sight : He.DefD := ⟨("checked_sight", none), "checked_sight", "checked_sight", defArgs s_checked_sight, defBody s_checked_sight, defScope s_checked_sight, [], []⟩
def d_place_worth : He.DefD := ⟨("place_worth", none), "place_worth", "place_worth", defArgs s_place_worth, defBody s_place_worth, defScope s_place_worth, [], []⟩
def d_told_worths : He.DefD := ⟨("told_worths", none), "told_worths", "told_worths", defArgs s_told_worths, defBody s_told_worths, defScope s_told_worths, [], []⟩
def d_seen_worths : He.DefD := ⟨("seen_worths", none), "seen_worths", "seen_worths", defArgs s_seen_worths, defBody s_seen_worths, defScope s_seen_worths, [], []⟩
def d_is_too_great : He.DefD := ⟨("is_too_great", none), "is_too_great", "is_too_great", defArgs s_is_too_great, defBody s_is_too_great, defScope s_is_too_great, [], []⟩
def d_is_real : He.DefD := ⟨("is_real", none), "is_real", "is_real", defArgs s_is_real, defBody s_is_real, defScope s_is_real, [], []⟩
def d_real_worth : He.DefD := ⟨("real_worth", none), "real_worth", "real_worth", defArgs s_real_worth, defBody s_real_worth, defScope s_real_worth, [], []⟩
def d_mixed_worth : He.DefD := ⟨("mixed_worth", none), "mixed_worth", "mixed_worth", defArgs s_mixed_worth, defBody s_mixed_worth, defScope s_mixed_worth, [], []⟩
def d_World_init : He.DefD := ⟨("World", some "__init__"), "__init__", "World.__init__", defArgs s_World_init, defBody s_World_init, defScope s_World_init, [], []⟩
def d_World_looked_up : He.DefD := ⟨("World", some "looked_up"), "looked_up", "World.looked_up", defArgs s_World_looked_up, defBody s_World_looked_up, defScope s_World_looked_up, [], []⟩
def d_World_apply : He.DefD := ⟨("World", some "apply"), "apply", "World.apply", defArgs s_World_apply, defBody s_World_apply, defScope s_World_apply, [], []⟩
def d_World_read : He.DefD := ⟨("World", some "read"), "read", "World.read", defArgs s_World_read, defBody s_World_read, defScope s_World_read, [], []⟩
def d_World_answer : He.DefD := ⟨("World", some "answer"), "answer", "World.answer", defArgs s_World_answer, defBody s_World_answer, defScope s_World_answer, [], []⟩
def d_is_small : He.DefD := ⟨("is_small", none), "is_small", "is_small", defArgs s_is_small, defBody s_is_small, defScope s_is_small, [], []⟩
def d_is_shape : He.DefD := ⟨("is_shape", none), "is_shape", "is_shape", defArgs s_is_shape, defBody s_is_shape, defScope s_is_shape, [], []⟩
def d_checked_world : He.DefD := ⟨("checked_world", none), "checked_world", "checked_world", defArgs s_checked_world, defBody s_checked_world, defScope s_checked_world, [], []⟩
def d_thing_worth : He.DefD := ⟨("thing_worth", none), "thing_worth", "thing_worth", defArgs s_thing_worth, defBody s_thing_worth, defScope s_thing_worth, [], []⟩
def d_behind : He.DefD := ⟨("behind", none), "behind", "behind", defArgs s_behind, defBody s_behind, defScope s_behind, [], []⟩
def d_checked_many : He.DefD := ⟨("checked_many", none), "checked_many", "checked_many", defArgs s_checked_many, defBody s_checked_many, defScope s_checked_many, [], []⟩
def d_shown_by : He.DefD := ⟨("shown_by", none), "shown_by", "shown_by", defArgs s_shown_by, defBody s_shown_by, defScope s_shown_by, [], []⟩
def d_is_pair : He.DefD := ⟨("is_pair", none), "is_pair", "is_pair", defArgs s_is_pair, defBody s_is_pair, defScope s_is_pair, [], []⟩
def d_set_by : He.DefD := ⟨("set_by", none), "set_by", "set_by", defArgs s_set_by, defBody s_set_by, defScope s_set_by, [], []⟩
def d_used_by : He.DefD := ⟨("used_by", none), "used_by", "used_by", defArgs s_used_by, defBody s_used_by, defScope s_used_by, [], []⟩
def d_boxes_in : He.DefD := ⟨("boxes_in", none), "boxes_in", "boxes_in", defArgs s_boxes_in, defBody s_boxes_in, defScope s_boxes_in, [], []⟩
def d_own_lines : He.DefD := ⟨("own_lines", none), "own_lines", "own_lines", defArgs s_own_lines, defBody s_own_lines, defScope s_own_lines, [], []⟩
def d_own_places : He.DefD := ⟨("own_places", none), "own_places", "own_places", defArgs s_own_places, defBody s_own_places, defScope s_own_places, [], []⟩
def d_many_places : He.DefD := ⟨("many_places", none), "many_places", "many_places", defArgs s_many_places, defBody s_many_places, defScope s_many_places, [], []⟩
def d_Maker_init : He.DefD := ⟨("Maker", some "__init__"), "__init__", "Maker.__init__", defArgs s_Maker_init, defBody s_Maker_init, defScope s_Maker_init, [], []⟩
def d_Maker_put : He.DefD := ⟨("Maker", some "put"), "put", "Maker.put", defArgs s_Maker_put, defBody s_Maker_put, defScope s_Maker_put, [], []⟩
def d_Maker_body : He.DefD := ⟨("Maker", some "body"), "body", "Maker.body", defArgs s_Maker_body, defBody s_Maker_body, defScope s_Maker_body, [], []⟩
def d_Maker_statement : He.DefD := ⟨("Maker", some "statement"), "statement", "Maker.statement", defArgs s_Maker_statement, defBody s_Maker_statement, defScope s_Maker_statement, [], []⟩
def d_plain_code : He.DefD := ⟨("plain_code", none), "plain_code", "plain_code", defArgs s_plain_code, defBody s_plain_code, defScope s_plain_code, [], []⟩
def d_own_build : He.DefD := ⟨("own_build", none), "own_build", "own_build", defArgs s_own_build, defBody s_own_build, defScope s_own_build, [], []⟩
def d__law_bag : He.DefD := ⟨("_law_bag", none), "_law_bag", "_law_bag", defArgs s__law_bag, defBody s__law_bag, defScope s__law_bag, [], []⟩
def d__law_take : He.DefD := ⟨("_law_take", none), "_law_take", "_law_take", defArgs s__law_take, defBody s__law_take, defScope s__law_take, [], []⟩
def d__law_some : He.DefD := ⟨("_law_some", none), "_law_some", "_law_some", defArgs s__law_some, defBody s__law_some, defScope s__law_some, [], []⟩
def d__law_mixed : He.DefD := ⟨("_law_mixed", none), "_law_mixed", "_law_mixed", defArgs s__law_mixed, defBody s__law_mixed, defScope s__law_mixed, [], []⟩
def d__law_alike : He.DefD := ⟨("_law_alike", none), "_law_alike", "_law_alike", defArgs s__law_alike, defBody s__law_alike, defScope s__law_alike, [], []⟩
def d__law_is_numeral : He.DefD := ⟨("_law_is_numeral", none), "_law_is_numeral", "_law_is_numeral", defArgs s__law_is_numeral, defBody s__law_is_numeral, defScope s__law_is_numeral, [], []⟩
def d__law_formula : He.DefD := ⟨("_law_formula", none), "_law_formula", "_law_formula", defArgs s__law_formula, defBody s__law_formula, defScope s__law_formula, [], []⟩
def d__law_apply : He.DefD := ⟨("_law_apply", none), "_law_apply", "_law_apply", defArgs s__law_apply, defBody s__law_apply, defScope s__law_apply, [], []⟩
def d__law_asked : He.DefD := ⟨("_law_asked", none), "_law_asked", "_law_asked", defArgs s__law_asked, defBody s__law_asked, defScope s__law_asked, [], []⟩
def d_law : He.DefD := ⟨("law", none), "law", "law", defArgs s_law, defBody s_law, defScope s_law, [], []⟩
def x_BadWorld_init : AX.XD := ⟨"BadWorld", ["fault"], "BadWorld.__init__", defArgs s_BadWorld_init, defBody s_BadWorld_init, defScope s_BadWorld_init⟩
def x_BadSight_init : AX.XD := ⟨"BadSight", ["fault"], "BadSight.__init__", defArgs s_BadSight_init, defBody s_BadSight_init, defScope s_BadSight_init⟩
def x_TooLarge_init : AX.XD := ⟨"TooLarge", ["what", "limit"], "TooLarge.__init__", defArgs s_TooLarge_init, defBody s_TooLarge_init, defScope s_TooLarge_init⟩
def xs : List AX.XD := [x_BadWorld_init, x_BadSight_init, x_TooLarge_init]
def fl : Str := "/claim/cut.py"
def fn : List He.DefD := ([d_is_integer, d_is_register, d_is_name, d_is_numeral, d_is_operation, d_is_way, d_is_lot, d_is_told_row, d_is_meaning, d_is_world_form, d_goals_of, d_made_worth, d_Machine_init, d_Machine_its_step, d_Machine_state, d_Machine_worth_of, d_Machine_worths_of, d_Machine_put_into, d_Machine_step, d_Machine_do_plain] : List He.DefD) ++ ([d_Machine_do_question, d_Machine_do_give, d_Machine_moment, d_Machine_events, d_is_place, d_are_places, d_is_sight, d_place_fault, d_checked_sight, d_place_worth, d_told_worths, d_seen_worths, d_is_too_great, d_is_real, d_real_worth, d_mixed_worth, d_World_init, d_World_looked_up, d_World_apply, d_World_read] : List He.DefD) ++ ([d_World_answer, d_is_small, d_is_shape, d_checked_world, d_thing_worth, d_behind, d_checked_many, d_shown_by, d_is_pair, d_set_by, d_used_by, d_boxes_in, d_own_lines, d_own_places, d_many_places, d_Maker_init, d_Maker_put, d_Maker_body, d_Maker_statement, d_plain_code] : List He.DefD) ++ ([d_own_build, d__law_bag, d__law_take, d__law_some, d__law_mixed, d__law_alike, d__law_is_numeral, d__law_formula, d__law_apply, d__law_asked, d_law] : List He.DefD)
def fa : List He.Fa := ([.glo "is_integer", .glo "is_register", .glo "is_name", .glo "is_numeral", .glo "is_operation", .glo "is_way", .glo "is_lot", .glo "is_told_row", .glo "is_meaning", .glo "is_world_form", .glo "goals_of", .glo "made_worth", .glo "is_place", .glo "are_places", .glo "is_sight", .glo "place_fault", .glo "checked_sight", .glo "place_worth", .glo "told_worths", .glo "seen_worths", .glo "is_too_great", .glo "is_real", .glo "real_worth", .glo "mixed_worth", .glo "is_small", .glo "is_shape", .glo "checked_world", .glo "thing_worth", .glo "behind", .glo "checked_many"] : List He.Fa) ++ ([.glo "shown_by", .glo "is_pair", .glo "set_by", .glo "used_by", .glo "boxes_in", .glo "own_lines", .glo "own_places", .glo "many_places", .glo "plain_code", .glo "own_build", .glo "_law_bag", .glo "_law_take", .glo "_law_some", .glo "_law_mixed", .glo "_law_alike", .glo "_law_is_numeral", .glo "_law_formula", .glo "_law_apply", .glo "_law_asked", .glo "law", .glo "RESERVED", .glo "LONG", .glo "RunError", .glo "BadWorld", .glo "BadSight", .glo "TooLarge", .glo "Machine", .glo "World", .glo "Maker", .free "len"] : List He.Fa) ++ ([.free "isinstance", .free "all", .free "any", .free "abs", .free "int", .free "str", .free "bool", .free "tuple", .free "list", .free "dict", .free "set", .free "sorted", .free "range", .free "zip", .free "sum", .free "enumerate", .free "repr", .free "ValueError", .free "super", .int "MOST_PARTS_forms" 3, .int "MOST_FIGURES" 1000, .int "MODULUS" 1000003, .int "HALF" 500000, .int "FIGURES" 1000, .int "MOST_PARTS_worlds" 3, .int "MOST" 20000, .int "MOST_ROWS" 160, .int "MOST_BOXES" 24, .int "FIFTY" (10 ^ 50), .str "LETTERS" "abcdefghijklmnopqrstuvwxyz"] : List He.Fa) ++ ([.str "DIGITS" "0123456789", .str "SIGNS" "0123456789abcdefghijklmnopqrstuvwxyz", .cls "Machine", .mkr "Machine", .noat "Machine" "its_code", .noat "Machine" "its_world", .noat "Machine" "its_rows", .noat "Machine" "its_fault", .noat "Machine" "its_frames", .noat "Machine" "its_registers", .noat "Machine" "its_cells", .noat "Machine" "its_events", .noat "Machine" "its_answers", .noat "Machine" "its_reads", .noat "Machine" "its_done", .noat "Machine" "its_ticks", .cls "World", .mkr "World", .noat "World" "meaning", .noat "World" "reads", .noat "World" "answers", .noat "World" "table", .mkr "Maker", .exm "TooLarge" "TooLarge" true, .exm "BadSight" "TooLarge" false, .exm "BadSight" "BadSight" true, .exm "BadWorld" "BadWorld" true, .meth "Machine" "its_step", .meth "Machine" "state", .meth "Machine" "worth_of"] : List He.Fa) ++ ([.meth "Machine" "worths_of", .meth "Machine" "put_into", .meth "Machine" "step", .meth "Machine" "do_plain", .meth "Machine" "do_question", .meth "Machine" "do_give", .meth "Machine" "moment", .meth "Machine" "events", .meth "World" "looked_up", .meth "World" "apply", .meth "World" "read", .meth "World" "answer", .meth "Maker" "put", .meth "Maker" "body", .meth "Maker" "statement"] : List He.Fa)
/-- what else the head tells -/
def exA (K : PySem.W.Frag) : Bool := He.tupB K "RESERVED" [.str "ask", .str "call", .str "cell", .str "cells", .str "code", .str "def", .str "else", .str "give", .str "if", .str "jump", .str "last", .str "must", .str "read", .str "tell", .str "while"] && He.tupB K "LONG" [.str "call", .str "last", .str "give"] && He.eqO (PySem.W.nsIn K cStatics "thirdparty.any") (some none)
def exM (K : PySem.W.Frag) : Bool := AX.sclsB K "Maker" && (AX.slotB K "Maker" "rows" 1 && AX.slotB K "Maker" "places" 0)
def exX (K : PySem.W.Frag) : Bool := L2.xfB K (He.ga K "TooLarge") && L2.xfB K (He.ga K "BadSight")
def exB (K : PySem.W.Frag) : Bool := exA K && (exM K && exX K)
/-- what the head tells: the facts, the defs -/
structure Hd (K : PySem.W.Frag) (mg : Str → Option Value) : Prop where
  st : ∃ h : Heap, K.In h ∧ h.Ns mainGlobals mg
  z : AX.SaysZ fl fa fn xs exB K
theorem Hd.d {K : PySem.W.Frag} {mg : Str → Option Value} (c : Hd K mg) : He.SaysD fa fn K := c.z.d
theorem Hd.ex {K : PySem.W.Frag} {mg : Str → Option Value} (c : Hd K mg) : exA K = true := (He.ba c.z.more).1
theorem Hd.exm {K : PySem.W.Frag} {mg : Str → Option Value} (c : Hd K mg) : exM K = true := (He.ba (He.ba c.z.more).2).1
theorem Hd.exx {K : PySem.W.Frag} {mg : Str → Option Value} (c : Hd K mg) : exX K = true := (He.ba (He.ba c.z.more).2).2
theorem Hd.sc_Maker {K : PySem.W.Frag} {mg : Str → Option Value} (c : Hd K mg) : SlX.SCls K (He.ga K "Maker") := AX.sclsB_ok (He.ba c.exm).1
theorem Hd.sl_rows {K : PySem.W.Frag} {mg : Str → Option Value} (c : Hd K mg) : ∃ p, SlX.Slot1 K (He.ga K "Maker") "rows" p 1 := AX.slotB_ok (He.ba (He.ba c.exm).2).1
theorem Hd.sl_places {K : PySem.W.Frag} {mg : Str → Option Value} (c : Hd K mg) : ∃ p, SlX.Slot1 K (He.ga K "Maker") "places" p 0 := AX.slotB_ok (He.ba (He.ba c.exm).2).2
theorem Hd.opq {K : PySem.W.Frag} {mg : Str → Option Value} (c : Hd K mg) : PySem.W.nsIn K cStatics "thirdparty.any" = some none := He.eqO_ok (Bool.and_eq_true_iff.mp c.ex).2
section
variable {K : PySem.W.Frag} {mg : Str → Option Value}
theorem Hd.g_is_integer (c : Hd K mg) : mg "is_integer" = some (.ref (He.ga K "is_integer")) := by obtain ⟨h, X, G⟩ := c.st; exact He.glo_ok X G (c.d.fact 0 (f := .glo "is_integer") rfl)
theorem Hd.g_is_register (c : Hd K mg) : mg "is_register" = some (.ref (He.ga K "is_register")) := by obtain ⟨h, X, G⟩ := c.st; exact He.glo_ok X G (c.d.fact 1 (f := .glo "is_register") rfl)
theorem Hd.g_is_name (c : Hd K mg) : mg "is_name" = some (.ref (He.ga K "is_name")) := by obtain ⟨h, X, G⟩ := c.st; exact He.glo_ok X G (c.d.fact 2 (f := .glo "is_name") rfl)
theorem Hd.g_is_numeral (c : Hd K mg) : mg "is_numeral" = some (.ref (He.ga K "is_numeral")) := by obtain ⟨h, X, G⟩ := c.st; exact He.glo_ok X G (c.d.fact 3 (f := .glo "is_numeral") rfl)
theorem Hd.g_is_operation (c : Hd K mg) : mg "is_operation" = some (.ref (He.ga K "is_operation")) := by obtain ⟨h, X, G⟩ := c.st; exact He.glo_ok X G (c.d.fact 4 (f := .glo "is_operation") rfl)
theorem Hd.g_is_way (c : Hd K mg) : mg "is_way" = some (.ref (He.ga K "is_way")) := by obtain ⟨h, X, G⟩ := c.st; exact He.glo_ok X G (c.d.fact 5 (f := .glo "is_way") rfl)
theorem Hd.g_is_lot (c : Hd K mg) : mg "is_lot" = some (.ref (He.ga K "is_lot")) := by obtain ⟨h, X, G⟩ := c.st; exact He.glo_ok X G (c.d.fact 6 (f := .glo "is_lot") rfl)
theorem Hd.g_is_told_row (c : Hd K mg) : mg "is_told_row" = some (.ref (He.ga K "is_told_row")) := by obtain ⟨h, X, G⟩ := c.st; exact He.glo_ok X G (c.d.fact 7 (f := .glo "is_told_row") rfl)
theorem Hd.g_is_meaning (c : Hd K mg) : mg "is_meaning" = some (.ref (He.ga K "is_meaning")) := by obtain ⟨h, X, G⟩ := c.st; exact He.glo_ok X G (c.d.fact 8 (f := .glo "is_meaning") rfl)
theorem Hd.g_is_world_form (c : Hd K mg) : mg "is_world_form" = some (.ref (He.ga K "is_world_form")) := by obtain ⟨h, X, G⟩ := c.st; exact He.glo_ok X G (c.d.fact 9 (f := .glo "is_world_form") rfl)
theorem Hd.g_goals_of (c : Hd K mg) : mg "goals_of" = some (.ref (He.ga K "goals_of")) := by obtain ⟨h, X, G⟩ := c.st; exact He.glo_ok X G (c.d.fact 10 (f := .glo "goals_of") rfl)
theorem Hd.g_made_worth (c : Hd K mg) : mg "made_worth" = some (.ref (He.ga K "made_worth")) := by obtain ⟨h, X, G⟩ := c.st; exact He.glo_ok X G (c.d.fact 11 (f := .glo "made_worth") rfl)
theorem Hd.g_is_place (c : Hd K mg) : mg "is_place" = some (.ref (He.ga K "is_place")) := by obtain ⟨h, X, G⟩ := c.st; exact He.glo_ok X G (c.d.fact 12 (f := .glo "is_place") rfl)
theorem Hd.g_are_places (c : Hd K mg) : mg "are_places" = some (.ref (He.ga K "are_places")) := by obtain ⟨h, X, G⟩ := c.st; exact He.glo_ok X G (c.d.fact 13 (f := .glo "are_places") rfl)
theorem Hd.g_is_sight (c : Hd K mg) : mg "is_sight" = some (.ref (He.ga K "is_sight")) := by obtain ⟨h, X, G⟩ := c.st; exact He.glo_ok X G (c.d.fact 14 (f := .glo "is_sight") rfl)
theorem Hd.g_place_fault (c : Hd K mg) : mg "place_fault" = some (.ref (He.ga K "place_fault")) := by obtain ⟨h, X, G⟩ := c.st; exact He.glo_ok X G (c.d.fact 15 (f := .glo "place_fault") rfl)
theorem Hd.g_checked_sight (c : Hd K mg) : mg "checked_sight" = some (.ref (He.ga K "checked_sight")) := by obtain ⟨h, X, G⟩ := c.st; exact He.glo_ok X G (c.d.fact 16 (f := .glo "checked_sight") rfl)
theorem Hd.g_place_worth (c : Hd K mg) : mg "place_worth" = some (.ref (He.ga K "place_worth")) := by obtain ⟨h, X, G⟩ := c.st; exact He.glo_ok X G (c.d.fact 17 (f := .glo "place_worth") rfl)
theorem Hd.g_told_worths (c : Hd K mg) : mg "told_worths" = some (.ref (He.ga K "told_worths")) := by obtain ⟨h, X, G⟩ := c.st; exact He.glo_ok X G (c.d.fact 18 (f := .glo "told_worths") rfl)
theorem Hd.g_seen_worths (c : Hd K mg) : mg "seen_worths" = some (.ref (He.ga K "seen_worths")) := by obtain ⟨h, X, G⟩ := c.st; exact He.glo_ok X G (c.d.fact 19 (f := .glo "seen_worths") rfl)
theorem Hd.g_is_too_great (c : Hd K mg) : mg "is_too_great" = some (.ref (He.ga K "is_too_great")) := by obtain ⟨h, X, G⟩ := c.st; exact He.glo_ok X G (c.d.fact 20 (f := .glo "is_too_great") rfl)
theorem Hd.g_is_real (c : Hd K mg) : mg "is_real" = some (.ref (He.ga K "is_real")) := by obtain ⟨h, X, G⟩ := c.st; exact He.glo_ok X G (c.d.fact 21 (f := .glo "is_real") rfl)
theorem Hd.g_real_worth (c : Hd K mg) : mg "real_worth" = some (.ref (He.ga K "real_worth")) := by obtain ⟨h, X, G⟩ := c.st; exact He.glo_ok X G (c.d.fact 22 (f := .glo "real_worth") rfl)
theorem Hd.g_mixed_worth (c : Hd K mg) : mg "mixed_worth" = some (.ref (He.ga K "mixed_worth")) := by obtain ⟨h, X, G⟩ := c.st; exact He.glo_ok X G (c.d.fact 23 (f := .glo "mixed_worth") rfl)
theorem Hd.g_is_small (c : Hd K mg) : mg "is_small" = some (.ref (He.ga K "is_small")) := by obtain ⟨h, X, G⟩ := c.st; exact He.glo_ok X G (c.d.fact 24 (f := .glo "is_small") rfl)
theorem Hd.g_is_shape (c : Hd K mg) : mg "is_shape" = some (.ref (He.ga K "is_shape")) := by obtain ⟨h, X, G⟩ := c.st; exact He.glo_ok X G (c.d.fact 25 (f := .glo "is_shape") rfl)
theorem Hd.g_checked_world (c : Hd K mg) : mg "checked_world" = some (.ref (He.ga K "checked_world")) := by obtain ⟨h, X, G⟩ := c.st; exact He.glo_ok X G (c.d.fact 26 (f := .glo "checked_world") rfl)
theorem Hd.g_thing_worth (c : Hd K mg) : mg "thing_worth" = some (.ref (He.ga K "thing_worth")) := by obtain ⟨h, X, G⟩ := c.st; exact He.glo_ok X G (c.d.fact 27 (f := .glo "thing_worth") rfl)
theorem Hd.g_behind (c : Hd K mg) : mg "behind" = some (.ref (He.ga K "behind")) := by obtain ⟨h, X, G⟩ := c.st; exact He.glo_ok X G (c.d.fact 28 (f := .glo "behind") rfl)
theorem Hd.g_checked_many (c : Hd K mg) : mg "checked_many" = some (.ref (He.ga K "checked_many")) := by obtain ⟨h, X, G⟩ := c.st; exact He.glo_ok X G (c.d.fact 29 (f := .glo "checked_many") rfl)
theorem Hd.g_shown_by (c : Hd K mg) : mg "shown_by" = some (.ref (He.ga K "shown_by")) := by obtain ⟨h, X, G⟩ := c.st; exact He.glo_ok X G (c.d.fact 30 (f := .glo "shown_by") rfl)
theorem Hd.g_is_pair (c : Hd K mg) : mg "is_pair" = some (.ref (He.ga K "is_pair")) := by obtain ⟨h, X, G⟩ := c.st; exact He.glo_ok X G (c.d.fact 31 (f := .glo "is_pair") rfl)
theorem Hd.g_set_by (c : Hd K mg) : mg "set_by" = some (.ref (He.ga K "set_by")) := by obtain ⟨h, X, G⟩ := c.st; exact He.glo_ok X G (c.d.fact 32 (f := .glo "set_by") rfl)
theorem Hd.g_used_by (c : Hd K mg) : mg "used_by" = some (.ref (He.ga K "used_by")) := by obtain ⟨h, X, G⟩ := c.st; exact He.glo_ok X G (c.d.fact 33 (f := .glo "used_by") rfl)
theorem Hd.g_boxes_in (c : Hd K mg) : mg "boxes_in" = some (.ref (He.ga K "boxes_in")) := by obtain ⟨h, X, G⟩ := c.st; exact He.glo_ok X G (c.d.fact 34 (f := .glo "boxes_in") rfl)
theorem Hd.g_own_lines (c : Hd K mg) : mg "own_lines" = some (.ref (He.ga K "own_lines")) := by obtain ⟨h, X, G⟩ := c.st; exact He.glo_ok X G (c.d.fact 35 (f := .glo "own_lines") rfl)
theorem Hd.g_own_places (c : Hd K mg) : mg "own_places" = some (.ref (He.ga K "own_places")) := by obtain ⟨h, X, G⟩ := c.st; exact He.glo_ok X G (c.d.fact 36 (f := .glo "own_places") rfl)
theorem Hd.g_many_places (c : Hd K mg) : mg "many_places" = some (.ref (He.ga K "many_places")) := by obtain ⟨h, X, G⟩ := c.st; exact He.glo_ok X G (c.d.fact 37 (f := .glo "many_places") rfl)
theorem Hd.g_plain_code (c : Hd K mg) : mg "plain_code" = some (.ref (He.ga K "plain_code")) := by obtain ⟨h, X, G⟩ := c.st; exact He.glo_ok X G (c.d.fact 38 (f := .glo "plain_code") rfl)
theorem Hd.g_own_build (c : Hd K mg) : mg "own_build" = some (.ref (He.ga K "own_build")) := by obtain ⟨h, X, G⟩ := c.st; exact He.glo_ok X G (c.d.fact 39 (f := .glo "own_build") rfl)
theorem Hd.g__law_bag (c : Hd K mg) : mg "_law_bag" = some (.ref (He.ga K "_law_bag")) := by obtain ⟨h, X, G⟩ := c.st; exact He.glo_ok X G (c.d.fact 40 (f := .glo "_law_bag") rfl)
theorem Hd.g__law_take (c : Hd K mg) : mg "_law_take" = some (.ref (He.ga K "_law_take")) := by obtain ⟨h, X, G⟩ := c.st; exact He.glo_ok X G (c.d.fact 41 (f := .glo "_law_take") rfl)
theorem Hd.g__law_some (c : Hd K mg) : mg "_law_some" = some (.ref (He.ga K "_law_some")) := by obtain ⟨h, X, G⟩ := c.st; exact He.glo_ok X G (c.d.fact 42 (f := .glo "_law_some") rfl)
theorem Hd.g__law_mixed (c : Hd K mg) : mg "_law_mixed" = some (.ref (He.ga K "_law_mixed")) := by obtain ⟨h, X, G⟩ := c.st; exact He.glo_ok X G (c.d.fact 43 (f := .glo "_law_mixed") rfl)
theorem Hd.g__law_alike (c : Hd K mg) : mg "_law_alike" = some (.ref (He.ga K "_law_alike")) := by obtain ⟨h, X, G⟩ := c.st; exact He.glo_ok X G (c.d.fact 44 (f := .glo "_law_alike") rfl)
theorem Hd.g__law_is_numeral (c : Hd K mg) : mg "_law_is_numeral" = some (.ref (He.ga K "_law_is_numeral")) := by obtain ⟨h, X, G⟩ := c.st; exact He.glo_ok X G (c.d.fact 45 (f := .glo "_law_is_numeral") rfl)
theorem Hd.g__law_formula (c : Hd K mg) : mg "_law_formula" = some (.ref (He.ga K "_law_formula")) := by obtain ⟨h, X, G⟩ := c.st; exact He.glo_ok X G (c.d.fact 46 (f := .glo "_law_formula") rfl)
theorem Hd.g__law_apply (c : Hd K mg) : mg "_law_apply" = some (.ref (He.ga K "_law_apply")) := by obtain ⟨h, X, G⟩ := c.st; exact He.glo_ok X G (c.d.fact 47 (f := .glo "_law_apply") rfl)
theorem Hd.g__law_asked (c : Hd K mg) : mg "_law_asked" = some (.ref (He.ga K "_law_asked")) := by obtain ⟨h, X, G⟩ := c.st; exact He.glo_ok X G (c.d.fact 48 (f := .glo "_law_asked") rfl)
theorem Hd.g_law (c : Hd K mg) : mg "law" = some (.ref (He.ga K "law")) := by obtain ⟨h, X, G⟩ := c.st; exact He.glo_ok X G (c.d.fact 49 (f := .glo "law") rfl)
theorem Hd.g_RESERVED (c : Hd K mg) : mg "RESERVED" = some (.ref (He.ga K "RESERVED")) := by obtain ⟨h, X, G⟩ := c.st; exact He.glo_ok X G (c.d.fact 50 (f := .glo "RESERVED") rfl)
theorem Hd.g_LONG (c : Hd K mg) : mg "LONG" = some (.ref (He.ga K "LONG")) := by obtain ⟨h, X, G⟩ := c.st; exact He.glo_ok X G (c.d.fact 51 (f := .glo "LONG") rfl)
theorem Hd.g_RunError (c : Hd K mg) : mg "RunError" = some (.ref (He.ga K "RunError")) := by obtain ⟨h, X, G⟩ := c.st; exact He.glo_ok X G (c.d.fact 52 (f := .glo "RunError") rfl)
theorem Hd.g_BadWorld (c : Hd K mg) : mg "BadWorld" = some (.ref (He.ga K "BadWorld")) := by obtain ⟨h, X, G⟩ := c.st; exact He.glo_ok X G (c.d.fact 53 (f := .glo "BadWorld") rfl)
theorem Hd.g_BadSight (c : Hd K mg) : mg "BadSight" = some (.ref (He.ga K "BadSight")) := by obtain ⟨h, X, G⟩ := c.st; exact He.glo_ok X G (c.d.fact 54 (f := .glo "BadSight") rfl)
theorem Hd.g_TooLarge (c : Hd K mg) : mg "TooLarge" = some (.ref (He.ga K "TooLarge")) := by obtain ⟨h, X, G⟩ := c.st; exact He.glo_ok X G (c.d.fact 55 (f := .glo "TooLarge") rfl)
theorem Hd.g_Machine (c : Hd K mg) : mg "Machine" = some (.ref (He.ga K "Machine")) := by obtain ⟨h, X, G⟩ := c.st; exact He.glo_ok X G (c.d.fact 56 (f := .glo "Machine") rfl)
theorem Hd.g_World (c : Hd K mg) : mg "World" = some (.ref (He.ga K "World")) := by obtain ⟨h, X, G⟩ := c.st; exact He.glo_ok X G (c.d.fact 57 (f := .glo "World") rfl)
theorem Hd.g_Maker (c : Hd K mg) : mg "Maker" = some (.ref (He.ga K "Maker")) := by obtain ⟨h, X, G⟩ := c.st; exact He.glo_ok X G (c.d.fact 58 (f := .glo "Maker") rfl)
theorem Hd.b_len (c : Hd K mg) : mg "len" = none := by obtain ⟨h, X, G⟩ := c.st; exact He.free_ok X G (c.d.fact 59 (f := .free "len") rfl)
theorem Hd.b_isinstance (c : Hd K mg) : mg "isinstance" = none := by obtain ⟨h, X, G⟩ := c.st; exact He.free_ok X G (c.d.fact 60 (f := .free "isinstance") rfl)
theorem Hd.b_all (c : Hd K mg) : mg "all" = none := by obtain ⟨h, X, G⟩ := c.st; exact He.free_ok X G (c.d.fact 61 (f := .free "all") rfl)
theorem Hd.b_any (c : Hd K mg) : mg "any" = none := by obtain ⟨h, X, G⟩ := c.st; exact He.free_ok X G (c.d.fact 62 (f := .free "any") rfl)
theorem Hd.b_abs (c : Hd K mg) : mg "abs" = none := by obtain ⟨h, X, G⟩ := c.st; exact He.free_ok X G (c.d.fact 63 (f := .free "abs") rfl)
theorem Hd.b_int (c : Hd K mg) : mg "int" = none := by obtain ⟨h, X, G⟩ := c.st; exact He.free_ok X G (c.d.fact 64 (f := .free "int") rfl)
theorem Hd.b_str (c : Hd K mg) : mg "str" = none := by obtain ⟨h, X, G⟩ := c.st; exact He.free_ok X G (c.d.fact 65 (f := .free "str") rfl)
theorem Hd.b_bool (c : Hd K mg) : mg "bool" = none := by obtain ⟨h, X, G⟩ := c.st; exact He.free_ok X G (c.d.fact 66 (f := .free "bool") rfl)
theorem Hd.b_tuple (c : Hd K mg) : mg "tuple" = none := by obtain ⟨h, X, G⟩ := c.st; exact He.free_ok X G (c.d.fact 67 (f := .free "tuple") rfl)
theorem Hd.b_list (c : Hd K mg) : mg "list" = none := by obtain ⟨h, X, G⟩ := c.st; exact He.free_ok X G (c.d.fact 68 (f := .free "list") rfl)
theorem Hd.b_dict (c : Hd K mg) : mg "dict" = none := by obtain ⟨h, X, G⟩ := c.st; exact He.free_ok X G (c.d.fact 69 (f := .free "dict") rfl)
theorem Hd.b_set (c : Hd K mg) : mg "set" = none := by obtain ⟨h, X, G⟩ := c.st; exact He.free_ok X G (c.d.fact 70 (f := .free "set") rfl)
theorem Hd.b_sorted (c : Hd K mg) : mg "sorted" = none := by obtain ⟨h, X, G⟩ := c.st; exact He.free_ok X G (c.d.fact 71 (f := .free "sorted") rfl)
theorem Hd.b_range (c : Hd K mg) : mg "range" = none := by obtain ⟨h, X, G⟩ := c.st; exact He.free_ok X G (c.d.fact 72 (f := .free "range") rfl)
theorem Hd.b_zip (c : Hd K mg) : mg "zip" = none := by obtain ⟨h, X, G⟩ := c.st; exact He.free_ok X G (c.d.fact 73 (f := .free "zip") rfl)
theorem Hd.b_sum (c : Hd K mg) : mg "sum" = none := by obtain ⟨h, X, G⟩ := c.st; exact He.free_ok X G (c.d.fact 74 (f := .free "sum") rfl)
theorem Hd.b_enumerate (c : Hd K mg) : mg "enumerate" = none := by obtain ⟨h, X, G⟩ := c.st; exact He.free_ok X G (c.d.fact 75 (f := .free "enumerate") rfl)
theorem Hd.b_repr (c : Hd K mg) : mg "repr" = none := by obtain ⟨h, X, G⟩ := c.st; exact He.free_ok X G (c.d.fact 76 (f := .free "repr") rfl)
theorem Hd.b_ValueError (c : Hd K mg) : mg "ValueError" = none := by obtain ⟨h, X, G⟩ := c.st; exact He.free_ok X G (c.d.fact 77 (f := .free "ValueError") rfl)
theorem Hd.b_super (c : Hd K mg) : mg "super" = none := by obtain ⟨h, X, G⟩ := c.st; exact He.free_ok X G (c.d.fact 78 (f := .free "super") rfl)
theorem Hd.v_MOST_PARTS_forms (c : Hd K mg) : ∃ u, mg "MOST_PARTS_forms" = some u ∧ RelV (.int 3) u := by obtain ⟨h, X, G⟩ := c.st; obtain ⟨t, e⟩ := He.int_ok X G (c.d.fact 79 (f := .int "MOST_PARTS_forms" 3) rfl); exact ⟨_, e, t, rfl⟩
theorem Hd.v_MOST_FIGURES (c : Hd K mg) : ∃ u, mg "MOST_FIGURES" = some u ∧ RelV (.int 1000) u := by obtain ⟨h, X, G⟩ := c.st; obtain ⟨t, e⟩ := He.int_ok X G (c.d.fact 80 (f := .int "MOST_FIGURES" 1000) rfl); exact ⟨_, e, t, rfl⟩
theorem Hd.v_MODULUS (c : Hd K mg) : ∃ u, mg "MODULUS" = some u ∧ RelV (.int 1000003) u := by obtain ⟨h, X, G⟩ := c.st; obtain ⟨t, e⟩ := He.int_ok X G (c.d.fact 81 (f := .int "MODULUS" 1000003) rfl); exact ⟨_, e, t, rfl⟩
theorem Hd.v_HALF (c : Hd K mg) : ∃ u, mg "HALF" = some u ∧ RelV (.int 500000) u := by obtain ⟨h, X, G⟩ := c.st; obtain ⟨t, e⟩ := He.int_ok X G (c.d.fact 82 (f := .int "HALF" 500000) rfl); exact ⟨_, e, t, rfl⟩
theorem Hd.v_FIGURES (c : Hd K mg) : ∃ u, mg "FIGURES" = some u ∧ RelV (.int 1000) u := by obtain ⟨h, X, G⟩ := c.st; obtain ⟨t, e⟩ := He.int_ok X G (c.d.fact 83 (f := .int "FIGURES" 1000) rfl); exact ⟨_, e, t, rfl⟩
theorem Hd.v_MOST_PARTS_worlds (c : Hd K mg) : ∃ u, mg "MOST_PARTS_worlds" = some u ∧ RelV (.int 3) u := by obtain ⟨h, X, G⟩ := c.st; obtain ⟨t, e⟩ := He.int_ok X G (c.d.fact 84 (f := .int "MOST_PARTS_worlds" 3) rfl); exact ⟨_, e, t, rfl⟩
theorem Hd.v_MOST (c : Hd K mg) : ∃ u, mg "MOST" = some u ∧ RelV (.int 20000) u := by obtain ⟨h, X, G⟩ := c.st; obtain ⟨t, e⟩ := He.int_ok X G (c.d.fact 85 (f := .int "MOST" 20000) rfl); exact ⟨_, e, t, rfl⟩
theorem Hd.v_MOST_ROWS (c : Hd K mg) : ∃ u, mg "MOST_ROWS" = some u ∧ RelV (.int 160) u := by obtain ⟨h, X, G⟩ := c.st; obtain ⟨t, e⟩ := He.int_ok X G (c.d.fact 86 (f := .int "MOST_ROWS" 160) rfl); exact ⟨_, e, t, rfl⟩
theorem Hd.v_MOST_BOXES (c : Hd K mg) : ∃ u, mg "MOST_BOXES" = some u ∧ RelV (.int 24) u := by obtain ⟨h, X, G⟩ := c.st; obtain ⟨t, e⟩ := He.int_ok X G (c.d.fact 87 (f := .int "MOST_BOXES" 24) rfl); exact ⟨_, e, t, rfl⟩
theorem Hd.v_FIFTY (c : Hd K mg) : ∃ u, mg "FIFTY" = some u ∧ RelV (.int (10 ^ 50)) u := by obtain ⟨h, X, G⟩ := c.st; obtain ⟨t, e⟩ := He.int_ok X G (c.d.fact 88 (f := .int "FIFTY" (10 ^ 50)) rfl); exact ⟨_, e, t, rfl⟩
theorem Hd.v_LETTERS (c : Hd K mg) : ∃ u, mg "LETTERS" = some u ∧ RelV (.str "abcdefghijklmnopqrstuvwxyz") u := by obtain ⟨h, X, G⟩ := c.st; obtain ⟨t, e⟩ := He.str_ok X G (c.d.fact 89 (f := .str "LETTERS" "abcdefghijklmnopqrstuvwxyz") rfl); exact ⟨_, e, t, rfl⟩
theorem Hd.v_DIGITS (c : Hd K mg) : ∃ u, mg "DIGITS" = some u ∧ RelV (.str "0123456789") u := by obtain ⟨h, X, G⟩ := c.st; obtain ⟨t, e⟩ := He.str_ok X G (c.d.fact 90 (f := .str "DIGITS" "0123456789") rfl); exact ⟨_, e, t, rfl⟩
theorem Hd.v_SIGNS (c : Hd K mg) : ∃ u, mg "SIGNS" = some u ∧ RelV (.str "0123456789abcdefghijklmnopqrstuvwxyz") u := by obtain ⟨h, X, G⟩ := c.st; obtain ⟨t, e⟩ := He.str_ok X G (c.d.fact 91 (f := .str "SIGNS" "0123456789abcdefghijklmnopqrstuvwxyz") rfl); exact ⟨_, e, t, rfl⟩
theorem Hd.c_Machine (c : Hd K mg) : Cls K (He.ga K "Machine") := He.cls_ok (c.d.fact 92 (f := .cls "Machine") rfl)
theorem Hd.mk_Machine (c : Hd K mg) : Mk K (He.ga K "Machine") (He.ma K (He.ga K "Machine") "__init__") := He.mkr_ok (c.d.fact 93 (f := .mkr "Machine") rfl)
theorem Hd.na_Machine_its_code (c : Hd K mg) : NoAttr K (He.ga K "Machine") "its_code" := He.noat_ok (c.d.fact 94 (f := .noat "Machine" "its_code") rfl)
theorem Hd.na_Machine_its_world (c : Hd K mg) : NoAttr K (He.ga K "Machine") "its_world" := He.noat_ok (c.d.fact 95 (f := .noat "Machine" "its_world") rfl)
theorem Hd.na_Machine_its_rows (c : Hd K mg) : NoAttr K (He.ga K "Machine") "its_rows" := He.noat_ok (c.d.fact 96 (f := .noat "Machine" "its_rows") rfl)
theorem Hd.na_Machine_its_fault (c : Hd K mg) : NoAttr K (He.ga K "Machine") "its_fault" := He.noat_ok (c.d.fact 97 (f := .noat "Machine" "its_fault") rfl)
theorem Hd.na_Machine_its_frames (c : Hd K mg) : NoAttr K (He.ga K "Machine") "its_frames" := He.noat_ok (c.d.fact 98 (f := .noat "Machine" "its_frames") rfl)
theorem Hd.na_Machine_its_registers (c : Hd K mg) : NoAttr K (He.ga K "Machine") "its_registers" := He.noat_ok (c.d.fact 99 (f := .noat "Machine" "its_registers") rfl)
theorem Hd.na_Machine_its_cells (c : Hd K mg) : NoAttr K (He.ga K "Machine") "its_cells" := He.noat_ok (c.d.fact 100 (f := .noat "Machine" "its_cells") rfl)
theorem Hd.na_Machine_its_events (c : Hd K mg) : NoAttr K (He.ga K "Machine") "its_events" := He.noat_ok (c.d.fact 101 (f := .noat "Machine" "its_events") rfl)
theorem Hd.na_Machine_its_answers (c : Hd K mg) : NoAttr K (He.ga K "Machine") "its_answers" := He.noat_ok (c.d.fact 102 (f := .noat "Machine" "its_answers") rfl)
theorem Hd.na_Machine_its_reads (c : Hd K mg) : NoAttr K (He.ga K "Machine") "its_reads" := He.noat_ok (c.d.fact 103 (f := .noat "Machine" "its_reads") rfl)
theorem Hd.na_Machine_its_done (c : Hd K mg) : NoAttr K (He.ga K "Machine") "its_done" := He.noat_ok (c.d.fact 104 (f := .noat "Machine" "its_done") rfl)
theorem Hd.na_Machine_its_ticks (c : Hd K mg) : NoAttr K (He.ga K "Machine") "its_ticks" := He.noat_ok (c.d.fact 105 (f := .noat "Machine" "its_ticks") rfl)
theorem Hd.c_World (c : Hd K mg) : Cls K (He.ga K "World") := He.cls_ok (c.d.fact 106 (f := .cls "World") rfl)
theorem Hd.mk_World (c : Hd K mg) : Mk K (He.ga K "World") (He.ma K (He.ga K "World") "__init__") := He.mkr_ok (c.d.fact 107 (f := .mkr "World") rfl)
theorem Hd.na_World_meaning (c : Hd K mg) : NoAttr K (He.ga K "World") "meaning" := He.noat_ok (c.d.fact 108 (f := .noat "World" "meaning") rfl)
theorem Hd.na_World_reads (c : Hd K mg) : NoAttr K (He.ga K "World") "reads" := He.noat_ok (c.d.fact 109 (f := .noat "World" "reads") rfl)
theorem Hd.na_World_answers (c : Hd K mg) : NoAttr K (He.ga K "World") "answers" := He.noat_ok (c.d.fact 110 (f := .noat "World" "answers") rfl)
theorem Hd.na_World_table (c : Hd K mg) : NoAttr K (He.ga K "World") "table" := He.noat_ok (c.d.fact 111 (f := .noat "World" "table") rfl)
theorem Hd.mk_Maker (c : Hd K mg) : Mk K (He.ga K "Maker") (He.ma K (He.ga K "Maker") "__init__") := He.mkr_ok (c.d.fact 112 (f := .mkr "Maker") rfl)
theorem Hd.x_TooLarge_TooLarge (c : Hd K mg) : PySem.W.exmOne K (.ref (He.ga K "TooLarge")) (.ref (He.ga K "TooLarge")) = some true := of_decide_eq_true (c.d.fact 113 (f := .exm "TooLarge" "TooLarge" true) rfl)
theorem Hd.x_BadSight_TooLarge (c : Hd K mg) : PySem.W.exmOne K (.ref (He.ga K "BadSight")) (.ref (He.ga K "TooLarge")) = some false := of_decide_eq_true (c.d.fact 114 (f := .exm "BadSight" "TooLarge" false) rfl)
theorem Hd.x_BadSight_BadSight (c : Hd K mg) : PySem.W.exmOne K (.ref (He.ga K "BadSight")) (.ref (He.ga K "BadSight")) = some true := of_decide_eq_true (c.d.fact 115 (f := .exm "BadSight" "BadSight" true) rfl)
theorem Hd.x_BadWorld_BadWorld (c : Hd K mg) : PySem.W.exmOne K (.ref (He.ga K "BadWorld")) (.ref (He.ga K "BadWorld")) = some true := of_decide_eq_true (c.d.fact 116 (f := .exm "BadWorld" "BadWorld" true) rfl)
theorem Hd.m_Machine_its_step (c : Hd K mg) : Meth K (He.ga K "Machine") "its_step" (He.ma K (He.ga K "Machine") "its_step") := He.meth_ok (c.d.fact 117 (f := .meth "Machine" "its_step") rfl)
theorem Hd.m_Machine_state (c : Hd K mg) : Meth K (He.ga K "Machine") "state" (He.ma K (He.ga K "Machine") "state") := He.meth_ok (c.d.fact 118 (f := .meth "Machine" "state") rfl)
theorem Hd.m_Machine_worth_of (c : Hd K mg) : Meth K (He.ga K "Machine") "worth_of" (He.ma K (He.ga K "Machine") "worth_of") := He.meth_ok (c.d.fact 119 (f := .meth "Machine" "worth_of") rfl)
theorem Hd.m_Machine_worths_of (c : Hd K mg) : Meth K (He.ga K "Machine") "worths_of" (He.ma K (He.ga K "Machine") "worths_of") := He.meth_ok (c.d.fact 120 (f := .meth "Machine" "worths_of") rfl)
theorem Hd.m_Machine_put_into (c : Hd K mg) : Meth K (He.ga K "Machine") "put_into" (He.ma K (He.ga K "Machine") "put_into") := He.meth_ok (c.d.fact 121 (f := .meth "Machine" "put_into") rfl)
theorem Hd.m_Machine_step (c : Hd K mg) : Meth K (He.ga K "Machine") "step" (He.ma K (He.ga K "Machine") "step") := He.meth_ok (c.d.fact 122 (f := .meth "Machine" "step") rfl)
theorem Hd.m_Machine_do_plain (c : Hd K mg) : Meth K (He.ga K "Machine") "do_plain" (He.ma K (He.ga K "Machine") "do_plain") := He.meth_ok (c.d.fact 123 (f := .meth "Machine" "do_plain") rfl)
theorem Hd.m_Machine_do_question (c : Hd K mg) : Meth K (He.ga K "Machine") "do_question" (He.ma K (He.ga K "Machine") "do_question") := He.meth_ok (c.d.fact 124 (f := .meth "Machine" "do_question") rfl)
theorem Hd.m_Machine_do_give (c : Hd K mg) : Meth K (He.ga K "Machine") "do_give" (He.ma K (He.ga K "Machine") "do_give") := He.meth_ok (c.d.fact 125 (f := .meth "Machine" "do_give") rfl)
theorem Hd.m_Machine_moment (c : Hd K mg) : Meth K (He.ga K "Machine") "moment" (He.ma K (He.ga K "Machine") "moment") := He.meth_ok (c.d.fact 126 (f := .meth "Machine" "moment") rfl)
theorem Hd.m_Machine_events (c : Hd K mg) : Meth K (He.ga K "Machine") "events" (He.ma K (He.ga K "Machine") "events") := He.meth_ok (c.d.fact 127 (f := .meth "Machine" "events") rfl)
theorem Hd.m_World_looked_up (c : Hd K mg) : Meth K (He.ga K "World") "looked_up" (He.ma K (He.ga K "World") "looked_up") := He.meth_ok (c.d.fact 128 (f := .meth "World" "looked_up") rfl)
theorem Hd.m_World_apply (c : Hd K mg) : Meth K (He.ga K "World") "apply" (He.ma K (He.ga K "World") "apply") := He.meth_ok (c.d.fact 129 (f := .meth "World" "apply") rfl)
theorem Hd.m_World_read (c : Hd K mg) : Meth K (He.ga K "World") "read" (He.ma K (He.ga K "World") "read") := He.meth_ok (c.d.fact 130 (f := .meth "World" "read") rfl)
theorem Hd.m_World_answer (c : Hd K mg) : Meth K (He.ga K "World") "answer" (He.ma K (He.ga K "World") "answer") := He.meth_ok (c.d.fact 131 (f := .meth "World" "answer") rfl)
theorem Hd.m_Maker_put (c : Hd K mg) : Meth K (He.ga K "Maker") "put" (He.ma K (He.ga K "Maker") "put") := He.meth_ok (c.d.fact 132 (f := .meth "Maker" "put") rfl)
theorem Hd.m_Maker_body (c : Hd K mg) : Meth K (He.ga K "Maker") "body" (He.ma K (He.ga K "Maker") "body") := He.meth_ok (c.d.fact 133 (f := .meth "Maker" "body") rfl)
theorem Hd.m_Maker_statement (c : Hd K mg) : Meth K (He.ga K "Maker") "statement" (He.ma K (He.ga K "Maker") "statement") := He.meth_ok (c.d.fact 134 (f := .meth "Maker" "statement") rfl)
theorem Hd.v_RESERVED (c : Hd K mg) : ∃ u, mg "RESERVED" = some u ∧ RelV (.ref (He.ga K "RESERVED")) u := ⟨_, c.g_RESERVED, rfl⟩
theorem Hd.q_RESERVED (c : Hd K mg) (H : Hp) : SqT K H (He.ga K "RESERVED") [.str "ask", .str "call", .str "cell", .str "cells", .str "code", .str "def", .str "else", .str "give", .str "if", .str "jump", .str "last", .str "must", .str "read", .str "tell", .str "while"] := He.tupB_ok (Bool.and_eq_true_iff.mp (Bool.and_eq_true_iff.mp c.ex).1).1 H
theorem Hd.v_LONG (c : Hd K mg) : ∃ u, mg "LONG" = some u ∧ RelV (.ref (He.ga K "LONG")) u := ⟨_, c.g_LONG, rfl⟩
theorem Hd.q_LONG (c : Hd K mg) (H : Hp) : SqT K H (He.ga K "LONG") [.str "call", .str "last", .str "give"] := He.tupB_ok (Bool.and_eq_true_iff.mp (Bool.and_eq_true_iff.mp c.ex).1).2 H
/-! ### the function objects -/
theorem Hd.f_is_integer (c : Hd K mg) : ∃ fd, FunD K "is_integer" "is_integer" (defArgs s_is_integer) (defBody s_is_integer) (defScope s_is_integer) [] [] (He.ga K "is_integer") fd := c.d.def_ 0 (d := d_is_integer) rfl
theorem Hd.f_is_register (c : Hd K mg) : ∃ fd, FunD K "is_register" "is_register" (defArgs s_is_register) (defBody s_is_register) (defScope s_is_register) [] [] (He.ga K "is_register") fd := c.d.def_ 1 (d := d_is_register) rfl
theorem Hd.f_is_name (c : Hd K mg) : ∃ fd, FunD K "is_name" "is_name" (defArgs s_is_name) (defBody s_is_name) (defScope s_is_name) [] [] (He.ga K "is_name") fd := c.d.def_ 2 (d := d_is_name) rfl
theorem Hd.f_is_numeral (c : Hd K mg) : ∃ fd, FunD K "is_numeral" "is_numeral" (defArgs s_is_numeral) (defBody s_is_numeral) (defScope s_is_numeral) [] [] (He.ga K "is_numeral") fd := c.d.def_ 3 (d := d_is_numeral) rfl
theorem Hd.f_is_operation (c : Hd K mg) : ∃ fd, FunD K "is_operation" "is_operation" (defArgs s_is_operation) (defBody s_is_operation) (defScope s_is_operation) [] [] (He.ga K "is_operation") fd := c.d.def_ 4 (d := d_is_operation) rfl
theorem Hd.f_is_way (c : Hd K mg) : ∃ fd, FunD K "is_way" "is_way" (defArgs s_is_way) (defBody s_is_way) (defScope s_is_way) [] [] (He.ga K "is_way") fd := c.d.def_ 5 (d := d_is_way) rfl
theorem Hd.f_is_lot (c : Hd K mg) : ∃ fd, FunD K "is_lot" "is_lot" (defArgs s_is_lot) (defBody s_is_lot) (defScope s_is_lot) [] [] (He.ga K "is_lot") fd := c.d.def_ 6 (d := d_is_lot) rfl
theorem Hd.f_is_told_row (c : Hd K mg) : ∃ fd, FunD K "is_told_row" "is_told_row" (defArgs s_is_told_row) (defBody s_is_told_row) (defScope s_is_told_row) [] [] (He.ga K "is_told_row") fd := c.d.def_ 7 (d := d_is_told_row) rfl
theorem Hd.f_is_meaning (c : Hd K mg) : ∃ fd, FunD K "is_meaning" "is_meaning" (defArgs s_is_meaning) (defBody s_is_meaning) (defScope s_is_meaning) [] [] (He.ga K "is_meaning") fd := c.d.def_ 8 (d := d_is_meaning) rfl
theorem Hd.f_is_world_form (c : Hd K mg) : ∃ fd, FunD K "is_world_form" "is_world_form" (defArgs s_is_world_form) (defBody s_is_world_form) (defScope s_is_world_form) [] [] (He.ga K "is_world_form") fd := c.d.def_ 9 (d := d_is_world_form) rfl
theorem Hd.f_goals_of (c : Hd K mg) : ∃ fd, FunD K "goals_of" "goals_of" (defArgs s_goals_of) (defBody s_goals_of) (defScope s_goals_of) [] [] (He.ga K "goals_of") fd := c.d.def_ 10 (d := d_goals_of) rfl
theorem Hd.f_made_worth (c : Hd K mg) : ∃ fd, FunD K "made_worth" "made_worth" (defArgs s_made_worth) (defBody s_made_worth) (defScope s_made_worth) [] [] (He.ga K "made_worth") fd := c.d.def_ 11 (d := d_made_worth) rfl
theorem Hd.f_Machine_init (c : Hd K mg) : ∃ fd, FunD K "__init__" "Machine.__init__" (defArgs s_Machine_init) (defBody s_Machine_init) (defScope s_Machine_init) [V.non] [] (He.ma K (He.ga K "Machine") "__init__") fd := c.d.def_ 12 (d := d_Machine_init) rfl
theorem Hd.f_Machine_its_step (c : Hd K mg) : ∃ fd, FunD K "its_step" "Machine.its_step" (defArgs s_Machine_its_step) (defBody s_Machine_its_step) (defScope s_Machine_its_step) [] [] (He.ma K (He.ga K "Machine") "its_step") fd := c.d.def_ 13 (d := d_Machine_its_step) rfl
theorem Hd.f_Machine_state (c : Hd K mg) : ∃ fd, FunD K "state" "Machine.state" (defArgs s_Machine_state) (defBody s_Machine_state) (defScope s_Machine_state) [] [] (He.ma K (He.ga K "Machine") "state") fd := c.d.def_ 14 (d := d_Machine_state) rfl
theorem Hd.f_Machine_worth_of (c : Hd K mg) : ∃ fd, FunD K "worth_of" "Machine.worth_of" (defArgs s_Machine_worth_of) (defBody s_Machine_worth_of) (defScope s_Machine_worth_of) [] [] (He.ma K (He.ga K "Machine") "worth_of") fd := c.d.def_ 15 (d := d_Machine_worth_of) rfl
theorem Hd.f_Machine_worths_of (c : Hd K mg) : ∃ fd, FunD K "worths_of" "Machine.worths_of" (defArgs s_Machine_worths_of) (defBody s_Machine_worths_of) (defScope s_Machine_worths_of) [] [] (He.ma K (He.ga K "Machine") "worths_of") fd := c.d.def_ 16 (d := d_Machine_worths_of) rfl
theorem Hd.f_Machine_put_into (c : Hd K mg) : ∃ fd, FunD K "put_into" "Machine.put_into" (defArgs s_Machine_put_into) (defBody s_Machine_put_into) (defScope s_Machine_put_into) [] [] (He.ma K (He.ga K "Machine") "put_into") fd := c.d.def_ 17 (d := d_Machine_put_into) rfl
theorem Hd.f_Machine_step (c : Hd K mg) : ∃ fd, FunD K "step" "Machine.step" (defArgs s_Machine_step) (defBody s_Machine_step) (defScope s_Machine_step) [] [] (He.ma K (He.ga K "Machine") "step") fd := c.d.def_ 18 (d := d_Machine_step) rfl
theorem Hd.f_Machine_do_plain (c : Hd K mg) : ∃ fd, FunD K "do_plain" "Machine.do_plain" (defArgs s_Machine_do_plain) (defBody s_Machine_do_plain) (defScope s_Machine_do_plain) [] [] (He.ma K (He.ga K "Machine") "do_plain") fd := c.d.def_ 19 (d := d_Machine_do_plain) rfl
theorem Hd.f_Machine_do_question (c : Hd K mg) : ∃ fd, FunD K "do_question" "Machine.do_question" (defArgs s_Machine_do_question) (defBody s_Machine_do_question) (defScope s_Machine_do_question) [] [] (He.ma K (He.ga K "Machine") "do_question") fd := c.d.def_ 20 (d := d_Machine_do_question) rfl
theorem Hd.f_Machine_do_give (c : Hd K mg) : ∃ fd, FunD K "do_give" "Machine.do_give" (defArgs s_Machine_do_give) (defBody s_Machine_do_give) (defScope s_Machine_do_give) [] [] (He.ma K (He.ga K "Machine") "do_give") fd := c.d.def_ 21 (d := d_Machine_do_give) rfl
theorem Hd.f_Machine_moment (c : Hd K mg) : ∃ fd, FunD K "moment" "Machine.moment" (defArgs s_Machine_moment) (defBody s_Machine_moment) (defScope s_Machine_moment) [] [] (He.ma K (He.ga K "Machine") "moment") fd := c.d.def_ 22 (d := d_Machine_moment) rfl
theorem Hd.f_Machine_events (c : Hd K mg) : ∃ fd, FunD K "events" "Machine.events" (defArgs s_Machine_events) (defBody s_Machine_events) (defScope s_Machine_events) [] [] (He.ma K (He.ga K "Machine") "events") fd := c.d.def_ 23 (d := d_Machine_events) rfl
theorem Hd.f_is_place (c : Hd K mg) : ∃ fd, FunD K "is_place" "is_place" (defArgs s_is_place) (defBody s_is_place) (defScope s_is_place) [] [] (He.ga K "is_place") fd := c.d.def_ 24 (d := d_is_place) rfl
theorem Hd.f_are_places (c : Hd K mg) : ∃ fd, FunD K "are_places" "are_places" (defArgs s_are_places) (defBody s_are_places) (defScope s_are_places) [] [] (He.ga K "are_places") fd := c.d.def_ 25 (d := d_are_places) rfl
theorem Hd.f_is_sight (c : Hd K mg) : ∃ fd, FunD K "is_sight" "is_sight" (defArgs s_is_sight) (defBody s_is_sight) (defScope s_is_sight) [] [] (He.ga K "is_sight") fd := c.d.def_ 26 (d := d_is_sight) rfl
theorem Hd.f_place_fault (c : Hd K mg) : ∃ fd, FunD K "place_fault" "place_fault" (defArgs s_place_fault) (defBody s_place_fault) (defScope s_place_fault) [] [] (He.ga K "place_fault") fd := c.d.def_ 27 (d := d_place_fault) rfl
theorem Hd.f_checked_sight (c : Hd K mg) : ∃ fd, FunD K "checked_sight" "checked_sight" (defArgs s_checked_sight) (defBody s_checked_sight) (defScope s_checked_sight) [] [] (He.ga K "checked_sight") fd := c.d.def_ 28 (d := d_checked_sight) rfl
theorem Hd.f_place_worth (c : Hd K mg) : ∃ fd, FunD K "place_worth" "place_worth" (defArgs s_place_worth) (defBody s_place_worth) (defScope s_place_worth) [] [] (He.ga K "place_worth") fd := c.d.def_ 29 (d := d_place_worth) rfl
theorem Hd.f_told_worths (c : Hd K mg) : ∃ fd, FunD K "told_worths" "told_worths" (defArgs s_told_worths) (defBody s_told_worths) (defScope s_told_worths) [] [] (He.ga K "told_worths") fd := c.d.def_ 30 (d := d_told_worths) rfl
theorem Hd.f_seen_worths (c : Hd K mg) : ∃ fd, FunD K "seen_worths" "seen_worths" (defArgs s_seen_worths) (defBody s_seen_worths) (defScope s_seen_worths) [] [] (He.ga K "seen_worths") fd := c.d.def_ 31 (d := d_seen_worths) rfl
theorem Hd.f_is_too_great (c : Hd K mg) : ∃ fd, FunD K "is_too_great" "is_too_great" (defArgs s_is_too_great) (defBody s_is_too_great) (defScope s_is_too_great) [] [] (He.ga K "is_too_great") fd := c.d.def_ 32 (d := d_is_too_great) rfl
theorem Hd.f_is_real (c : Hd K mg) : ∃ fd, FunD K "is_real" "is_real" (defArgs s_is_real) (defBody s_is_real) (defScope s_is_real) [] [] (He.ga K "is_real") fd := c.d.def_ 33 (d := d_is_real) rfl
theorem Hd.f_real_worth (c : Hd K mg) : ∃ fd, FunD K "real_worth" "real_worth" (defArgs s_real_worth) (defBody s_real_worth) (defScope s_real_worth) [] [] (He.ga K "real_worth") fd := c.d.def_ 34 (d := d_real_worth) rfl
theorem Hd.f_mixed_worth (c : Hd K mg) : ∃ fd, FunD K "mixed_worth" "mixed_worth" (defArgs s_mixed_worth) (defBody s_mixed_worth) (defScope s_mixed_worth) [] [] (He.ga K "mixed_worth") fd := c.d.def_ 35 (d := d_mixed_worth) rfl
theorem Hd.f_World_init (c : Hd K mg) : ∃ fd, FunD K "__init__" "World.__init__" (defArgs s_World_init) (defBody s_World_init) (defScope s_World_init) [] [] (He.ma K (He.ga K "World") "__init__") fd := c.d.def_ 36 (d := d_World_init) rfl
theorem Hd.f_World_looked_up (c : Hd K mg) : ∃ fd, FunD K "looked_up" "World.looked_up" (defArgs s_World_looked_up) (defBody s_World_looked_up) (defScope s_World_looked_up) [] [] (He.ma K (He.ga K "World") "looked_up") fd := c.d.def_ 37 (d := d_World_looked_up) rfl
theorem Hd.f_World_apply (c : Hd K mg) : ∃ fd, FunD K "apply" "World.apply" (defArgs s_World_apply) (defBody s_World_apply) (defScope s_World_apply) [] [] (He.ma K (He.ga K "World") "apply") fd := c.d.def_ 38 (d := d_World_apply) rfl
theorem Hd.f_World_read (c : Hd K mg) : ∃ fd, FunD K "read" "World.read" (defArgs s_World_read) (defBody s_World_read) (defScope s_World_read) [] [] (He.ma K (He.ga K "World") "read") fd := c.d.def_ 39 (d := d_World_read) rfl
theorem Hd.f_World_answer (c : Hd K mg) : ∃ fd, FunD K "answer" "World.answer" (defArgs s_World_answer) (defBody s_World_answer) (defScope s_World_answer) [] [] (He.ma K (He.ga K "World") "answer") fd := c.d.def_ 40 (d := d_World_answer) rfl
theorem Hd.f_is_small (c : Hd K mg) : ∃ fd, FunD K "is_small" "is_small" (defArgs s_is_small) (defBody s_is_small) (defScope s_is_small) [] [] (He.ga K "is_small") fd := c.d.def_ 41 (d := d_is_small) rfl
theorem Hd.f_is_shape (c : Hd K mg) : ∃ fd, FunD K "is_shape" "is_shape" (defArgs s_is_shape) (defBody s_is_shape) (defScope s_is_shape) [] [] (He.ga K "is_shape") fd := c.d.def_ 42 (d := d_is_shape) rfl
theorem Hd.f_checked_world (c : Hd K mg) : ∃ fd, FunD K "checked_world" "checked_world" (defArgs s_checked_world) (defBody s_checked_world) (defScope s_checked_world) [] [] (He.ga K "checked_world") fd := c.d.def_ 43 (d := d_checked_world) rfl
theorem Hd.f_thing_worth (c : Hd K mg) : ∃ fd, FunD K "thing_worth" "thing_worth" (defArgs s_thing_worth) (defBody s_thing_worth) (defScope s_thing_worth) [] [] (He.ga K "thing_worth") fd := c.d.def_ 44 (d := d_thing_worth) rfl
theorem Hd.f_behind (c : Hd K mg) : ∃ fd, FunD K "behind" "behind" (defArgs s_behind) (defBody s_behind) (defScope s_behind) [] [] (He.ga K "behind") fd := c.d.def_ 45 (d := d_behind) rfl
theorem Hd.f_checked_many (c : Hd K mg) : ∃ fd, FunD K "checked_many" "checked_many" (defArgs s_checked_many) (defBody s_checked_many) (defScope s_checked_many) [] [] (He.ga K "checked_many") fd := c.d.def_ 46 (d := d_checked_many) rfl
theorem Hd.f_shown_by (c : Hd K mg) : ∃ fd, FunD K "shown_by" "shown_by" (defArgs s_shown_by) (defBody s_shown_by) (defScope s_shown_by) [] [] (He.ga K "shown_by") fd := c.d.def_ 47 (d := d_shown_by) rfl
theorem Hd.f_is_pair (c : Hd K mg) : ∃ fd, FunD K "is_pair" "is_pair" (defArgs s_is_pair) (defBody s_is_pair) (defScope s_is_pair) [] [] (He.ga K "is_pair") fd := c.d.def_ 48 (d := d_is_pair) rfl
theorem Hd.f_set_by (c : Hd K mg) : ∃ fd, FunD K "set_by" "set_by" (defArgs s_set_by) (defBody s_set_by) (defScope s_set_by) [] [] (He.ga K "set_by") fd := c.d.def_ 49 (d := d_set_by) rfl
theorem Hd.f_used_by (c : Hd K mg) : ∃ fd, FunD K "used_by" "used_by" (defArgs s_used_by) (defBody s_used_by) (defScope s_used_by) [] [] (He.ga K "used_by") fd := c.d.def_ 50 (d := d_used_by) rfl
theorem Hd.f_boxes_in (c : Hd K mg) : ∃ fd, FunD K "boxes_in" "boxes_in" (defArgs s_boxes_in) (defBody s_boxes_in) (defScope s_boxes_in) [] [] (He.ga K "boxes_in") fd := c.d.def_ 51 (d := d_boxes_in) rfl
theorem Hd.f_own_lines (c : Hd K mg) : ∃ fd, FunD K "own_lines" "own_lines" (defArgs s_own_lines) (defBody s_own_lines) (defScope s_own_lines) [] [] (He.ga K "own_lines") fd := c.d.def_ 52 (d := d_own_lines) rfl
theorem Hd.f_own_places (c : Hd K mg) : ∃ fd, FunD K "own_places" "own_places" (defArgs s_own_places) (defBody s_own_places) (defScope s_own_places) [] [] (He.ga K "own_places") fd := c.d.def_ 53 (d := d_own_places) rfl
theorem Hd.f_many_places (c : Hd K mg) : ∃ fd, FunD K "many_places" "many_places" (defArgs s_many_places) (defBody s_many_places) (defScope s_many_places) [] [] (He.ga K "many_places") fd := c.d.def_ 54 (d := d_many_places) rfl
theorem Hd.f_Maker_init (c : Hd K mg) : ∃ fd, FunD K "__init__" "Maker.__init__" (defArgs s_Maker_init) (defBody s_Maker_init) (defScope s_Maker_init) [] [] (He.ma K (He.ga K "Maker") "__init__") fd := c.d.def_ 55 (d := d_Maker_init) rfl
theorem Hd.f_Maker_put (c : Hd K mg) : ∃ fd, FunD K "put" "Maker.put" (defArgs s_Maker_put) (defBody s_Maker_put) (defScope s_Maker_put) [] [] (He.ma K (He.ga K "Maker") "put") fd := c.d.def_ 56 (d := d_Maker_put) rfl
theorem Hd.f_Maker_body (c : Hd K mg) : ∃ fd, FunD K "body" "Maker.body" (defArgs s_Maker_body) (defBody s_Maker_body) (defScope s_Maker_body) [] [] (He.ma K (He.ga K "Maker") "body") fd := c.d.def_ 57 (d := d_Maker_body) rfl
theorem Hd.f_Maker_statement (c : Hd K mg) : ∃ fd, FunD K "statement" "Maker.statement" (defArgs s_Maker_statement) (defBody s_Maker_statement) (defScope s_Maker_statement) [] [] (He.ma K (He.ga K "Maker") "statement") fd := c.d.def_ 58 (d := d_Maker_statement) rfl
theorem Hd.f_plain_code (c : Hd K mg) : ∃ fd, FunD K "plain_code" "plain_code" (defArgs s_plain_code) (defBody s_plain_code) (defScope s_plain_code) [] [] (He.ga K "plain_code") fd := c.d.def_ 59 (d := d_plain_code) rfl
theorem Hd.f_own_build (c : Hd K mg) : ∃ fd, FunD K "own_build" "own_build" (defArgs s_own_build) (defBody s_own_build) (defScope s_own_build) [] [] (He.ga K "own_build") fd := c.d.def_ 60 (d := d_own_build) rfl
theorem Hd.f__law_bag (c : Hd K mg) : ∃ fd, FunD K "_law_bag" "_law_bag" (defArgs s__law_bag) (defBody s__law_bag) (defScope s__law_bag) [] [] (He.ga K "_law_bag") fd := c.d.def_ 61 (d := d__law_bag) rfl
theorem Hd.f__law_take (c : Hd K mg) : ∃ fd, FunD K "_law_take" "_law_take" (defArgs s__law_take) (defBody s__law_take) (defScope s__law_take) [] [] (He.ga K "_law_take") fd := c.d.def_ 62 (d := d__law_take) rfl
theorem Hd.f__law_some (c : Hd K mg) : ∃ fd, FunD K "_law_some" "_law_some" (defArgs s__law_some) (defBody s__law_some) (defScope s__law_some) [] [] (He.ga K "_law_some") fd := c.d.def_ 63 (d := d__law_some) rfl
theorem Hd.f__law_mixed (c : Hd K mg) : ∃ fd, FunD K "_law_mixed" "_law_mixed" (defArgs s__law_mixed) (defBody s__law_mixed) (defScope s__law_mixed) [] [] (He.ga K "_law_mixed") fd := c.d.def_ 64 (d := d__law_mixed) rfl
theorem Hd.f__law_alike (c : Hd K mg) : ∃ fd, FunD K "_law_alike" "_law_alike" (defArgs s__law_alike) (defBody s__law_alike) (defScope s__law_alike) [] [] (He.ga K "_law_alike") fd := c.d.def_ 65 (d := d__law_alike) rfl
theorem Hd.f__law_is_numeral (c : Hd K mg) : ∃ fd, FunD K "_law_is_numeral" "_law_is_numeral" (defArgs s__law_is_numeral) (defBody s__law_is_numeral) (defScope s__law_is_numeral) [] [] (He.ga K "_law_is_numeral") fd := c.d.def_ 66 (d := d__law_is_numeral) rfl
theorem Hd.f__law_formula (c : Hd K mg) : ∃ fd, FunD K "_law_formula" "_law_formula" (defArgs s__law_formula) (defBody s__law_formula) (defScope s__law_formula) [] [] (He.ga K "_law_formula") fd := c.d.def_ 67 (d := d__law_formula) rfl
theorem Hd.f__law_apply (c : Hd K mg) : ∃ fd, FunD K "_law_apply" "_law_apply" (defArgs s__law_apply) (defBody s__law_apply) (defScope s__law_apply) [] [] (He.ga K "_law_apply") fd := c.d.def_ 68 (d := d__law_apply) rfl
theorem Hd.f__law_asked (c : Hd K mg) : ∃ fd, FunD K "_law_asked" "_law_asked" (defArgs s__law_asked) (defBody s__law_asked) (defScope s__law_asked) [] [] (He.ga K "_law_asked") fd := c.d.def_ 69 (d := d__law_asked) rfl
theorem Hd.f_law (c : Hd K mg) : ∃ fd, FunD K "law" "law" (defArgs s_law) (defBody s_law) (defScope s_law) [] [] (He.ga K "law") fd := c.d.def_ 70 (d := d_law) rfl
/-! ### own exceptions -/
/-- what is asked of the program -/
structure PF (P : Program) : Prop where
  file : P.main.file = fl
  sup : (P.main.scope.names.lookup ("super" : Str)).isSome = false
theorem Hd.xk_BadWorld_init {P : Program} (c : Hd K mg) (p : PF P) : AX.XK1 P K x_BadWorld_init := c.z.xk p.file 0 (d := x_BadWorld_init) rfl
theorem Hd.xk_BadSight_init {P : Program} (c : Hd K mg) (p : PF P) : AX.XK1 P K x_BadSight_init := c.z.xk p.file 1 (d := x_BadSight_init) rfl
theorem Hd.xk_TooLarge_init {P : Program} (c : Hd K mg) (p : PF P) : AX.XK1 P K x_TooLarge_init := c.z.xk p.file 2 (d := x_TooLarge_init) rfl
end
end K95

set_option Elab.async false
set_option linter.all false
set_option maxRecDepth 100000
set_option maxHeartbeats 0
namespace K95H
open K95 PySem PySem.Spec PyProof.Rows L2 HandSHeadRun PySem.W PySem.Calls
abbrev R : PySem.W.OpenRow := PySem.W.OpenLaw.row PySem.Challenge.rw_runshown_k95_whole_couples_of_worlds_by
abbrev hk : PySem.W.Hook := AX.hookZ 4 fl fa fn xs exB
noncomputable def kk (s : PySem.W.SharedT) : PySem.W.Frag := He.frG (HandSHeadRun.getT s) (cStatics :: He.asD (HandSHeadRun.getT s) 4)
def ob (s : PySem.W.SharedT) : AX.AlZ := AX.obsZG 4 fl fa fn xs exB (HandSHeadRun.getT s)
theorem ob_eq (s : PySem.W.SharedT) : ob s = hk.obs s.abs := AX.obsZG_eq (HandSHeadRun.getT_eq s)
def names : List PySem.Str := (["_wall", "__name__", "RunError", "BadWorld", "BadSight", "TooLarge", "LETTERS", "DIGITS", "RESERVED", "MOST_PARTS_forms", "is_integer", "is_register", "is_name", "is_numeral", "is_operation", "is_way", "is_lot", "is_told_row", "is_meaning", "is_world_form", "goals_of", "params_of", "MOST_FIGURES", "made_worth", "LONG", "Machine", "is_place", "are_places", "is_sight", "place_fault"] : List PySem.Str) ++ (["checked_sight", "place_worth", "told_worths", "seen_worths", "MODULUS", "HALF", "SIGNS", "FIGURES", "FIFTY", "MOST_PARTS_worlds", "is_too_great", "is_real", "real_worth", "mixed_worth", "World", "is_small", "is_shape", "checked_world", "MOST", "thing_worth", "behind", "checked_many", "shown_by", "is_pair", "MOST_ROWS", "MOST_BOXES", "set_by", "used_by", "boxes_in", "own_lines"] : List PySem.Str) ++ (["own_places", "many_places", "always_gives", "Maker", "plain_code", "own_build", "_law_bag", "_law_take", "_law_some", "_law_mixed", "_law_alike", "_law_is_numeral", "_law_formula", "_law_apply", "_law_asked"] : List PySem.Str)
noncomputable def st0 (w : PySem.World) (os : PySem.OsState) : Option PySem.W.SharedT := HandSHeadRun.endF (stepQ (denQ tabQ) R.prog w) 6000 R.prog w os
theorem runA (w : PySem.World) (os : PySem.OsState) : (st0 w os).map (fun s => (HandSHeadRun.looksF R.prog (boot_heap w.params) s.abs, HandSHeadRun.seenQ (PySem.W.view R.prog [85]) names (importedModules R.prog.main.body) (fun s => xlAt (PySem.W.view R.prog [85]) [] s && recOk R.toRowW.records s) s.abs)) = some (true, openGood (PySem.W.view R.prog [85]) names) := by kernel_rfl
theorem runB (w : PySem.World) (os : PySem.OsState) : (st0 w os).map ob = some (AX.valZ fn xs) := by kernel_rfl
theorem run (w : PySem.World) : HandSHeadRun.RunEq R (PySem.W.view R.prog [85]) hk ob 6000 names w := by
  intro os
  have a := runA w os
  have b := runB w os
  show (st0 w os).map _ = _
  cases h : st0 w os with
  | none => rw [h] at a; cases a
  | some s =>
    rw [h] at a b
    have a1 := Option.some.inj a
    have b1 := Option.some.inj b
    have e1 := congrArg Prod.fst a1
    have e2 := congrArg Prod.snd a1
    exact congrArg some (Prod.ext e1 (Prod.ext e2 b1))
theorem pf : PF (PySem.W.view R.prog [85]) := ⟨by decide +kernel, by decide +kernel⟩
end K95H

set_option Elab.async false
set_option linter.all false
set_option maxRecDepth 100000
set_option maxHeartbeats 4000000
/-! AX42: {k: v, ..}; calls on a heap apart where that may be. -/
namespace AX
open PySem PySem.Spec PyProof.Rows L2
abbrev PR := (ASt → M AV) × (ASt → M AV)
def pairsM : List PR → ASt → M (List (AV × AV))
  | [], _ => M.pure []
  | p :: r, aσ => (p.1 aσ).bind fun x => (p.2 aσ).bind fun y => (pairsM r aσ).bind fun l => M.pure ((x, y) :: l)
def dispG : List Key → List AV → List (AV × AV) → Option (List Key × List AV)
  | ks, xs, [] => some (ks, xs)
  | ks, xs, p :: r => match keyOf p.1 with
    | some k => dispG (dPut ks xs k p.2).1 (dPut ks xs k p.2).2 r
    | none => none
def aDisp (l : List PR) : ASt → M AV := fun aσ => (pairsM l aσ).bind fun ps => (M.chk fun _ => Nat.ble ps.length 15).bind fun _ => M.lift fun A => match dispG [] [] ps with
  | some d => some (.ref A.length, A ++ [.dK d.1 d.2])
  | none => none
inductive VPs (K : PySem.W.Frag) (ρ : List Addr) (H : Hp) : List (AV × AV) → List (V × V) → Prop
  | nil : VPs K ρ H [] []
  | cons {x y : AV} {v u : V} {l : List (AV × AV)} {m : List (V × V)} : VR K ρ H x v → VR K ρ H y u → VPs K ρ H l m → VPs K ρ H ((x, y) :: l) ((v, u) :: m)
section
variable {K : PySem.W.Frag} {ρ : List Addr} {H : Hp} {A : AH} {E : XK}
theorem dispG_ok : ∀ {l : List (AV × AV)} {m : List (V × V)} {acc : List (Key × V)} {ks : List Key} {xs : List AV} {d : List Key × List AV}, VPs K ρ H l m → acc.map (·.1) = ks → VRs K ρ H xs (acc.map (·.2)) → dispG ks xs l = some d →
    ∃ kvs : List (Key × V), m = kvs.map (fun kv => (kV kv.1, kv.2)) ∧ (mergeK acc kvs).map (·.1) = d.1 ∧ VRs K ρ H d.2 ((mergeK acc kvs).map (·.2))
  | _, _, acc, ks, xs, d, .nil, e1, e2, h => by
    cases h
    exact ⟨[], rfl, e1, e2⟩
  | _, _, acc, ks, xs, d, .cons (x := x) (y := y) (u := u) rx ry r, e1, e2, h => by
    unfold dispG at h
    dsimp only at h
    cases hk : keyOf x with
    | none => rw [hk] at h; cases h
    | some k =>
      rw [hk] at h
      obtain ⟨p1, p2⟩ := dPut_ok (k := k) ry e1 e2
      obtain ⟨kvs, q1, q2, q3⟩ := dispG_ok r p1 p2 h
      exact ⟨(k, u) :: kvs, by rw [q1, List.map_cons, keyOf_eq rx hk], q2, q3⟩
theorem VPs.length {l : List (AV × AV)} {m : List (V × V)} (h : VPs K ρ H l m) : l.length = m.length := by
  induction h with
  | nil => rfl
  | cons _ _ _ ih => simp [ih]
theorem pairs_sound : ∀ (l : List PR) {ρ : List Addr} {H : Hp} {A : AH} {aσ : ASt} {σ : L2.St} {Q : List (V × V) → Hp → Prop}, Wd K ρ H A → SR K ρ H aσ σ →
    Yes (pairsM l aσ) A (fun ps A' => ∀ ρ' H' m, Grow ρ H ρ' H' → Wd K ρ' H' A' → VPs K ρ' H' ps m → Q m H') (fun e A' => PostX K ρ H e A' E) → tPairs (l.map fun p => (S K E p.1, S K E p.2)) σ H Q
  | [], ρ, H, A, aσ, σ, Q, w, s, y => y.pure ρ H [] Grow.refl w .nil
  | p :: r, ρ, H, A, aσ, σ, Q, w, s, y => by
    refine SX.mk w s y.bind fun x A1 ρ1 H1 v y1 g1 w1 r1 => ?_
    refine SX.mk w1 (s.grow g1) (y1.bind.mono (fun _ _ q => q) fun _ _ q => q.tr g1) fun z A2 ρ2 H2 u y2 g2 w2 r2 => ?_
    have g12 := g1.trans g2
    refine pairs_sound r w2 (s.grow g12) (y2.bind.mono (fun ps A3 y3 ρ3 H3 m g3 w3 r3 => ?_) fun _ _ q => q.tr g12)
    exact y3.pure ρ3 H3 _ (g12.trans g3) w3 (.cons (g3.vr (g2.vr r1)) (g3.vr r2) r3)
theorem pe_pps {X : Cx} {E : XK} {pos : Pos} {k v : Expr} {ks : List (Option Expr)} {vs : List Expr} {fk fv : ASt → M AV} {l : List PR} (hk : PE X k (S X.K E fk)) (hv : PE X v (S X.K E fv)) (hr : PPs X pos ks vs (l.map fun p => (S X.K E p.1, S X.K E p.2))) :
    PPs X pos (some k :: ks) (v :: vs) (((fk, fv) :: l).map fun p => (S X.K E p.1, S X.K E p.2)) := pps_cons hk hv hr
theorem a_disp {X : Cx} {E : XK} {pos : Pos} {keys : List (Option Expr)} {values : List Expr} {l : List PR} (h : PPs X pos keys values (l.map fun p => (S X.K E p.1, S X.K E p.2))) (hall : keys.all (·.isSome) = true := by rfl) (hl : keys.length = values.length := by rfl) (h0 : keys ≠ [] := by exact List.cons_ne_nil _ _)
    (h15 : keys.length ≤ 15 := by decide) : PE X (.Dict keys values pos) (S X.K E (aDisp l)) :=
  wE (pe_disp h hall hl h0 h15) fun σ H Q ⟨ρ, aσ, A, w, s, y⟩ D hD => by
    obtain ⟨w2, g2⟩ := w.out (u := .dK []) hD
    have hDn : D ∉ ρ := fun hm => by
      obtain ⟨u, h, _⟩ := w.own hm
      rw [hD] at h; cases h
    refine pairs_sound l w2 (s.grow g2) (y.bind.mono (fun ps A1 y1 ρ1 H1 m g3 w3 r3 => ?_) fun _ _ q => q.tr g2)
    obtain ⟨hc, y2⟩ := y1.bind.chk
    obtain ⟨z, A2, hz, post⟩ := y2.lift
    cases hd : dispG [] [] ps with
    | none => rw [hd] at hz; cases hz
    | some d =>
      rw [hd] at hz
      cases hz
      have h1 : H1 D = some (.dK []) := g3.keep D _ upd_same hDn
      have n1 : D ∉ ρ1 := g3.notin upd_same hDn
      obtain ⟨kvs, e1, e2, e3⟩ := dispG_ok (acc := []) r3 rfl .nil hd
      refine ⟨h1, kvs, e1, by
        have z := r3.length
        rw [e1, List.length_map] at z
        have := Nat.le_of_ble_eq_true hc
        omega, ?_⟩
      have tx : Tx H1 (upd H1 D (.dK (mergeK [] kvs))) := tx_ofK h1
      have w4 := w3.beside n1 tx
      have g4 : Grow ρ H ρ1 (upd H1 D (.dK (mergeK [] kvs))) := (g2.trans g3).mut hD tx
      exact post (ρ1 ++ [D]) _ (.ref D) (g4.take hD) (w4.take n1 ⟨_, upd_same, e2, (e3.tx tx).mono (Tx.refl _) [D]⟩) (.ref (by rw [← w3.len]; simp))
end
/-! ### a call: apart, if nothing own is handed -/
def M.either (xs : List AV) (m : M AV) : M AV := fun A => match AV.purs xs with
  | true => M.apart xs m A
  | false => m A
def aCallE (n : Nat) (g : List AV → M AV) (fl : ASt → M (List AV)) : ASt → M AV := fun aσ => (fl aσ).bind fun xs => (M.chk (lenOk xs n)).bind fun _ => M.either xs (g xs)
section
variable {X : Cx} {E : XK} {e : Expr} {es : List Expr} {fl : ASt → M (List AV)} {x : Str} {p pos : Pos} {n k j : Nat} {g : List AV → M AV}
theorem a_callE (c : CalA X.prog X.w X.K X.mg X.base k x n g) (hr : Room j X.A) (tk : TkE X E) (hk : k ≤ j) (hg : Gl X x) (ha : PA X (e :: es) (SL X.K E fl))
    (hdb : (x == ("__debug__" : Str)) = false := by decide) (he : starEach (e :: es) X.env = (false, eval e X.env) :: starEach es X.env := by rfl) (hpl : (backTo pos (starEach es X.env)).any (·.1) = false := by rfl) :
    PE X (.Call (.Name x p) (e :: es) [] pos) (S X.K E (aCallE n g fl)) := by
  obtain ⟨fd, ps, F, hm, kp, b⟩ := c.ex
  refine wE (pe_call F (hr.mono hk) hg hm kp b .nil (pX tk) ha hdb he hpl) fun σ H Q ⟨ρ, aσ, A, w, s, y⟩ => SX.mk w s y.bind fun xs A1 ρ1 H1 vs y1 g1 w1 r1 => ?_
  obtain ⟨hl, y2⟩ := y1.bind.chk
  rw [List.append_nil]
  have y3 : Yes (M.either xs (g xs)) A1 (fun v A' => Post X.K (VR X.K) ρ1 H1 v A' Q) (fun e A' => PostX X.K ρ1 H1 e A' E) := y2.mono (fun _ _ q => q.tr g1) fun _ _ q => q.tr g1
  have len : vs.length = n := by rw [← r1.length]; exact Nat.eq_of_beq_eq_true hl
  cases hp : AV.purs xs with
  | true =>
    have e : M.either xs (g xs) A1 = M.apart xs (g xs) A1 := by unfold M.either; rw [hp]
    have y4 : Yes (M.apart xs (g xs)) A1 (fun v A' => Post X.K (VR X.K) ρ1 H1 v A' Q) (fun e A' => PostX X.K ρ1 H1 e A' E) := by
      obtain ⟨l, A', r, h1, h2⟩ := y3
      exact ⟨l, A', r, e ▸ h1, h2⟩
    obtain ⟨_, y5⟩ := y4.apart w1
    exact ⟨len, [], [], xs, Wd.nil, r1.pure hp, y5⟩
  | false =>
    have e : M.either xs (g xs) A1 = g xs A1 := by unfold M.either; rw [hp]
    obtain ⟨l, A', r, h1, h2⟩ := y3
    exact ⟨len, ρ1, A1, xs, w1, r1, l, A', r, e ▸ h1, h2⟩
end
end AX

set_option Elab.async false
set_option linter.all false
set_option maxRecDepth 100000
set_option maxHeartbeats 4000000
/-! AX43: the end of a law that makes lambdas, called where no repr is under way. -/
namespace AX
open PySem PySem.Spec PyProof.Rows L2 LamX
/-- as fnG_of, the code object known -/
theorem fnG_code {CX : CXT} {P : Program} {w : World} {K : PySem.W.Frag} {mg : Str → Option Value} {base : Heap} {k : Nat} {f : Addr} {fd : FuncData} {N ps : List Str} {sp : Sp} {x qual : Str} {params : Arguments} {body : List Stmt} {scope : Scope} {dvs : List V} {kws : List (Str × V)}
    (F : FunD K x qual params body scope dvs kws f fd) (S : FnScope N ps scope) (len : ∀ vs H Q E, sp vs H Q E → vs.length = ps.length)
    (hb : ∀ (A : Around) (outer : List Env) (s : Shared) (H : Hp) (vs : List V) (Q : VK) (E : XK), (A.deeper (envOfC qual scope s.heap.objs.size f fd.code)).guards = some [] → Room k (A.deeper (envOfC qual scope s.heap.objs.size f fd.code)) → sp vs H Q E →
      ∃ t, PSs (cxOf CX P w K mg base N qual scope f fd.code A outer s H E) body t ∧ t { nx := fun _ H' => Q .non H', rt := Q } (L2.start N vs) H) : FnG P w K mg base CX (k + 1) f fd ps sp := by
  obtain ⟨oc, od, dV, kV, doc, pm, an, cdv, ct, osl, rfl, lk, hcd, _, _⟩ := F.ex
  refine ⟨len, fun A outer s H args us vs Q E hg hr e0 bd rv q => ?_⟩
  have inK : K.In s.heap := e0.mod.kin.keeps fun b o e => (e0.bs b o e).1
  have par : ∀ y ∈ ps.zip us, scope.names.lookup y.1 = some .local ∨ (scope.names.lookup y.1 = some .cell ∧ ((cellsFrom (s.heap.objs.size + 1) scope.names []).lookup y.1).isSome = true) := fun y hy =>
    (S.par y.1 (List.of_mem_zip (show (y.1, y.2) ∈ ps.zip us from hy)).1).imp id fun c => ⟨c, PySem.W.cellsFrom_some _ _ _ (.inl c)⟩
  refine codeAny_call_function hr.depth (inK _ _ lk) rfl S.co S.gen rfl (PySem.W.codeRec_of inK hcd) (bd _ _ _ _ (wpAny_newFunctionEnv_cells S.kind par fun env he s1 y => ?_))
  subst he
  obtain ⟨t, ht, qt⟩ := hb A outer s H vs Q E (guards_deeper hg) (hr.deeper _) q
  refine ⟨(e0.mod.nolimit.keeps fun b o e => (e0.bs b o e).1).keeps y.toInCall.keep, codeAny_func (wpAny_mono (ht.run [] s1 (L2.start N vs) H _ (inv_start S hr.hd e0 (len _ _ _ _ q) rv y) qt) (fun fl z hz => ?_) fun _ _ hz => hz)⟩
  have out : ∀ {τ : L2.St} {G : Hp} {v : V} {u : Value}, Inv (cxOf CX P w K mg base N qual scope f cdv A outer s H E) [] τ G z → RelV v u → Q v G → CE outer P w H s Q u z := fun J r qv => ⟨_, _, J.os, J.bare, J.base, J.hok, r, qv⟩
  cases fl with
  | ret u => exact let ⟨v, _, _, J, r, qv⟩ := hz; out J r qv
  | next => exact let ⟨_, _, J, qv⟩ := hz; out (v := V.non) (u := Value.none) J rfl qv
  | brk => exact let ⟨_, _, _, qv⟩ := hz; False.elim qv
  | cont => exact let ⟨_, _, _, qv⟩ := hz; False.elim qv
section
variable {P : Program} {w : World} {K : PySem.W.Frag} {mg mb : Str → Option Value} {CX : CXT} {k : Nat} {fa a c T : Addr} {fd : FuncData} {x : Str} {sp : Sp} {s1 : Shared} {vs : List Value} {ns : List Int}
/-- what the call of the law starts from: H tells the script (or K does) and the table -/
structure Start (P : Program) (w : World) (K : PySem.W.Frag) (s1 : Shared) (a T : Addr) (ns : List Int) (H : Hp) : Prop where
  t : H T = some (.tbl #[])
  q : SqF K H a (ns.map V.int)
  ok : HOk P w H s1.heap
  all : ∀ b u, H b = some u → b = T ∨ (b = a ∧ K.lookup a = none ∧ ∃ o xs, u = .frz o (.lst xs))
theorem start_is (ha : s1.heap.get? a = some { cls := .type "list", data := .seq vs.toArray }) (hT : s1.heap.get? T = some { cls := .none, data := .fields #[] }) (KX : K.In s1.heap) (hi : IntsAre vs ns) (hl : ns.length ≤ sizeLine) : ∃ H, Start P w K s1 a T ns H := by
  have rv := vals_ints hi
  have ne : T ≠ a := fun e => by
    rw [e, ha] at hT
    have z := congrArg Obj.data (Option.some.inj hT)
    cases z
  cases hk : K.lookup a with
  | some o =>
    have e := KX a o hk
    rw [ha] at e
    cases e
    refine ⟨fun b => if b = T then some (.tbl #[]) else none, if_pos rfl, .inr fun H' => .inr ⟨_, vs.toArray, _, hk, rfl, rfl, rfl, by rw [List.size_toArray, hi.length]; exact hl, by simpa using rv⟩, fun b u z => ?_, fun b u z => ?_⟩
    · by_cases hb : b = T
      · have z' := (if_pos hb).symm.trans z
        cases z'
        rw [hb]
        exact hT
      · have z' := (if_neg hb).symm.trans z
        cases z'
    · by_cases hb : b = T
      · exact .inl hb
      · have z' := (if_neg hb).symm.trans z
        cases z'
  | none =>
    refine ⟨fun b => if b = T then some (.tbl #[]) else if b = a then some (.frz { cls := .type "list", data := .seq vs.toArray } (.lst (ns.map V.int))) else none, if_pos rfl, .inl ⟨_, (if_neg (Ne.symm ne)).trans (if_pos rfl)⟩, fun b u z => ?_, fun b u z => ?_⟩
    · by_cases hb : b = T
      · have z' := (if_pos hb).symm.trans z
        cases z'
        rw [hb]
        exact hT
      · have z1 := (if_neg hb).symm.trans z
        by_cases hb2 : b = a
        · have z' := (if_pos hb2).symm.trans z1
          cases z'
          rw [hb2]
          exact ⟨ha, by rw [List.length_map]; exact hl, vs, _, rv, ha⟩
        · have z' := (if_neg hb2).symm.trans z1
          cases z'
    · by_cases hb : b = T
      · exact .inl hb
      · have z1 := (if_neg hb).symm.trans z
        by_cases hb2 : b = a
        · have z' := (if_pos hb2).symm.trans z1
          cases z'
          exact .inr ⟨hb2, hk, _, _, rfl⟩
        · have z' := (if_neg hb2).symm.trans z1
          cases z'
theorem law_callG (KX : K.In s1.heap) (hns : s1.heap.Ns mainGlobals mg) (hb : s1.heap.Ns builtinsNs mb) (hbb : ∀ x : Str, x ≠ "__name__" → mb x = bootBuiltins x) (hlim : s1.heap.NoLimit) (hg : s1.gens = #[])
    (hT : s1.heap.get? T = some { cls := .none, data := .fields #[] }) (nT : K.lookup T = none) (C : PySem.W.CodeHd s1.heap c T)
    (hbm : ∃ (bm : Addr) (ob : Obj), mg "__builtins__" = some (.ref bm) ∧ bm ≠ builtinsNs ∧ s1.heap.get? bm = some ob ∧ ob.cls = .type "module" ∧ ob.dict = some builtinsNs ∧ ob.data = .plain)
    (ha : s1.heap.get? a = some { cls := .type "list", data := .seq vs.toArray }) (hi : IntsAre vs ns) (hl : ns.length ≤ sizeLine) (hr : Room k callerA)
    (F : ∀ base : Heap, K.In base → base.Ns mainGlobals mg → TabB base mg c T → FnG P w K mg base CX k fa fd [x] sp) (hbind : ∀ (s : Shared) (u : Value), BindsTo s fd ⟨[u], []⟩ [(x, u)])
    (hsp : ∀ H : Hp, H T = some (.tbl #[]) → SqF K H a (ns.map V.int) → sp [.ref a] H (fun v _ => v = .bl true) fun _ _ _ => False) (hCX : ∀ H e s', CX [] H s1 (fun _ _ _ => False) e s' → False) :
    codeAny (model P w) callerA (.call (.ref fa) ⟨[.ref a], []⟩) (fun r s' => r = .ok (.ret (.bool true)) ∧ OldK s1.heap s'.heap ∧ s'.os = s1.os ∧ AllBare s'.gens) s1 := by
  obtain ⟨H, st⟩ := start_is (P := P) (w := w) ha hT KX hi hl
  -- an object that is neither the script nor the table is told by nothing
  have free : ∀ {b : Addr} {o : Obj}, s1.heap.get? b = some o → (∀ xs n, o.data ≠ .seq xs n) → o.data ≠ .fields #[] → H b = none := fun {b o} e h1 h2 => by
    cases q : H b with
    | none => rfl
    | some u =>
      rcases st.all b u q with z | ⟨z, _⟩
      · rw [z, hT] at e
        cases e
        exact absurd rfl h2
      · rw [z, ha] at e
        cases e
        exact absurd rfl (h1 _ _)
  have freeD : ∀ {b : Addr} {o : Obj} {es : Array DictEntry} {ep : Nat}, s1.heap.get? b = some o → o.data = .dict es ep → H b = none := fun e d => free e (fun _ _ z => by rw [d] at z; cases z) (fun z => by rw [d] at z; cases z)
  have low : ∀ {b : Addr} {o : Obj}, s1.heap.get? b = some o → H b = none → (hidT s1.heap H).get? b = some o := fun e n => hidT_get e n
  have lowN : ∀ {b : Addr} {m : Str → Option Value}, s1.heap.Ns b m → (hidT s1.heap H).Ns b m := fun ⟨o, es, ep, e, d, r⟩ => ⟨o, es, ep, low e (freeD e d), d, r⟩
  have inK : K.In (hidT s1.heap H) := fun b o e => low (KX b o e) (by
    cases q : H b with
    | none => rfl
    | some u =>
      rcases st.all b u q with z | ⟨z, n, _⟩
      · rw [z, nT] at e; cases e
      · rw [z, n] at e; cases e)
  have M : L2.Mod K mg (hidT s1.heap H) := ⟨inK, lowN hns, ⟨mb, lowN hb, hbb⟩, let ⟨mc, h1, h2⟩ := hlim; ⟨mc, lowN h1, h2⟩⟩
  have TB : TabB (hidT s1.heap H) mg c T := by
    refine ⟨?_, ?_, fun z => ?_⟩
    · obtain ⟨o, us, file, tf, flags, tg, inF, text, tt, e1, r1, r2, r3, r⟩ := C
      refine ⟨o, us, file, tf, flags, tg, inF, text, tt, low e1 (free e1 (fun _ _ z => by rw [r2] at z; cases z) fun z => ?_), r1, r2, r3, r⟩
      rw [r2] at z
      cases z
      simp at r3
    · obtain ⟨bm, ob, b1, b2, b3, b4, b5, b6⟩ := hbm
      refine ⟨bm, ob, b1, b2, fun q => ?_, fun q => ?_, low b3 (free b3 (fun _ _ z => by rw [b6] at z; cases z) fun z => by rw [b6] at z; cases z), b4, b5, b6⟩
      · obtain ⟨o, es, ep, e, hd, _⟩ := hns
        rw [q, e] at b3
        cases b3
        rw [hd] at b6
        cases b6
      · rw [q, hT] at b3
        cases b3
        cases b6
    · obtain ⟨o, es, ep, e, hd, _⟩ := hns
      rw [z, hT] at e
      cases e
      cases hd
  have e0 : Env0 P w K mg (hidT s1.heap H) callerA [] s1 H := ⟨rfl, M, fun b o e => of_hidT e, Nat.le_of_eq (hidT_size _ _), trivial, fun b hb => absurd (show b ∈ ([] : List Addr) from hb) (by simp), st.ok, .of_eq hg⟩
  refine codeAny_mono ((F _ inK (lowN hns) TB).run callerA [] s1 H ⟨[.ref a], []⟩ [.ref a] [.ref a] _ _ rfl hr e0 (hbind s1 (.ref a)) (.cons rfl .nil) (hsp H st.t st.q)) fun r s' h => ?_
  match r, h with
  | .error e, h => exact (hCX H e s' h).elim
  | .ok .next, h => exact False.elim h
  | .ok .brk, h => exact False.elim h
  | .ok .cont, h => exact False.elim h
  | .ok (.ret u), ⟨v, H', os, bare, un, hok', r', q⟩ =>
    have q' : v = .bl true := q
    subst q'
    obtain rfl : u = Value.bool true := r'
    have same : ∀ b o, b ≠ T → s1.heap.get? b = some o → s'.heap.get? b = some o := fun b o nb e => by
      cases q : H b with
      | none => exact un.keep b o e q (by intro z; exact absurd (show b ∈ ([] : List Addr) from z) (by simp)) (by simp)
      | some u =>
        rcases st.all b u q with z | ⟨_, _, ob, xs, z⟩
        · exact absurd z nb
        · subst z
          obtain ⟨e1, _⟩ := st.ok b _ q
          obtain ⟨e2, _⟩ := hok' b _ (un.frzs b ob _ q)
          rw [e] at e1
          cases e1
          exact e2
    obtain ⟨more, hm⟩ := un.tbls T #[] st.t
    have grown : s'.heap.get? T = some { cls := .none, data := .fields (#[] ++ more) } := hok' T _ hm
    refine ⟨rfl, ⟨fun b o e => ?_, fun b o e => ?_⟩, os, bare⟩
    · by_cases hb : b = T
      · rw [hb] at e ⊢
        rw [hT] at e
        cases e
        exact .inr (.inl ⟨(C.tab hT).isCodeTable, rfl, #[], more, rfl, grown⟩)
      · exact .inl (same b o hb e)
    · by_cases hb : b = T
      · rw [hb]
        exact ⟨_, grown⟩
      · exact ⟨o, same b o hb e⟩
end
end AX

set_option Elab.async false
set_option linter.all false
set_option maxRecDepth 100000
set_option maxHeartbeats 4000000
/-! AX44: the walk of such a law. -/
namespace AX
open PySem PySem.Spec PyProof.Rows L2 LamX
theorem walk_ofG {l : PySem.W.OpenLaw} {n k : Nat} {q : Program} {loose : List Str} {XP : (Str → Option Value) → Heap → Prop} {YP : World → Heap → Prop} {d : DefRec} {CX : World → CXT} {x : Str}
    (hn : l.most = some n) (hn2 : n ≤ sizeLine) (hdf : d.params.defaults = []) (hr : Room k callerA) (hrec : ((recsOf q).any fun e => e.name == d.name) = true)
    (F : ∀ (w : World) (mg : Str → Option Value) (fa : Addr) (h : Heap) (c T : Addr), YP w h → h.Ns mainGlobals mg → mg d.name = some (.ref fa) → (∃ o fd, h.get? fa = some o ∧ o.data = .func fd ∧ fd.code = .ref c) → h.get? T = some { cls := .none, data := .fields #[] } →
      ∃ (K : PySem.W.Frag) (fd : FuncData) (sp : Sp), K.In h ∧ K.lookup T = none ∧ (∀ (s : Shared) (u : Value), BindsTo s fd ⟨[u], []⟩ [(x, u)]) ∧
        (∀ (H : Hp) (a : Addr) (ns : List Int), ns.length ≤ n → (∀ z ∈ ns, Builtin.Int.intBits z ≤ 1048576) → H T = some (.tbl #[]) → SqF K H a (ns.map V.int) → sp [.ref a] H (fun v _ => v = .bl true) fun _ _ _ => False) ∧
        ∀ base : Heap, K.In base → base.Ns mainGlobals mg → TabB base mg c T → FnG l.prog w K mg base (CX w) k fa fd [x] sp)
    (hCX : ∀ (w : World) (H : Hp) (s : Shared) (e : Value) (s' : Shared), CX w [] H s (fun _ _ _ => False) e s' → False) :
    PySem.W.WalkO q loose XP YP l.row.toRowW d [] (fun f vs => PySem.call f vs) := by
  refine Att.attach_callB hn hdf fun w s₀ s1 mg mb fa o pm cd doc a vs ns G Y ho hd hcd hmg hobj hints hlen hbits hg => ?_
  obtain ⟨dL, hm, hn1⟩ := List.any_eq_true.mp hrec
  obtain ⟨a', o', fd', c, T, h1, h2, h3, h4, h5, h6⟩ := G.T.tab dL hm
  rw [beq_iff_eq.mp hn1, hmg] at h1
  cases h1
  obtain ⟨K, fd, sp, KX, nT, hb, hsp, hF⟩ := F w mg fa _ c T Y G.T.g hmg ⟨o', fd', h2, h3, h4⟩ h6.2
  exact law_callG KX G.T.g G.T.b G.T.builtins G.T.nolimit hg h6.2 nT (PySem.W.CodeHd.of h5 h6) G.T.bmain hobj hints (Nat.le_trans hlen hn2) hr hF hb (fun H hH hS => hsp H a ns hlen hbits hH hS) fun H e s' => hCX w H s1 e s'
end AX

set_option Elab.async false
set_option linter.all false
set_option maxRecDepth 100000
set_option maxHeartbeats 4000000
/-! AX45: a run that leans on less: values that are told ahead, tests that are not asked for. -/
namespace AX
open PySem PySem.Spec PyProof.Rows L2
/-- where m' ends, so does m, and what it needs is true -/
def Le {α : Type} (m' m : M α) : Prop := ∀ A l A' r, m' A = some (l, A', r) → (∀ p ∈ l, p) → ∃ l', m A = some (l', A', r) ∧ ∀ p ∈ l', p
/-- the own heap is left as it is -/
def Still {α : Type} (m : M α) : Prop := ∀ A l A' r, m A = some (l, A', r) → A' = A
section
variable {α β : Type} {m m' : M α} {f f' : α → M β}
theorem Le.refl (m : M α) : Le m m := fun A l A' r e h => ⟨l, e, h⟩
theorem Yes.le {A : AH} {k : α → AH → Prop} {x : AExc → AH → Prop} (h : Yes m' A k x) (le : Le m' m) : Yes m A k x := by
  obtain ⟨l, A', r, e, hl, q⟩ := h
  obtain ⟨l', e', hl'⟩ := le A l A' r e hl
  exact ⟨l', A', r, e', hl', q⟩
theorem bind_some {A : AH} {l : List Prop} {A' : AH} {r : Except AExc β} (e : m.bind f A = some (l, A', r)) : (∃ x, m A = some (l, A', .error x) ∧ r = .error x) ∨ ∃ l1 A1 a l2, m A = some (l1, A1, .ok a) ∧ f a A1 = some (l2, A', r) ∧ l = l1 ++ l2 := by
  unfold M.bind at e
  cases hm : m A with
  | none => rw [hm] at e; cases e
  | some p =>
    obtain ⟨l1, A1, r1⟩ := p
    rw [hm] at e
    cases r1 with
    | error x =>
      cases e
      exact .inl ⟨x, rfl, rfl⟩
    | ok a =>
      dsimp only at e
      cases hf : f a A1 with
      | none => rw [hf] at e; cases e
      | some p2 =>
        obtain ⟨l2, A2, r2⟩ := p2
        rw [hf] at e
        cases e
        exact .inr ⟨l1, A1, a, l2, rfl, hf, rfl⟩
theorem bind_ok {A A1 A2 : AH} {l1 l2 : List Prop} {a : α} {r : Except AExc β} (h : m A = some (l1, A1, .ok a)) (h2 : f a A1 = some (l2, A2, r)) : m.bind f A = some (l1 ++ l2, A2, r) := by
  unfold M.bind
  rw [h]
  dsimp only
  rw [h2]
theorem bind_err {A A1 : AH} {l1 : List Prop} {x : AExc} (h : m A = some (l1, A1, .error x)) : m.bind f A = some (l1, A1, .error x) := by
  unfold M.bind
  rw [h]
theorem Le.bind (h : Le m' m) (hf : ∀ a, Le (f' a) (f a)) : Le (m'.bind f') (m.bind f) := by
  intro A l A' r e hl
  rcases bind_some e with ⟨x, e1, rfl⟩ | ⟨l1, A1, a, l2, e1, e2, rfl⟩
  · obtain ⟨l', h1, h2⟩ := h A l A' _ e1 hl
    exact ⟨l', bind_err h1, h2⟩
  · obtain ⟨l', h1, h2⟩ := h A l1 A1 _ e1 fun p hp => hl p (List.mem_append_left _ hp)
    obtain ⟨l'', h3, h4⟩ := hf a A1 l2 A' r e2 fun p hp => hl p (List.mem_append_right _ hp)
    exact ⟨l' ++ l'', bind_ok h1 h3, fun p hp => (List.mem_append.mp hp).elim (h2 p) (h4 p)⟩
theorem Le.bind1 (hf : ∀ a, Le (f' a) (f a)) : Le (m.bind f') (m.bind f) := (Le.refl m).bind hf
theorem Still.bind (h : Still m) (hf : ∀ a, Still (f a)) : Still (m.bind f) := by
  intro A l A' r e
  rcases bind_some e with ⟨x, e1, rfl⟩ | ⟨l1, A1, a, l2, e1, e2, rfl⟩
  · exact h _ _ _ _ e1
  · rw [hf a _ _ _ _ e2, h _ _ _ _ e1]
theorem still_pure {a : α} : Still (M.pure a) := fun A l A' r e => by cases e; rfl
theorem still_fail : Still (M.fail : M α) := fun A l A' r e => by cases e
theorem still_lift {g : AH → Option (α × AH)} (h : ∀ A z A', g A = some (z, A') → A' = A) : Still (M.lift g) := fun A l A' r e => by
  unfold M.lift at e
  cases hg : g A with
  | none => rw [hg] at e; cases e
  | some p =>
    obtain ⟨z, A1⟩ := p
    rw [hg] at e
    cases e
    exact h _ _ _ hg
theorem still_asB (x : AV) : Still (asB x) := by
  cases x with
  | bl b => exact still_pure
  | _ => exact still_fail
end
def Still2 (g : G2) : Prop := ∀ x y A z A', g x y A = some (z, A') → A' = A
theorem still_eq : Still2 gEq := fun x y A z A' e => by
  unfold gEq at e
  split at e <;> cases e
  rfl
theorem still_ne : Still2 gNe := fun x y A z A' e => by
  unfold gNe at e
  split at e <;> cases e
  rfl
theorem still_ix : Still2 gIx := fun x y A z A' e => by
  unfold gIx at e
  split at e
  · split at e
    · split at e <;> cases e
      rfl
    · cases e
  · split at e
    · split at e
      · split at e <;> cases e
        rfl
      · cases e
    · cases e
  · split at e
    · split at e
      · split at e <;> cases e
        rfl
      · cases e
    · split at e
      · split at e <;> cases e
        rfl
      · cases e
    · cases e
  · cases e
theorem still_bin {g : G2} {fa fb : ASt → M AV} (hg : Still2 g) (ha : ∀ s, Still (fa s)) (hb : ∀ s, Still (fb s)) (s : ASt) : Still (aBin g fa fb s) :=
  (ha s).bind fun x => (hb s).bind fun y => still_lift fun A z A' e => hg x y A z A' e
theorem still_var (i : Nat) (s : ASt) : Still (aVar i s) := by
  unfold aVar
  split
  · exact still_pure
  · exact still_fail
theorem still_c (x : AV) (s : ASt) : Still (aC x s) := still_pure
theorem still_val {fa : ASt → M AV} (h : ∀ s, Still (fa s)) (s : ASt) : Still (aVal fa s) := (h s).bind fun x => still_asB x
section
variable {X : Cx} {E : XK} {e : Expr} {f g : ASt → M AV} {p q : ASt → M Bool} {ss : List Stmt} {b c : ASt → M AOut}
theorem a_imp (h : PE X e (S X.K E f)) (le : ∀ s, Le (g s) (f s)) : PE X e (S X.K E g) := wE h fun σ H Q ⟨ρ, aσ, A, w, sr, y⟩ => ⟨ρ, aσ, A, w, sr, y.le (le aσ)⟩
theorem t_imp (h : PT X e (ST X.K E p)) (le : ∀ s, Le (q s) (p s)) : PT X e (ST X.K E q) := wT h fun σ H Q ⟨ρ, aσ, A, w, sr, y⟩ => ⟨ρ, aσ, A, w, sr, y.le (le aσ)⟩
theorem b_imp (h : PSs X ss (SS X.K E b)) (le : ∀ s, Le (c s) (b s)) : PSs X ss (SS X.K E c) := wSs h fun D σ H ⟨ρ, aσ, A, w, sr, y⟩ => ⟨ρ, aσ, A, w, sr, y.le (le aσ)⟩
end
/-! ### calls whose end is told -/
def Gives (g : List AV → M AV) (xs : List AV) (v : AV) : Prop := ∃ l A', g xs [] = some (l, A', .ok v) ∧ ∀ p ∈ l, p
def GivesE (g : List AV → M AV) (xs : List AV) (v : AExc) : Prop := ∃ l A', g xs [] = some (l, A', .error v) ∧ ∀ p ∈ l, p
theorem le_call {n : Nat} {g g' : List AV → M AV} {fl : ASt → M (List AV)} (h : ∀ xs, Le (g' xs) (g xs)) (s : ASt) : Le (aCall n g' fl s) (aCall n g fl s) := Le.bind1 fun xs => Le.bind1 fun _ => h xs
/-- a call apart, by its value -/
def aCallO (n : Nat) (g : List AV → M AV) (gv : List AV → AV) (fl : ASt → M (List AV)) : ASt → M AV := fun aσ => (fl aσ).bind fun xs A => some ([(AV.purs xs = true ∧ xs.length = n) ∧ (gv xs).pur = true ∧ Gives g xs (gv xs)], A, .ok (gv xs))
theorem apart_gives {n : Nat} {g : List AV → M AV} {xs : List AV} {v : AV} {A : AH} (h : (AV.purs xs = true ∧ xs.length = n) ∧ v.pur = true ∧ Gives g xs v) : ∃ l, ((M.chk (lenOk xs n)).bind fun _ => M.apart xs (g xs)) A = some (l, A, .ok v) ∧ ∀ p ∈ l, p := by
  obtain ⟨⟨h1, h2⟩, h3, l, A', h4, h5⟩ := h
  refine ⟨[] ++ l, bind_ok (a := ()) (l1 := []) (A1 := A) ?_ ?_, fun p hp => h5 p hp⟩
  · unfold M.chk lenOk
    rw [h2, Nat.beq_refl]
  · unfold M.apart
    rw [h1]
    dsimp only
    rw [h4]
    dsimp only
    rw [h3]
theorem le_callO {n : Nat} {g : List AV → M AV} {gv : List AV → AV} {fl : ASt → M (List AV)} (s : ASt) : Le (aCallO n g gv fl s) (aCallR n g fl s) := Le.bind1 fun xs A l A' r e hl => by
  cases e
  exact apart_gives (hl _ List.mem_cons_self)
theorem le_callOE {n : Nat} {g : List AV → M AV} {gv : List AV → AV} {fl : ASt → M (List AV)} (s : ASt) : Le (aCallO n g gv fl s) (aCallE n g fl s) := Le.bind1 fun xs A l A' r e hl => by
  cases e
  have h := hl _ List.mem_cons_self
  have : M.either xs (g xs) = M.apart xs (g xs) := funext fun A => by unfold M.either; rw [h.1.1]
  rw [this]
  exact apart_gives h
/-- .. which ends by an exception -/
def aCallOX (n : Nat) (g : List AV → M AV) (v : AExc) (fl : ASt → M (List AV)) : ASt → M AV := fun aσ => (fl aσ).bind fun xs A => some ([(AV.purs xs = true ∧ xs.length = n) ∧ AV.purs v.vs = true ∧ GivesE g xs v], A, .error v)
theorem le_callOX {n : Nat} {g : List AV → M AV} {v : AExc} {fl : ASt → M (List AV)} (s : ASt) : Le (aCallOX n g v fl s) (aCallR n g fl s) := Le.bind1 fun xs A l A' r e hl => by
  cases e
  obtain ⟨⟨h1, h2⟩, h3, l, A', h4, h5⟩ := hl _ List.mem_cons_self
  refine ⟨[] ++ l, bind_ok (a := ()) (l1 := []) (A1 := A) ?_ ?_, fun p hp => h5 p hp⟩
  · unfold M.chk lenOk
    rw [h2, Nat.beq_refl]
  · unfold M.apart
    rw [h1]
    dsimp only
    rw [h4]
    dsimp only
    rw [h3]
/-- what a run gives -/
def valG (g : List AV → M AV) (xs : List AV) : AV := match g xs [] with
  | some (_, _, .ok v) => v
  | _ => .non
/-- a call by its value, where nothing own is handed -/
def aCallK (n : Nat) (g : List AV → M AV) (v : AV) (fl : ASt → M (List AV)) : ASt → M AV := fun aσ => (fl aσ).bind fun xs A => match AV.purs xs with
  | true => some ([(AV.purs xs = true ∧ xs.length = n) ∧ v.pur = true ∧ Gives g xs v], A, .ok v)
  | false => ((M.chk (lenOk xs n)).bind fun _ => M.either xs (g xs)) A
theorem le_callK {n : Nat} {g : List AV → M AV} {v : AV} {fl : ASt → M (List AV)} (s : ASt) : Le (aCallK n g v fl s) (aCallE n g fl s) := Le.bind1 fun xs A l A' r e hl => by
  cases hp : AV.purs xs with
  | true =>
    rw [hp] at e
    cases e
    have h := hl _ List.mem_cons_self
    obtain ⟨l', h1, h2⟩ := apart_gives (n := n) (A := A) ⟨⟨hp, h.1.2⟩, h.2⟩
    refine ⟨l', ?_, h2⟩
    have : M.either xs (g xs) = M.apart xs (g xs) := funext fun A => by unfold M.either; rw [hp]
    rw [this]
    exact h1
  | false =>
    rw [hp] at e
    exact ⟨l, e, hl⟩
/-! ### tests that are not asked for -/
/-- whether two values are equal, if so whatever the own heap is -/
def eqV (x y : AV) : Bool := match eqX [] x y with
  | some b => b
  | none => false
def aEqO (fa fb : ASt → M AV) : ASt → M AV := fun aσ => (fa aσ).bind fun x => (fb aσ).bind fun y A => some ([∀ A, eqX A x y = some (eqV x y)], A, .ok (.bl (eqV x y)))
def aNeO (fa fb : ASt → M AV) : ASt → M AV := fun aσ => (fa aσ).bind fun x => (fb aσ).bind fun y A => some ([∀ A, eqX A x y = some (eqV x y)], A, .ok (.bl (!eqV x y)))
theorem le_eqO {fa fb : ASt → M AV} (s : ASt) : Le (aEqO fa fb s) (aBin gEq fa fb s) := Le.bind1 fun x => Le.bind1 fun y A l A' r e hl => by
  cases e
  refine ⟨[], ?_, nofun⟩
  unfold M.lift gEq
  rw [hl _ List.mem_cons_self A]
theorem le_neO {fa fb : ASt → M AV} (s : ASt) : Le (aNeO fa fb s) (aBin gNe fa fb s) := Le.bind1 fun x => Le.bind1 fun y A l A' r e hl => by
  cases e
  refine ⟨[], ?_, nofun⟩
  unfold M.lift gNe
  rw [hl _ List.mem_cons_self A]
theorem still_neO {fa fb : ASt → M AV} (ha : ∀ s, Still (fa s)) (hb : ∀ s, Still (fb s)) (s : ASt) : Still (aNeO fa fb s) := (ha s).bind fun x => (hb s).bind fun y A l A' r e => by cases e; rfl
theorem Le.trans {α : Type} {a b c : M α} (h : Le a b) (k : Le b c) : Le a c := fun A l A' r e hl => by
  obtain ⟨l', e', hl'⟩ := h A l A' r e hl
  exact k A l' A' r e' hl'
/-- a or b, both asked -/
def aOrL (f g : ASt → M Bool) : ASt → M Bool := fun aσ A => match f aσ A with
  | some (l1, A1, .ok b) => match g aσ A1 with
    | some (l2, _, .ok c) => some (l1 ++ l2, A1, .ok (b || c))
    | _ => none
  | _ => none
theorem le_orL {f g h : ASt → M Bool} (st : ∀ s, Still (g s)) (le : ∀ s, Le (g s) (h s)) (s : ASt) : Le (aOrL f g s) (aOr f h s) := by
  intro A l A' r e hl
  unfold aOrL at e
  split at e
  · rename_i l1 A1 b e1
    split at e
    · rename_i l2 A2 c e2
      cases e
      cases b with
      | true => exact ⟨l1 ++ [], bind_ok e1 rfl, fun p hp => hl p (List.mem_append_left _ (by simpa using hp))⟩
      | false =>
        have := st s _ _ _ _ e2
        subst this
        obtain ⟨l', e3, h3⟩ := le s _ _ _ _ e2 fun p hp => hl p (List.mem_append_right _ hp)
        exact ⟨l1 ++ l', bind_ok e1 e3, fun p hp => (List.mem_append.mp hp).elim (fun q => hl p (List.mem_append_left _ q)) (h3 p)⟩
    · cases e
  · cases e
theorem still_orL {f g : ASt → M Bool} (hf : ∀ s, Still (f s)) (s : ASt) : Still (aOrL f g s) := by
  intro A l A' r e
  unfold aOrL at e
  split at e
  · rename_i l1 A1 b e1
    split at e
    · cases e
      exact hf _ _ _ _ _ e1
    · cases e
  · cases e
/-- a and b, both asked -/
def aAndL (fa fb : ASt → M AV) : ASt → M AV := fun aσ A => match fa aσ A with
  | some (l1, A1, .ok (.bl b)) => match fb aσ A1 with
    | some (l2, _, .ok (.bl c)) => some (l1 ++ l2, A1, .ok (.bl (b && c)))
    | _ => none
  | _ => none
theorem le_andL {fa fb ga gb : ASt → M AV} (lea : ∀ s, Le (fa s) (ga s)) (st : ∀ s, Still (fb s)) (le : ∀ s, Le (fb s) (gb s)) (s : ASt) : Le (aAndL fa fb s) (aAndV ga gb s) := by
  intro A l A' r e hl
  unfold aAndL at e
  split at e
  · rename_i l1 A1 b e1
    split at e
    · rename_i l2 A2 c e2
      cases e
      obtain ⟨l0, e0, h0⟩ := lea s _ _ _ _ e1 fun p hp => hl p (List.mem_append_left _ hp)
      cases b with
      | false => exact ⟨l0 ++ ([] ++ []), bind_ok e0 (bind_ok (a := false) (l1 := []) rfl rfl), fun p hp => h0 p (by simpa using hp)⟩
      | true =>
        have := st s _ _ _ _ e2
        subst this
        obtain ⟨l', e3, h3⟩ := le s _ _ _ _ e2 fun p hp => hl p (List.mem_append_right _ hp)
        exact ⟨l0 ++ ([] ++ l'), bind_ok e0 (bind_ok (a := true) (l1 := []) rfl e3), fun p hp => (List.mem_append.mp hp).elim (h0 p) fun q => h3 p (by simpa using q)⟩
    · cases e
  · cases e
/-- `if c: return False`, and the rest, both done -/
def bGuardL (c : ASt → M Bool) (rest : ASt → M AOut) : ASt → M AOut := fun aσ A => match c aσ A with
  | some (l1, A1, .ok b) => match rest aσ A1 with
    | some (l2, A2, .ok (.rt (.bl r))) => some (l1 ++ l2, bif b then A1 else A2, .ok (.rt (.bl (!b && r))))
    | _ => none
  | _ => none
theorem le_guardL {c : ASt → M Bool} {rest : ASt → M AOut} (s : ASt) : Le (bGuardL c rest s) (bSeq (bIf c (bRet (aC (.bl false))) bNext) rest s) := by
  intro A l A' r e hl
  unfold bGuardL at e
  split at e
  · rename_i l1 A1 b e1
    split at e
    · rename_i l2 A2 k e2
      cases e
      cases b with
      | true => exact ⟨(l1 ++ ([] ++ [])) ++ [], bind_ok (bind_ok e1 (bind_ok (l1 := []) rfl rfl)) rfl, fun p hp => hl p (List.mem_append_left _ (by simpa using hp))⟩
      | false => exact ⟨(l1 ++ []) ++ l2, bind_ok (bind_ok e1 rfl) e2, fun p hp => hl p (by simpa using hp)⟩
    · cases e
  · cases e
end AX

set_option Elab.async false
set_option linter.all false
set_option maxRecDepth 100000
set_option maxHeartbeats 4000000
/-! AX46: a call whose new own objects are forgotten. -/
namespace AX
open PySem PySem.Spec PyProof.Rows L2
mutual
def AV.lies (n : Nat) : AV → Bool
  | .ref i => Nat.blt i n
  | .tup xs => AV.liesA n xs
  | .tud xs => AV.liesA n xs
  | .lsf xs => AV.liesA n xs
  | _ => true
def AV.liesA (n : Nat) : List AV → Bool
  | [] => true
  | x :: xs => x.lies n && AV.liesA n xs
end
def AO.lies (n : Nat) : AO → Bool
  | .lst xs => AV.liesA n xs
  | .dK _ xs => AV.liesA n xs
  | .ins _ _ xs => AV.liesA n xs
  | .dT _ _ xs => AV.liesA n xs
  | .slt _ xs => AV.liesA n xs
  | .tab _ _ => true
section
variable {K : PySem.W.Frag} {ρ ρ' : List Addr} {H : Hp} {A : AH}
mutual
theorem VR.cut (n : Nat) : ∀ {x : AV} {v : V}, VR K ρ H x v → x.lies n = true → VR K (ρ.take n) H x v
  | _, _, .non, _ => .non
  | _, _, .bl b, _ => .bl b
  | _, _, .int i, _ => .int i
  | _, _, .str x, _ => .str x
  | _, _, .tup h hs, e => .tup h (VRs.cutN n hs (by unfold AV.lies at e; exact e))
  | _, _, .tud h hs, e => .tud h (VRs.cutN n hs (by unfold AV.lies at e; exact e))
  | _, _, .lsf h hs, e => .lsf h (VRs.cutN n hs (by unfold AV.lies at e; exact e))
  | _, _, .ref h, e => .ref (by
    unfold AV.lies at e
    rw [List.getElem?_take, if_pos (Nat.blt_eq.mp e)]
    exact h)
  | _, _, .fn n, _ => .fn n
  | _, _, .ty n, _ => .ty n
theorem VRs.cutN (n : Nat) : ∀ {xs : List AV} {vs : List V}, VRs K ρ H xs vs → AV.liesA n xs = true → VRs K (ρ.take n) H xs vs
  | _, _, .nil, _ => .nil
  | _, _, .cons h hs, e => .cons (VR.cut n h (by unfold AV.liesA at e; exact (He.ba e).1)) (VRs.cutN n hs (by unfold AV.liesA at e; exact (He.ba e).2))
end
theorem OR.cut (n : Nat) {a : Addr} {o : AO} (h : OR K ρ H a o) (e : o.lies n = true) : OR K (ρ.take n) H a o := by
  cases o with
  | lst xs => obtain ⟨vs, q, r⟩ := h; exact ⟨vs, q, r.cutN n e⟩
  | dK ks xs => obtain ⟨vs, q, r1, r⟩ := h; exact ⟨vs, q, r1, r.cutN n e⟩
  | ins c ns xs => obtain ⟨dx, fs, q, r1, r⟩ := h; exact ⟨dx, fs, q, r1, r.cutN n e⟩
  | dT w ks xs => obtain ⟨q, kvs, h1, h2, h3, h4, h5⟩ := h; exact ⟨q, kvs, h1, h2, h3, h4, h5.cutN n e⟩
  | slt c xs => obtain ⟨dx, vs, h1, h2, h3⟩ := h; exact ⟨dx, vs, h1, h2, h3.cutN n e⟩
  | tab P q => exact h
end
def M.drop (m : M AV) : M AV := fun A => match m A with
  | some (l, A', .ok v) => some ((Nat.ble A.length A'.length = true ∧ (A'.take A.length).all (AO.lies A.length) = true ∧ v.lies A.length = true) :: l, A'.take A.length, .ok v)
  | _ => none
theorem Yes.drop {K : PySem.W.Frag} {ρ : List Addr} {H : Hp} {A : AH} {m : M AV} {Q : VK} {x : AExc → AH → Prop} (w : Wd K ρ H A) (y : Yes (M.drop m) A (fun v A' => Post K (VR K) ρ H v A' Q) x) : Yes m A (fun v A' => Post K (VR K) ρ H v A' Q) x := by
  obtain ⟨l, A', r, e, hl, q⟩ := y
  unfold M.drop at e
  split at e
  · rename_i l1 A1 v e1
    cases e
    obtain ⟨h1, h2, h3⟩ := hl _ List.mem_cons_self
    refine ⟨l1, A1, .ok v, e1, fun p hp => hl p (List.mem_cons_of_mem _ hp), fun ρ' H' u g w' rv => ?_⟩
    have le : A.length ≤ A1.length := Nat.le_of_ble_eq_true h1
    obtain ⟨n, en, hn⟩ := g.pre
    refine q (ρ'.take A.length) H' u ⟨⟨[], ?_, nofun⟩, g.keep, g.dom, g.tx⟩ ⟨?_, ?_, fun i a o hi ho => ?_⟩ (rv.cut _ h3)
    · rw [en, ← w.len, List.append_nil, List.take_left']
      rfl
    · rw [List.length_take, List.length_take, w'.len]
    · exact w'.nd.sublist (List.take_sublist _ _)
    · have hi' : i < A.length := by
        have := (List.getElem?_eq_some_iff.mp hi).1
        rw [List.length_take] at this
        omega
      rw [List.getElem?_take, if_pos hi'] at hi
      have ho2 := ho
      rw [List.getElem?_take, if_pos hi'] at ho2
      exact (w'.at_ i a o hi ho2).cut _ (List.all_eq_true.mp h2 o (List.mem_of_getElem? ho))
  · cases e
theorem CalA.drop {P : Program} {w : World} {K : PySem.W.Frag} {mg : Str → Option Value} {base : Heap} {k n : Nat} {x : Str} {g : List AV → M AV} (c : CalA P w K mg base k x n g) : CalA P w K mg base k x n (fun xs => M.drop (g xs)) := by
  obtain ⟨fd, ps, F, r⟩ := c.ex
  exact ⟨fd, ps, F.imp fun vs H Q E ⟨hl, ρ, A, xs, wd, rv, y⟩ => ⟨hl, ρ, A, xs, wd, rv, y.drop wd⟩, r⟩
end AX

set_option Elab.async false
set_option linter.all false
set_option maxRecDepth 100000
set_option maxHeartbeats 4000000
/-! AX48: a list made longer by a tuple. -/
namespace AX
open PySem PySem.Spec PyProof.Rows L2 PySem.AutoSeq1
theorem ext_tup {dd : Option Addr} {sl : Array (Option Value)} (l : Addr) (items : Array Value) (n : Nat) (b : Addr) (more : Array Value) (m : Nat) (hs0 : ¬(!items.isEmpty && Builtin.List.listTooLong (items.size + more.size)) = true) (hs1 : items.size ≤ sizeLine) (hs2 : items.size + more.size ≤ sizeLine + 1) :
    Meets (Builtin.«list.extend» ⟨[.ref l, .ref b], []⟩) (fun _ R s => s.heap.get? l = some { cls := .type "list", dict := none, data := .seq items n, slots := #[] } ∧ s.heap.get? b = some ⟨.type "tuple", dd, .seq more m, sl⟩ ∧ R (.ok (.ret Value.none)) { s with heap := s.heap.update l (Obj.mapSeq fun x => x ++ more), toks := s.toks }) :=
  .of_wp fun prog w A R s h => by
    obtain ⟨hp, g, d, tk, os⟩ := s
    obtain ⟨hl, hb, h⟩ := h
    have f1 := idx_int
    have f2 := PySem.AutoSeq1.sub_tuple_tuple
    have f3 := PySem.AutoSeq1.sub_list_list
    have f4 := PySem.AutoSeq1.sub_tuple_list
    have f5 := PySem.AutoSeq1.sub_list_tuple
    have hz' : (items ++ more).size ≤ sizeLine + 1 := by rw [Array.size_append]; exact hs2
    wp_walk using (wpAny_updateSeq hl rfl (hz := hs1) (_hz' := hz')), PySem.AutoSeq1.wpAny_loadPart' hl, PySem.AutoSeq1.wpAny_loadPart' hb
    exact ⟨_, rfl, h⟩
def rExtT (K : PySem.W.Frag) : V → List V → Hp → VK → Prop := fun x vs H Q => ∃ l b xs zs, x = .ref l ∧ vs = [.ref b] ∧ H l = some (.lst xs) ∧ SqT K H b zs ∧ xs.length + zs.length ≤ sizeLine ∧ Q .non (upd H l (.lst (xs ++ zs)))
theorem mt_extT {X : Cx} : MtM X "list.extend" (rExtT X.K) := by
  intro pins s σ H x vs v us Q I rx rv h
  obtain ⟨l, b, xs, zs, rfl, rfl, hH, hB, hz, q⟩ := h
  cases rx
  obtain ⟨u, rfl, ru⟩ := rv.one
  cases ru
  obtain ⟨z, its, n, r, hl, e⟩ := I.lstM hH
  obtain ⟨its2, r2, ⟨⟨cls2, dd2, data2, sl2⟩, ho2, hc2, n2, hd2⟩, _⟩ := I.tuple hB
  simp only at hc2 hd2
  subst hc2 hd2
  have hl2 := r2.length
  have hsz : its.toArray.size + its2.toArray.size ≤ sizeLine := by rw [List.size_toArray, List.size_toArray]; omega
  have hlong : ¬ (!its.toArray.isEmpty && Builtin.List.listTooLong (its.toArray.size + its2.toArray.size)) = true := by
    rw [notLongL hsz, Bool.and_false]
    exact Bool.false_ne_true
  refine call_meets PySem.F.slot_list_extend ⟨_, e, rfl⟩ PySem.F.entry_list_extend (PySem.F.args_list_extend_2 _ _)
    (ext_tup l its.toArray n b its2.toArray n2 hlong (by rw [List.size_toArray]; omega) (by omega)) ⟨e, ho2, ?_⟩
  refine ⟨.non, _, I.lset (its' := its ++ its2) hH e (by simp) (r.append r2) ?_, rfl, q⟩
  rw [List.length_append]
  omega
def gExtT : GM := fun x xs A => match x, xs with
  | .ref i, [.tup zs] => match A[i]? with
    | some (.lst ys) => match szOk (ys.length + zs.length) with
      | true => some (.non, A.set i (.lst (ys ++ zs)))
      | false => none
    | _ => none
  | _, _ => none
theorem r_extT {K : PySem.W.Frag} : RMA K (rExtT K) gExtT := by
  intro ρ H A x xs v vs z A' Q w rx r e q
  unfold gExtT at e
  split at e
  · split at e
    · rename_i hi
      split at e
      · rename_i hz
        cases e
        obtain ⟨u, rfl, r1⟩ := r.l1
        obtain ⟨a, ws, rfl, ha, h1, r2⟩ := w.lst rx hi
        obtain ⟨b, zs, rfl, h3, r3⟩ := r1.tup_eq
        exact ⟨a, b, ws, zs, rfl, rfl, h1, h3, by rw [← r2.length, ← r3.length]; exact szOk_of hz, finS w ha (r2.append r3) .non q⟩
      · cases e
    · cases e
  · cases e
end AX

set_option Elab.async false
set_option linter.all false
set_option maxRecDepth 100000
set_option maxHeartbeats 4000000
/-! AX47: that a run ends, step by step. -/
namespace AX
open PySem PySem.Spec PyProof.Rows L2
section
variable {α β : Type} {m : M α} {f : α → M β} {A A' : AH} {x : AExc → AH → Prop}
theorem y_of {k : α → AH → Prop} {l : List Prop} {v : α} (h : m A = some (l, A', .ok v)) (hl : ∀ p ∈ l, p) (q : k v A') : Yes m A k x := ⟨l, A', .ok v, h, hl, q⟩
theorem y_ofx {k : α → AH → Prop} {l : List Prop} {v : AExc} (h : m A = some (l, A', .error v)) (hl : ∀ p ∈ l, p) (q : x v A') : Yes m A k x := ⟨l, A', .error v, h, hl, q⟩
theorem y_pure {k : α → AH → Prop} {a : α} (q : k a A) : Yes (M.pure a) A k x := y_of rfl nofun q
theorem y_bind {k : β → AH → Prop} (h : Yes m A (fun a A1 => Yes (f a) A1 k x) x) : Yes (m.bind f) A k x := by
  obtain ⟨l, A1, r, e, hl, q⟩ := h
  cases r with
  | error e1 => exact ⟨l, A1, .error e1, bind_err e, hl, q⟩
  | ok a =>
    obtain ⟨l2, A2, r2, e2, hl2, q2⟩ := q
    exact ⟨l ++ l2, A2, r2, bind_ok e e2, fun p hp => (List.mem_append.mp hp).elim (hl p) (hl2 p), q2⟩
theorem y_lift {k : α → AH → Prop} {g : AH → Option (α × AH)} {z : α} (h : g A = some (z, A')) (q : k z A') : Yes (M.lift g) A k x := y_of (l := []) (by unfold M.lift; rw [h]) nofun q
theorem y_get {k : α → AH → Prop} {g : AH → Option α} {z : α} (h : g A = some z) (q : k z A) : Yes (M.get g) A k x := y_of (l := []) (by unfold M.get; rw [h]) nofun q
theorem y_opt {k : α → AH → Prop} {g : Option α} {z : α} (h : g = some z) (q : k z A) : Yes (M.opt g) A k x := y_of (l := []) (by unfold M.opt; rw [h]) nofun q
theorem y_chk {k : Unit → AH → Prop} {p : AH → Bool} (h : p A = true) (q : k () A) : Yes (M.chk p) A k x := y_of (l := []) (by unfold M.chk; rw [h]) nofun q
theorem y_asB {k : Bool → AH → Prop} {b : Bool} (q : k b A) : Yes (asB (.bl b)) A k x := y_pure q
theorem y_nox {k : α → AH → Prop} (h : Yes m A k (fun _ _ => False)) : Yes m.nox A k x := by
  obtain ⟨l, A1, r, e, hl, q⟩ := h
  cases r with
  | error e1 => exact q.elim
  | ok a => exact y_of (l := l) (by unfold M.nox; rw [e]) hl q
end
section
variable {A : AH} {x : AExc → AH → Prop} {s : ASt} {fa fb fc fo fi : ASt → M AV} {fl : ASt → M (List AV)} {c : ASt → M Bool} {f g : ASt → M AOut}
theorem y_var {k : AV → AH → Prop} {i : Nat} {v : AV} (h : s[i]? = some (some v)) (q : k v A) : Yes (aVar i s) A k x := y_of (l := []) (by unfold aVar; rw [h]; rfl) nofun q
theorem y_c {k : AV → AH → Prop} {v : AV} (q : k v A) : Yes (aC v s) A k x := y_pure q
theorem y_bin {k : AV → AH → Prop} {g : G2} (q : Yes (fa s) A (fun u A1 => Yes (fb s) A1 (fun v A2 => ∃ z A3, g u v A2 = some (z, A3) ∧ k z A3) x) x) : Yes (aBin g fa fb s) A k x :=
  y_bind (q.mono (fun u A1 q1 => y_bind (q1.mono (fun v A2 ⟨z, A3, h, q2⟩ => y_lift h q2) fun _ _ q => q)) fun _ _ q => q)
theorem y_un {k : AV → AH → Prop} {g : G1} (q : Yes (fa s) A (fun u A1 => ∃ z A3, g u A1 = some (z, A3) ∧ k z A3) x) : Yes (aUn g fa s) A k x :=
  y_bind (q.mono (fun v A2 ⟨z, A3, h, q2⟩ => y_lift h q2) fun _ _ q => q)
theorem y_cb {k : AV → AH → Prop} {g : GL} (q : Yes (fl s) A (fun u A1 => ∃ z A3, g u A1 = some (z, A3) ∧ k z A3) x) : Yes (aCB g fl s) A k x :=
  y_bind (q.mono (fun v A2 ⟨z, A3, h, q2⟩ => y_lift h q2) fun _ _ q => q)
theorem y_val {k : Bool → AH → Prop} (q : Yes (fa s) A (fun v A1 => ∃ b, v = .bl b ∧ k b A1) x) : Yes (aVal fa s) A k x :=
  y_bind (q.mono (fun v A2 ⟨b, h, q2⟩ => by subst h; exact y_asB q2) fun _ _ q => q)
theorem y_nil {k : List AV → AH → Prop} (q : k [] A) : Yes (aNil s) A k x := y_pure q
theorem y_cons {k : List AV → AH → Prop} (q : Yes (fa s) A (fun u A1 => Yes (fl s) A1 (fun us A2 => k (u :: us) A2) x) x) : Yes (aCons fa fl s) A k x :=
  y_bind (q.mono (fun u A1 q1 => y_bind (q1.mono (fun v A2 q2 => y_pure q2) fun _ _ q => q)) fun _ _ q => q)
theorem y_one {k : List AV → AH → Prop} (q : Yes (fa s) A (fun u A1 => k [u] A1) x) : Yes (aCons fa aNil s) A k x := y_cons (q.mono (fun _ _ q => y_nil q) fun _ _ q => q)
theorem y_tup {k : AV → AH → Prop} (q : Yes (fl s) A (fun us A1 => szOk us.length = true ∧ k (.tup us) A1) x) : Yes (aTup fl s) A k x :=
  y_bind (q.mono (fun v A2 ⟨h, q2⟩ => y_lift (by unfold gTupOf; rw [h]) q2) fun _ _ q => q)
theorem y_lst {k : AV → AH → Prop} (q : Yes (fl s) A (fun us A1 => szOk us.length = true ∧ k (.ref A1.length) (A1 ++ [.lst us])) x) : Yes (aLst fl s) A k x :=
  y_bind (q.mono (fun v A2 ⟨h, q2⟩ => y_lift (by unfold gLstOf; rw [h]) q2) fun _ _ q => q)
theorem y_part {k : Option Int → AH → Prop} (q : Yes (fa s) A (fun u A1 => ∃ i, u = .int i ∧ k (some i) A1) x) : Yes (aPart fa s) A k x :=
  y_bind (q.mono (fun v A2 ⟨i, h, q2⟩ => by subst h; exact y_pure q2) fun _ _ q => q)
theorem y_noPart {k : Option Int → AH → Prop} (q : k none A) : Yes (aNoPart s) A k x := y_pure q
theorem y_sl {k : AV → AH → Prop} {fl fh : ASt → M (Option Int)} (q : Yes (fa s) A (fun u A1 => Yes (fl s) A1 (fun l A2 => Yes (fh s) A2 (fun h A3 => ∃ z A4, gSl l h u A3 = some (z, A4) ∧ k z A4) x) x) x) : Yes (aSl fa fl fh s) A k x :=
  y_bind (q.mono (fun u A1 q1 => y_bind (q1.mono (fun l A2 q2 => y_bind (q2.mono (fun h A3 ⟨z, A4, e, q3⟩ => y_lift e q3) fun _ _ q => q)) fun _ _ q => q)) fun _ _ q => q)
theorem y_seq {k : AOut → AH → Prop} (q : Yes (f s) A (fun o A1 => match o with
    | .nx s1 => Yes (g s1) A1 k x
    | o => k o A1) x) : Yes (bSeq f g s) A k x := by
  refine y_bind (q.mono (fun o A1 q1 => ?_) fun _ _ q => q)
  cases o with
  | nx s1 => exact q1
  | _ => exact y_pure q1
theorem y_set {k : AOut → AH → Prop} {i : Nat} (q : Yes (fa s) A (fun v A1 => k (.nx (s.set i (some v))) A1) x) : Yes (bSet i fa s) A k x := y_bind (q.mono (fun v A1 q => y_pure q) fun _ _ q => q)
theorem y_ret {k : AOut → AH → Prop} (q : Yes (fa s) A (fun v A1 => k (.rt v) A1) x) : Yes (bRet fa s) A k x := y_bind (q.mono (fun v A1 q => y_pure q) fun _ _ q => q)
theorem y_next {k : AOut → AH → Prop} (q : k (.nx s) A) : Yes (bNext s) A k x := y_pure q
theorem y_drop {k : AOut → AH → Prop} (q : Yes (fa s) A (fun v A1 => k (.nx s) A1) x) : Yes (bDrop fa s) A k x := y_bind (q.mono (fun v A1 q => y_pure q) fun _ _ q => q)
theorem y_if {k : AOut → AH → Prop} (q : Yes (c s) A (fun b A1 => match b with
    | true => Yes (f s) A1 k x
    | false => Yes (g s) A1 k x) x) : Yes (bIf c f g s) A k x := by
  refine y_bind (q.mono (fun b A1 q1 => ?_) fun _ _ q => q)
  cases b with
  | true => exact q1
  | false => exact q1
theorem y_aif {k : AV → AH → Prop} (q : Yes (c s) A (fun b A1 => match b with
    | true => Yes (fa s) A1 k x
    | false => Yes (fb s) A1 k x) x) : Yes (aIf c fa fb s) A k x := by
  refine y_bind (q.mono (fun b A1 q1 => ?_) fun _ _ q => q)
  cases b with
  | true => exact q1
  | false => exact q1
theorem y_asgSub {k : AOut → AH → Prop} {g : AV → AV → AV → AH → Option AH} (q : Yes (fa s) A (fun v A1 => Yes (fo s) A1 (fun o A2 => Yes (fi s) A2 (fun i A3 => ∃ A4, g o i v A3 = some A4 ∧ k (.nx s) A4) x) x) x) : Yes (bAsg fa (agSub fo fi g) s) A k x :=
  y_bind (q.mono (fun v A1 q1 => y_bind (y_bind (q1.mono (fun o A2 q2 => y_bind (q2.mono (fun i A3 ⟨A4, e, q3⟩ => y_bind (y_lift (z := ()) (A' := A4) (by rw [e]; rfl) (y_pure (y_pure q3)))) fun _ _ q => q)) fun _ _ q => q))) fun _ _ q => q)
theorem y_augS {k : AOut → AH → Prop} {fv : ASt → M AV} (q : Yes (fo s) A (fun o A1 => Yes (fi s) A1 (fun i A2 => isLst o A2 = true ∧ ∃ u A3, gIx o i A2 = some (u, A3) ∧ Yes (fv s) A3 (fun y A4 => ∃ z A5, gAddI u y A4 = some (z, A5) ∧ ∃ A6, gSetI o i z A5 = some A6 ∧ k (.nx s) A6) x) x) x) : Yes (bAugS fo fi fv s) A k x :=
  y_bind (q.mono (fun o A1 q1 => y_bind (q1.mono (fun i A2 ⟨h1, u, A3, h2, q2⟩ => y_bind (y_chk h1 (y_bind (y_lift h2 (y_bind (q2.mono (fun y A4 ⟨z, A5, h3, A6, h4, q3⟩ => y_bind (y_lift h3 (y_bind (y_lift (z := ()) (A' := A6) (by rw [h4]; rfl) (y_pure q3))))) fun _ _ q => q)))))) fun _ _ q => q)) fun _ _ q => q)
theorem y_call {k : AV → AH → Prop} {n : Nat} {g : List AV → M AV} (q : Yes (fl s) A (fun us A1 => us.length = n ∧ Yes (g us) A1 k x) x) : Yes (aCall n g fl s) A k x :=
  y_bind (q.mono (fun v A2 ⟨h, q2⟩ => y_bind (y_chk (by unfold lenOk; rw [h]; exact Nat.beq_refl _) q2)) fun _ _ q => q)
theorem y_run {k : AV → AH → Prop} {n : Nat} {r : ASt → M AOut} {xs : List AV} (q : Yes (r (startA n xs)) A (fun o A1 => match o with
    | .rt v => k v A1
    | .nx _ => k .non A1
    | _ => False) x) : Yes (runB n r xs) A k x := by
  refine y_bind (q.mono (fun o A1 q1 => ?_) fun _ _ q => q)
  cases o with
  | rt v => exact y_pure q1
  | nx v => exact y_pure q1
  | _ => exact q1.elim
theorem y_mt {k : AV → AH → Prop} {p : AV → AH → Bool} {g : GM} (q : Yes (fo s) A (fun o A1 => p o A1 = true ∧ Yes (fl s) A1 (fun us A2 => ∃ z A3, g o us A2 = some (z, A3) ∧ k z A3) x) x) : Yes (aMt p g fo fl s) A k x :=
  y_bind (q.mono (fun o A1 ⟨h, q1⟩ => y_bind (y_chk h (y_bind (q1.mono (fun us A2 ⟨z, A3, e, q2⟩ => y_lift e q2) fun _ _ q => q)))) fun _ _ q => q)
theorem y_par {k : AOut → AH → Prop} {i j : Nat} (q : Yes (fl s) A (fun us A1 => ∃ u v, us = [u, v] ∧ k (.nx ((s.set i (some u)).set j (some v))) A1) x) : Yes (bPar i j fl s) A k x :=
  y_bind (q.mono (fun us A1 ⟨u, v, h, q⟩ => by subst h; exact y_pure q) fun _ _ q => q)
end
theorem y_forget {m : M AV} {A : AH} {k : AV → AH → Prop} {x : AExc → AH → Prop} (h : Yes m A (fun v A' => Nat.ble A.length A'.length = true ∧ (A'.take A.length).all (AO.lies A.length) = true ∧ v.lies A.length = true ∧ k v (A'.take A.length)) (fun _ _ => False)) : Yes (M.drop m) A k x := by
  obtain ⟨l, A1, r, e, hl, q⟩ := h
  cases r with
  | error e1 => exact q.elim
  | ok v =>
    obtain ⟨h1, h2, h3, q⟩ := q
    refine ⟨_, _, .ok v, by unfold M.drop; rw [e], fun p hp => ?_, q⟩
    rcases List.mem_cons.mp hp with e | h
    · rw [e]; exact ⟨h1, h2, h3⟩
    · exact hl p h
end AX

set_option Elab.async false
set_option linter.all false
set_option maxRecDepth 100000
set_option maxHeartbeats 4000000
namespace K95
open PySem PySem.Spec PyProof.Rows L2 AX
theorem sup_scope {N : List Str} {sc : Scope} (h1 : sc.kind = .function) (h2 : sc.isCoroutine = false) (h3 : sc.isGenerator = false) (h4 : N.Nodup) (h5 : ∀ x ∈ N, sc.names.lookup x = some .local) (h6 : ∀ x ∈ sc.names, x.2 ≠ .cell)
    (h7 : ∀ x ∈ sc.names, x.2 = .free → x.1 = "__class__") (h8 : sc.names.lookup ("super" : Str) = some .globalImplicit) (h9 : sc.names.lookup ("__class__" : Str) = some .free) : SupScope N sc :=
  ⟨h1, h2, h3, h4, h5, h6, fun y h => h7 (y, .free) (PySem.mem_of_lookup h) rfl, h8, h9⟩
theorem ss_BadWorld : SupScope n_BadWorld_init (defScope s_BadWorld_init) := sup_scope rfl rfl rfl (by decide +kernel) (by decide +kernel) (by decide +kernel) (by decide +kernel) (by decide +kernel) (by decide +kernel)
theorem ss_BadSight : SupScope n_BadSight_init (defScope s_BadSight_init) := sup_scope rfl rfl rfl (by decide +kernel) (by decide +kernel) (by decide +kernel) (by decide +kernel) (by decide +kernel) (by decide +kernel)
theorem ss_TooLarge : SupScope n_TooLarge_init (defScope s_TooLarge_init) := sup_scope rfl rfl rfl (by decide +kernel) (by decide +kernel) (by decide +kernel) (by decide +kernel) (by decide +kernel) (by decide +kernel)
variable {P : Program} {w : PySem.World} {K : PySem.W.Frag} {mg : Str → Option Value} {base : Heap}
theorem k_BadWorld (p : PF P) (h : Hd K mg) : ExcA P w K mg base 1 "BadWorld" ["fault"] := by
  have x := h.xk_BadWorld_init p
  obtain ⟨kV, doc, pm, an, ct, cda, cc, F⟩ := x.fn
  exact ⟨_, _, n_BadWorld_init, x.T, x.iC, x.tI, exc1 F ss_BadWorld x.T rfl rfl h.b_super p.sup h.opq x.hsi x.hB (x.hn _ (by decide +kernel)) (by decide) (by decide) (by intro L; rfl),
    .all fun us hl => (by match us, hl with | [_, _], _ => rfl), h.g_BadWorld⟩
theorem k_BadSight (p : PF P) (h : Hd K mg) : ExcA P w K mg base 1 "BadSight" ["fault"] := by
  have x := h.xk_BadSight_init p
  obtain ⟨kV, doc, pm, an, ct, cda, cc, F⟩ := x.fn
  exact ⟨_, _, n_BadSight_init, x.T, x.iC, x.tI, exc1 F ss_BadSight x.T rfl rfl h.b_super p.sup h.opq x.hsi x.hB (x.hn _ (by decide +kernel)) (by decide) (by decide) (by intro L; rfl),
    .all fun us hl => (by match us, hl with | [_, _], _ => rfl), h.g_BadSight⟩
theorem k_TooLarge (p : PF P) (h : Hd K mg) : ExcA P w K mg base 1 "TooLarge" ["what", "limit"] := by
  have x := h.xk_TooLarge_init p
  obtain ⟨kV, doc, pm, an, ct, cda, cc, F⟩ := x.fn
  exact ⟨_, _, n_TooLarge_init, x.T, x.iC, x.tI, exc2 F ss_TooLarge x.T rfl rfl h.b_super p.sup h.opq x.hsi x.hB (x.hn _ (by decide +kernel)) (x.hn _ (by decide +kernel)) (by decide) (by decide) (by decide) (by decide) (by intro L; rfl),
    .all fun us hl => (by match us, hl with | [_, _, _], _ => rfl), h.g_TooLarge⟩
end K95

set_option Elab.async false
set_option linter.all false
set_option maxRecDepth 100000
set_option maxHeartbeats 4000000
namespace K95
open PySem PySem.Spec PyProof.Rows L2 AX
def kv_LETTERS : AV := .str "abcdefghijklmnopqrstuvwxyz"
def kv_DIGITS : AV := .str "0123456789"
def kv_SIGNS : AV := .str "0123456789abcdefghijklmnopqrstuvwxyz"
def kv_RESERVED : AV := .tup [.str "ask", .str "call", .str "cell", .str "cells", .str "code", .str "def", .str "else", .str "give", .str "if", .str "jump", .str "last", .str "must", .str "read", .str "tell", .str "while"]
def kv_LONG : AV := .tup [.str "call", .str "last", .str "give"]
variable {P : Program} {w : PySem.World} {K : PySem.W.Frag} {mg : Str → Option Value} {base : Heap}
theorem vrs_strs {ρ : List Addr} {H : Hp} : ∀ l : List Str, VRs K ρ H (l.map .str) (l.map V.str)
  | [] => .nil
  | x :: l => .cons (.str x) (vrs_strs l)
theorem Hd.r_RESERVED (h : Hd K mg) : ∀ ρ H, VR K ρ H kv_RESERVED (.ref (He.ga K "RESERVED")) := fun ρ H => .tup (h.q_RESERVED H) (vrs_strs ["ask", "call", "cell", "cells", "code", "def", "else", "give", "if", "jump", "last", "must", "read", "tell", "while"])
theorem Hd.r_LONG (h : Hd K mg) : ∀ ρ H, VR K ρ H kv_LONG (.ref (He.ga K "LONG")) := fun ρ H => .tup (h.q_LONG H) (vrs_strs ["call", "last", "give"])
theorem a_slfE {X : Cx} {E : XK} {e : Expr} {fe : ASt → M AV} {c f : Str} {i : Nat} {pos : Pos} (hc : SlX.SCls X.K (He.ga X.K c)) (hs : ∃ p, SlX.Slot1 X.K (He.ga X.K c) f p i) (he : PE X e (S X.K E fe)) (hb : attributeBase e f X.env (eval e X.env) = eval e X.env := by rfl) :
    PE X (.Attribute e f pos) (S X.K E (aUn (gSlf c i) fe)) := let ⟨_, h⟩ := hs; a_slf hc h he hb
variable (hp : PF P)
include hp

def r_is_integer : ASt → M AOut := (bRet (aAndV (aCB gIsi (aCons (aVar 0) (aCons (aC (.ty .int)) aNil))) (aNotV (aCB gIsi (aCons (aVar 0) (aCons (aC (.ty .bool)) aNil))))))
def f_is_integer : List AV → M AV := runB 1 r_is_integer
theorem c_is_integer (h : Hd K mg) : CalA P w K mg base 1 "is_integer" 1 f_is_integer := cal_mk h.f_is_integer h.g_is_integer sc_is_integer (fun _ _ _ _ _ _ us hl => match us, hl with | [_], _ => rfl) (by
  intro cdv A outer s H E hr tk
  exact (b_one (s_ret (a_and (a_cb r_isi (pe_callB call_isi (by rfl) h.b_isinstance (by decide +kernel) (l_cons (a_var 0) (l_cons (a_ty .int (by rfl) h.b_int rfl) l_nil)))) (a_one (a_not (a_cb r_isi (pe_callB call_isi (by rfl) h.b_isinstance (by decide +kernel) (l_cons (a_var 0) (l_cons (a_ty .bool (by rfl) h.b_bool rfl) l_nil))))))))))
def r_is_register : ASt → M AOut := (bRet (aAndV (aCB gIsi (aCons (aVar 0) (aCons (aC (.ty .str)) aNil))) (aAndV (aBin gEq (aCB gLen (aCons (aVar 0) aNil)) (aC (.int 2))) (aAndV (aBin gEq (aBin gIx (aVar 0) (aC (.int 0))) (aC (.str "r"))) (aBin gIn (aBin gIx (aVar 0) (aC (.int 1))) (aC kv_DIGITS))))))
def f_is_register : List AV → M AV := runB 1 r_is_register
theorem c_is_register (h : Hd K mg) : CalA P w K mg base 1 "is_register" 1 f_is_register := cal_mk h.f_is_register h.g_is_register sc_is_register (fun _ _ _ _ _ _ us hl => match us, hl with | [_], _ => rfl) (by
  intro cdv A outer s H E hr tk
  exact (b_one (s_ret (a_and (a_cb r_isi (pe_callB call_isi (by rfl) h.b_isinstance (by decide +kernel) (l_cons (a_var 0) (l_cons (a_ty .str (by rfl) h.b_str rfl) l_nil)))) (a_and (a_cmp (o_eq hr.units) r_eq (a_cb r_len (pe_callB c_len (by rfl) h.b_len (by decide +kernel) (l_cons (a_var 0) l_nil))) a_int (nomark _)) (a_and (a_cmp (o_eq hr.units) r_eq (a_ix (hu_of hr) (a_var 0) a_int) a_str (nomark _)) (a_one (a_cmp (o_in (hu65 hr)) r_in (a_ix (hu_of hr) (a_var 0) a_int) (a_gc (by rfl) h.v_DIGITS (fun _ _ => .str _)) (by rfl)))))))))
def r_is_name : ASt → M AOut := (bSeq (bIf (aOr (aNot (aVal (aCB gIsi (aCons (aVar 0) (aCons (aC (.ty .str)) aNil))))) (aOr (aNot (aVal (aChain (gIB fun i j => decide (i ≤ j)) (gIB fun i j => decide (i ≤ j)) (aC (.int 1)) (aCB gLen (aCons (aVar 0) aNil)) (aC (.int 8))))) (aVal (aBin gNotIn (aBin gIx (aVar 0) (aC (.int 0))) (aC kv_LETTERS))))) (bRet (aC (.bl false))) bNext)
    (bRet (aAndV (aCB gAll (aCons (aLc (aIt (aVar 0)) (cName 1) aYes (aBin gIn (aVar 1) (aBin gAdd (aC kv_LETTERS) (aC kv_DIGITS))) [1]) aNil)) (aAndV (aNotV (aCallR 1 f_is_register (aCons (aVar 0) aNil))) (aBin gNotIn (aVar 0) (aC kv_RESERVED))))))
def f_is_name : List AV → M AV := runB 2 r_is_name
theorem c_is_name (h : Hd K mg) : CalA P w K mg base 2 "is_name" 1 f_is_name := cal_mk h.f_is_name h.g_is_name sc_is_name (fun _ _ _ _ _ _ us hl => match us, hl with | [_], _ => rfl) (by
  intro cdv A outer s H E hr tk
  exact (b_cons (s_if (PW.pt (w_or (t_not (t_val (a_cb r_isi (pe_callB call_isi (by rfl) h.b_isinstance (by decide +kernel) (l_cons (a_var 0) (l_cons (a_ty .str (by rfl) h.b_str rfl) l_nil)))))) (w_or (t_not (t_chain op_le r_IB op_le r_IB a_int (a_cb r_len (pe_callB c_len (by rfl) h.b_len (by decide +kernel) (l_cons (a_var 0) l_nil))) a_int)) (w_or1 (t_cmp (o_notin (hu65 hr)) r_notin (a_ix (hu_of hr) (a_var 0) a_int) (a_gc (by rfl) h.v_LETTERS (fun _ _ => .str _)) (by rfl)))))) (b_one (s_ret a_bl)) b_nil)
      (b_one (s_ret (a_and (a_cb r_all (pe_callB (cr_all (by rfl)) (by rfl) h.b_all (by decide +kernel) (l_cons (a_lc (by rfl) sc_is_name.nd (i_seq (a_var 0)) (blkOk_by (N := n_is_name) (sc := defScope s_is_name) (own := [("sign", 1)]) (by decide +kernel)) (tg_name 1 (by decide)) (fun _ _ _ _ _ => (pg_name (i := 1) sc_is_name.nd rfl (by first | exact Or.inl rfl | exact Or.inr rfl))) (fun _ _ _ _ _ => ts_nil) (fun _ _ _ _ _ => (a_cmp (o_in (hu65 hr)) r_in (a_var 1) (a_op o_add r_add (a_gc (by rfl) h.v_LETTERS (fun _ _ => .str _)) (a_gc (by rfl) h.v_DIGITS (fun _ _ => .str _))) (by rfl)))) l_nil))) (a_and (a_not (a_callR (c_is_register hp h) hr tk (by decide) (by rfl) (l_cons (a_var 0) l_nil))) (a_one (a_cmp (o_notin (hu65 hr)) r_notin (a_var 0) (a_gc (by rfl) h.v_RESERVED h.r_RESERVED) (by rfl)))))))))
def r_is_numeral : ASt → M AOut := (bSeq (bIf (aOr (aNot (aVal (aCB gIsi (aCons (aVar 0) (aCons (aC (.ty .str)) aNil))))) (aOr (aNot (aVal (aChain (gIB fun i j => decide (i ≤ j)) (gIB fun i j => decide (i ≤ j)) (aC (.int 1)) (aCB gLen (aCons (aVar 0) aNil)) (aC (.int 3))))) (aNot (aVal (aCB gAll (aCons (aLc (aIt (aVar 0)) (cName 1) aYes (aBin gIn (aVar 1) (aC kv_DIGITS)) [1]) aNil)))))) (bRet (aC (.bl false))) bNext)
    (bRet (aOrV (aBin gEq (aVar 0) (aC (.str "0"))) (aBin gNe (aBin gIx (aVar 0) (aC (.int 0))) (aC (.str "0"))))))
def f_is_numeral : List AV → M AV := runB 2 r_is_numeral
theorem c_is_numeral (h : Hd K mg) : CalA P w K mg base 1 "is_numeral" 1 f_is_numeral := cal_mk h.f_is_numeral h.g_is_numeral sc_is_numeral (fun _ _ _ _ _ _ us hl => match us, hl with | [_], _ => rfl) (by
  intro cdv A outer s H E hr tk
  exact (b_cons (s_if (PW.pt (w_or (t_not (t_val (a_cb r_isi (pe_callB call_isi (by rfl) h.b_isinstance (by decide +kernel) (l_cons (a_var 0) (l_cons (a_ty .str (by rfl) h.b_str rfl) l_nil)))))) (w_or (t_not (t_chain op_le r_IB op_le r_IB a_int (a_cb r_len (pe_callB c_len (by rfl) h.b_len (by decide +kernel) (l_cons (a_var 0) l_nil))) a_int)) (w_or1 (t_not (t_val (a_cb r_all (pe_callB (cr_all (by rfl)) (by rfl) h.b_all (by decide +kernel) (l_cons (a_lc (by rfl) sc_is_numeral.nd (i_seq (a_var 0)) (blkOk_by (N := n_is_numeral) (sc := defScope s_is_numeral) (own := [("sign", 1)]) (by decide +kernel)) (tg_name 1 (by decide)) (fun _ _ _ _ _ => (pg_name (i := 1) sc_is_numeral.nd rfl (by first | exact Or.inl rfl | exact Or.inr rfl))) (fun _ _ _ _ _ => ts_nil) (fun _ _ _ _ _ => (a_cmp (o_in (hu65 hr)) r_in (a_var 1) (a_gc (by rfl) h.v_DIGITS (fun _ _ => .str _)) (by rfl)))) l_nil))))))))) (b_one (s_ret a_bl)) b_nil)
      (b_one (s_ret (a_or (a_cmp (o_eq hr.units) r_eq (a_var 0) a_str (nomark _)) (a_one (a_cmp (o_ne hr.units) r_ne (a_ix (hu_of hr) (a_var 0) a_int) a_str (nomark _))))))))
def r_is_operation : ASt → M AOut := (bRet (aOrV (aCallR 1 f_is_numeral (aCons (aVar 0) aNil)) (aCallR 1 f_is_name (aCons (aVar 0) aNil))))
def f_is_operation : List AV → M AV := runB 1 r_is_operation
theorem c_is_operation (h : Hd K mg) : CalA P w K mg base 3 "is_operation" 1 f_is_operation := cal_mk h.f_is_operation h.g_is_operation sc_is_operation (fun _ _ _ _ _ _ us hl => match us, hl with | [_], _ => rfl) (by
  intro cdv A outer s H E hr tk
  exact (b_one (s_ret (a_or (a_callR (c_is_numeral hp h) hr tk (by decide) (by rfl) (l_cons (a_var 0) l_nil)) (a_one (a_callR (c_is_name hp h) hr tk (by decide) (by rfl) (l_cons (a_var 0) l_nil)))))))
def r_is_way : ASt → M AOut := (bRet (aAndV (aCB gIsi (aCons (aVar 0) (aCons (aC (.ty .tuple)) aNil))) (aCB gAll (aCons (aLc (aIt (aVar 0)) (cName 1) aYes (aAndV (aCallR 1 f_is_integer (aCons (aVar 1) aNil)) (aBin gIn (aVar 1) (aTup (aCons (aC (.int 0)) (aCons (aC (.int 1)) aNil))))) [1]) aNil))))
def f_is_way : List AV → M AV := runB 2 r_is_way
theorem c_is_way (h : Hd K mg) : CalA P w K mg base 2 "is_way" 1 f_is_way := cal_mk h.f_is_way h.g_is_way sc_is_way (fun _ _ _ _ _ _ us hl => match us, hl with | [_], _ => rfl) (by
  intro cdv A outer s H E hr tk
  exact (b_one (s_ret (a_and (a_cb r_isi (pe_callB call_isi (by rfl) h.b_isinstance (by decide +kernel) (l_cons (a_var 0) (l_cons (a_ty .tuple (by rfl) h.b_tuple rfl) l_nil)))) (a_one (a_cb r_all (pe_callB (cr_all (by rfl)) (by rfl) h.b_all (by decide +kernel) (l_cons (a_lc (by rfl) sc_is_way.nd (i_seq (a_var 0)) (blkOk_by (N := n_is_way) (sc := defScope s_is_way) (own := [("answer", 1)]) (by decide +kernel)) (tg_name 1 (by decide)) (fun _ _ _ _ _ => (pg_name (i := 1) sc_is_way.nd rfl (by first | exact Or.inl rfl | exact Or.inr rfl))) (fun _ _ _ _ _ => ts_nil) (fun _ _ _ _ _ => (a_and (a_callR (c_is_integer hp h) hr tkF (by decide) (by rfl) (l_cons (a_var 1) l_nil)) (a_one (a_cmp (o_in (hu65 hr)) r_in (a_var 1) (a_tup (l_cons a_int (l_cons a_int l_nil))) (by rfl)))))) l_nil))))))))
def r_is_lot : ASt → M AOut := (bSeq (bIf (aOr (aNot (aVal (aCB gIsi (aCons (aVar 0) (aCons (aC (.ty .tuple)) aNil))))) (aOr (aVal (aBin gLtX (aCB gLen (aCons (aVar 0) aNil)) (aVar 1))) (aAnd (aVal (aBin gIsNot (aVar 2) (aC .non))) (aVal (aBin (gIB fun i j => decide (j < i)) (aCB gLen (aCons (aVar 0) aNil)) (aVar 2)))))) (bRet (aC (.bl false))) bNext)
    (bRet (aCB gAll (aCons (aLc (aIt (aVar 0)) (cName 4) aYes (aCallV 3 1 "is_integer" "is_integer" f_is_integer f_is_integer (aCons (aVar 4) aNil)) [4]) aNil))))
def f_is_lot : List AV → M AV := runB 5 r_is_lot
theorem c_is_lot (h : Hd K mg) : CalA P w K mg base 2 "is_lot" 4 f_is_lot := cal_mk h.f_is_lot h.g_is_lot sc_is_lot (fun _ _ _ _ _ _ us hl => match us, hl with | [_, _, _, _], _ => rfl) (by
  intro cdv A outer s H E hr tk
  exact (b_cons (s_if (PW.pt (w_or (t_not (t_val (a_cb r_isi (pe_callB call_isi (by rfl) h.b_isinstance (by decide +kernel) (l_cons (a_var 0) (l_cons (a_ty .tuple (by rfl) h.b_tuple rfl) l_nil)))))) (w_or (t_cmp (o_lt hr.units) r_lt (a_cb r_len (pe_callB c_len (by rfl) h.b_len (by decide +kernel) (l_cons (a_var 0) l_nil))) (a_var 1) (nomark _)) (w_or1 (PW.pt (w_and (t_cmp o_isnot r_isnot (a_var 2) a_non (nomark _)) (w_and1 (t_cmp op_gt r_IB (a_cb r_len (pe_callB c_len (by rfl) h.b_len (by decide +kernel) (l_cons (a_var 0) l_nil))) (a_var 2) (nomark _))))))))) (b_one (s_ret a_bl)) b_nil)
      (b_one (s_ret (a_cb r_all (pe_callB (cr_all (by rfl)) (by rfl) h.b_all (by decide +kernel) (l_cons (a_lc (by rfl) sc_is_lot.nd (i_seq (a_var 0)) (blkOk_by (N := n_is_lot) (sc := defScope s_is_lot) (own := [("member", 4)]) (by decide +kernel)) (tg_name 4 (by decide)) (fun _ _ _ _ _ => (pg_name (i := 4) sc_is_lot.nd rfl (by first | exact Or.inl rfl | exact Or.inr rfl))) (fun _ _ _ _ _ => ts_nil) (fun _ _ _ _ _ => (a_cv (c_is_integer hp h) (c_is_integer hp h) hr (by decide) (by decide) (l_cons (a_var 4) l_nil)))) l_nil)))))))
def r_is_told_row : ASt → M AOut := (bSeq (bIf (aOr (aNot (aVal (aCB gIsi (aCons (aVar 0) (aCons (aC (.ty .tuple)) aNil))))) (aOr (aVal (aBin gNe (aCB gLen (aCons (aVar 0) aNil)) (aC (.int 3)))) (aOr (aNot (aVal (aCallR 1 f_is_operation (aCons (aBin gIx (aVar 0) (aC (.int 0))) aNil)))) (aNot (aVal (aCallR 1 f_is_integer (aCons (aBin gIx (aVar 0) (aC (.int 2))) aNil))))))) (bRet (aC (.bl false))) bNext)
    (bRet (aCallR 4 f_is_lot (aCons (aBin gIx (aVar 0) (aC (.int 1))) (aCons (aC (.int 0)) (aCons (aC (.int 3)) (aCons (aC (.fn "is_integer")) aNil)))))))
def f_is_told_row : List AV → M AV := runB 1 r_is_told_row
theorem c_is_told_row (h : Hd K mg) : CalA P w K mg base 4 "is_told_row" 1 f_is_told_row := cal_mk h.f_is_told_row h.g_is_told_row sc_is_told_row (fun _ _ _ _ _ _ us hl => match us, hl with | [_], _ => rfl) (by
  intro cdv A outer s H E hr tk
  exact (b_cons (s_if (PW.pt (w_or (t_not (t_val (a_cb r_isi (pe_callB call_isi (by rfl) h.b_isinstance (by decide +kernel) (l_cons (a_var 0) (l_cons (a_ty .tuple (by rfl) h.b_tuple rfl) l_nil)))))) (w_or (t_cmp (o_ne hr.units) r_ne (a_cb r_len (pe_callB c_len (by rfl) h.b_len (by decide +kernel) (l_cons (a_var 0) l_nil))) a_int (nomark _)) (w_or (t_not (t_val (a_callR (c_is_operation hp h) hr tk (by decide) (by rfl) (l_cons (a_ix (hu_of hr) (a_var 0) a_int) l_nil)))) (w_or1 (t_not (t_val (a_callR (c_is_integer hp h) hr tk (by decide) (by rfl) (l_cons (a_ix (hu_of hr) (a_var 0) a_int) l_nil))))))))) (b_one (s_ret a_bl)) b_nil)
      (b_one (s_ret (a_callR (c_is_lot hp h) hr tk (by decide) (by rfl) (l_cons (a_ix (hu_of hr) (a_var 0) a_int) (l_cons a_int (l_cons (a_gc (by rfl) h.v_MOST_PARTS_forms (fun _ _ => .int _)) (l_cons (a_fn (by rfl) h.g_is_integer) l_nil)))))))))
def r_is_lot2 : ASt → M AOut := (bSeq (bIf (aOr (aNot (aVal (aCB gIsi (aCons (aVar 0) (aCons (aC (.ty .tuple)) aNil))))) (aOr (aVal (aBin gLtX (aCB gLen (aCons (aVar 0) aNil)) (aVar 1))) (aAnd (aVal (aBin gIsNot (aVar 2) (aC .non))) (aVal (aBin (gIB fun i j => decide (j < i)) (aCB gLen (aCons (aVar 0) aNil)) (aVar 2)))))) (bRet (aC (.bl false))) bNext)
    (bRet (aCB gAll (aCons (aLc (aIt (aVar 0)) (cName 4) aYes (aCallV 3 1 "is_integer" "is_told_row" f_is_integer f_is_told_row (aCons (aVar 4) aNil)) [4]) aNil))))
def f_is_lot2 : List AV → M AV := runB 5 r_is_lot2
theorem c_is_lot2 (h : Hd K mg) : CalA P w K mg base 5 "is_lot" 4 f_is_lot2 := cal_mk h.f_is_lot h.g_is_lot sc_is_lot (fun _ _ _ _ _ _ us hl => match us, hl with | [_, _, _, _], _ => rfl) (by
  intro cdv A outer s H E hr tk
  exact (b_cons (s_if (PW.pt (w_or (t_not (t_val (a_cb r_isi (pe_callB call_isi (by rfl) h.b_isinstance (by decide +kernel) (l_cons (a_var 0) (l_cons (a_ty .tuple (by rfl) h.b_tuple rfl) l_nil)))))) (w_or (t_cmp (o_lt hr.units) r_lt (a_cb r_len (pe_callB c_len (by rfl) h.b_len (by decide +kernel) (l_cons (a_var 0) l_nil))) (a_var 1) (nomark _)) (w_or1 (PW.pt (w_and (t_cmp o_isnot r_isnot (a_var 2) a_non (nomark _)) (w_and1 (t_cmp op_gt r_IB (a_cb r_len (pe_callB c_len (by rfl) h.b_len (by decide +kernel) (l_cons (a_var 0) l_nil))) (a_var 2) (nomark _))))))))) (b_one (s_ret a_bl)) b_nil)
      (b_one (s_ret (a_cb r_all (pe_callB (cr_all (by rfl)) (by rfl) h.b_all (by decide +kernel) (l_cons (a_lc (by rfl) sc_is_lot.nd (i_seq (a_var 0)) (blkOk_by (N := n_is_lot) (sc := defScope s_is_lot) (own := [("member", 4)]) (by decide +kernel)) (tg_name 4 (by decide)) (fun _ _ _ _ _ => (pg_name (i := 4) sc_is_lot.nd rfl (by first | exact Or.inl rfl | exact Or.inr rfl))) (fun _ _ _ _ _ => ts_nil) (fun _ _ _ _ _ => (a_cv (c_is_integer hp h) (c_is_told_row hp h) hr (by decide) (by decide) (l_cons (a_var 4) l_nil)))) l_nil)))))))
def r_is_meaning : ASt → M AOut := (bSeq (bIf (aOr (aNot (aVal (aCB gIsi (aCons (aVar 0) (aCons (aC (.ty .tuple)) aNil))))) (aOr (aNot (aTru (aVar 0))) (aNot (aVal (aCB gIsi (aCons (aBin gIx (aVar 0) (aC (.int 0))) (aCons (aC (.ty .str)) aNil))))))) (bRet (aC (.bl false))) bNext)
    (bSeq (bIf (aVal (aBin gEq (aBin gIx (aVar 0) (aC (.int 0))) (aC (.str "numbers")))) (bRet (aAndV (aBin gEq (aCB gLen (aCons (aVar 0) aNil)) (aC (.int 2))) (aCallR 1 f_is_integer (aCons (aBin gIx (aVar 0) (aC (.int 1))) aNil)))) bNext)
    (bSeq (bIf (aOr (aVal (aBin gNotIn (aBin gIx (aVar 0) (aC (.int 0))) (aTup (aCons (aC (.str "sums")) (aCons (aC (.str "table")) aNil))))) (aVal (aBin gNe (aCB gLen (aCons (aVar 0) aNil)) (aC (.int 3))))) (bRet (aC (.bl false))) bNext)
    (bRet (aAndV (aCallR 4 f_is_lot2 (aCons (aBin gIx (aVar 0) (aC (.int 1))) (aCons (aC (.int 0)) (aCons (aC .non) (aCons (aC (.fn "is_told_row")) aNil))))) (aCallR 1 f_is_integer (aCons (aBin gIx (aVar 0) (aC (.int 2))) aNil)))))))
def f_is_meaning : List AV → M AV := runB 1 r_is_meaning
theorem c_is_meaning (h : Hd K mg) : CalA P w K mg base 6 "is_meaning" 1 f_is_meaning := cal_mk h.f_is_meaning h.g_is_meaning sc_is_meaning (fun _ _ _ _ _ _ us hl => match us, hl with | [_], _ => rfl) (by
  intro cdv A outer s H E hr tk
  exact (b_cons (s_if (PW.pt (w_or (t_not (t_val (a_cb r_isi (pe_callB call_isi (by rfl) h.b_isinstance (by decide +kernel) (l_cons (a_var 0) (l_cons (a_ty .tuple (by rfl) h.b_tuple rfl) l_nil)))))) (w_or (t_not (t_truth (a_var 0))) (w_or1 (t_not (t_val (a_cb r_isi (pe_callB call_isi (by rfl) h.b_isinstance (by decide +kernel) (l_cons (a_ix (hu_of hr) (a_var 0) a_int) (l_cons (a_ty .str (by rfl) h.b_str rfl) l_nil)))))))))) (b_one (s_ret a_bl)) b_nil)
      (b_cons (s_if (t_cmp (o_eq hr.units) r_eq (a_ix (hu_of hr) (a_var 0) a_int) a_str (nomark _)) (b_one (s_ret (a_and (a_cmp (o_eq hr.units) r_eq (a_cb r_len (pe_callB c_len (by rfl) h.b_len (by decide +kernel) (l_cons (a_var 0) l_nil))) a_int (nomark _)) (a_one (a_callR (c_is_integer hp h) hr tk (by decide) (by rfl) (l_cons (a_ix (hu_of hr) (a_var 0) a_int) l_nil)))))) b_nil)
      (b_cons (s_if (PW.pt (w_or (t_cmp (o_notin (hu65 hr)) r_notin (a_ix (hu_of hr) (a_var 0) a_int) (a_tup (l_cons a_str (l_cons a_str l_nil))) (by rfl)) (w_or1 (t_cmp (o_ne hr.units) r_ne (a_cb r_len (pe_callB c_len (by rfl) h.b_len (by decide +kernel) (l_cons (a_var 0) l_nil))) a_int (nomark _))))) (b_one (s_ret a_bl)) b_nil)
      (b_one (s_ret (a_and (a_callR (c_is_lot2 hp h) hr tk (by decide) (by rfl) (l_cons (a_ix (hu_of hr) (a_var 0) a_int) (l_cons a_int (l_cons a_non (l_cons (a_fn (by rfl) h.g_is_told_row) l_nil))))) (a_one (a_callR (c_is_integer hp h) hr tk (by decide) (by rfl) (l_cons (a_ix (hu_of hr) (a_var 0) a_int) l_nil))))))))))
def r_is_world_form : ASt → M AOut := (bSeq (bIf (aOr (aNot (aVal (aCB gIsi (aCons (aVar 0) (aCons (aC (.ty .tuple)) aNil))))) (aOr (aVal (aBin gNe (aCB gLen (aCons (aVar 0) aNil)) (aC (.int 3)))) (aNot (aVal (aCallR 1 f_is_meaning (aCons (aBin gIx (aVar 0) (aC (.int 0))) aNil)))))) (bRet (aC (.bl false))) bNext)
    (bRet (aAndV (aCallR 4 f_is_lot (aCons (aBin gIx (aVar 0) (aC (.int 1))) (aCons (aC (.int 0)) (aCons (aC .non) (aCons (aC (.fn "is_integer")) aNil))))) (aCallR 1 f_is_way (aCons (aBin gIx (aVar 0) (aC (.int 2))) aNil)))))
def f_is_world_form : List AV → M AV := runB 1 r_is_world_form
theorem c_is_world_form (h : Hd K mg) : CalA P w K mg base 7 "is_world_form" 1 f_is_world_form := cal_mk h.f_is_world_form h.g_is_world_form sc_is_world_form (fun _ _ _ _ _ _ us hl => match us, hl with | [_], _ => rfl) (by
  intro cdv A outer s H E hr tk
  exact (b_cons (s_if (PW.pt (w_or (t_not (t_val (a_cb r_isi (pe_callB call_isi (by rfl) h.b_isinstance (by decide +kernel) (l_cons (a_var 0) (l_cons (a_ty .tuple (by rfl) h.b_tuple rfl) l_nil)))))) (w_or (t_cmp (o_ne hr.units) r_ne (a_cb r_len (pe_callB c_len (by rfl) h.b_len (by decide +kernel) (l_cons (a_var 0) l_nil))) a_int (nomark _)) (w_or1 (t_not (t_val (a_callR (c_is_meaning hp h) hr tk (by decide) (by rfl) (l_cons (a_ix (hu_of hr) (a_var 0) a_int) l_nil)))))))) (b_one (s_ret a_bl)) b_nil)
      (b_one (s_ret (a_and (a_callR (c_is_lot hp h) hr tk (by decide) (by rfl) (l_cons (a_ix (hu_of hr) (a_var 0) a_int) (l_cons a_int (l_cons a_non (l_cons (a_fn (by rfl) h.g_is_integer) l_nil))))) (a_one (a_callR (c_is_way hp h) hr tk (by decide) (by rfl) (l_cons (a_ix (hu_of hr) (a_var 0) a_int) l_nil))))))))
def r_goals_of : ASt → M AOut := (bSeq (bIf (aVal (aBin gIn (aBin gIx (aVar 0) (aC (.int 0))) (aTup (aCons (aC (.str "last")) (aCons (aC (.str "give")) aNil))))) (bRet (aTup aNil)) bNext)
    (bSeq (bIf (aVal (aBin gEq (aBin gIx (aVar 0) (aC (.int 0))) (aC (.str "jump")))) (bRet (aTup (aCons (aBin gIx (aVar 0) (aC (.int 1))) aNil))) bNext)
    (bRet (aIf (aVal (aBin gEq (aBin gIx (aVar 0) (aC (.int 0))) (aC (.str "ask")))) (aTup (aCons (aBin gIx (aVar 0) (aC (.int 3))) (aCons (aBin gIx (aVar 0) (aC (.int 4))) aNil))) (aTup (aCons (aBin gAdd (aVar 1) (aC (.int 1))) aNil))))))
def f_goals_of : List AV → M AV := runB 2 r_goals_of
theorem c_goals_of (h : Hd K mg) : CalA P w K mg base 1 "goals_of" 2 f_goals_of := cal_mk h.f_goals_of h.g_goals_of sc_goals_of (fun _ _ _ _ _ _ us hl => match us, hl with | [_, _], _ => rfl) (by
  intro cdv A outer s H E hr tk
  exact (b_cons (s_if (t_cmp (o_in (hu65 hr)) r_in (a_ix (hu_of hr) (a_var 0) a_int) (a_tup (l_cons a_str (l_cons a_str l_nil))) (by rfl)) (b_one (s_ret (a_tup l_nil))) b_nil)
      (b_cons (s_if (t_cmp (o_eq hr.units) r_eq (a_ix (hu_of hr) (a_var 0) a_int) a_str (nomark _)) (b_one (s_ret (a_tup (l_cons (a_ix (hu_of hr) (a_var 0) a_int) l_nil)))) b_nil)
      (b_one (s_ret (a_if (t_cmp (o_eq hr.units) r_eq (a_ix (hu_of hr) (a_var 0) a_int) a_str (nomark _)) (a_tup (l_cons (a_ix (hu_of hr) (a_var 0) a_int) (l_cons (a_ix (hu_of hr) (a_var 0) a_int) l_nil))) (a_tup (l_cons (a_op o_add r_add (a_var 1) a_int) l_nil))))))))
def r_is_place : ASt → M AOut := (bSeq (bIf (aOr (aNot (aVal (aCB gIsi (aCons (aVar 0) (aCons (aC (.ty .tuple)) aNil))))) (aOr (aVal (aBin gNotIn (aCB gLen (aCons (aVar 0) aNil)) (aTup (aCons (aC (.int 2)) (aCons (aC (.int 3)) aNil))))) (aNot (aVal (aCB gIsi (aCons (aBin gIx (aVar 0) (aC (.int 0))) (aCons (aC (.ty .str)) aNil))))))) (bRet (aC (.bl false))) bNext)
    (bSeq (bIf (aVal (aBin gEq (aBin gIx (aVar 0) (aC (.int 0))) (aC (.str "box")))) (bRet (aAndV (aBin gEq (aCB gLen (aCons (aVar 0) aNil)) (aC (.int 3))) (aAndV (aCallR 1 f_is_integer (aCons (aBin gIx (aVar 0) (aC (.int 1))) aNil)) (aCallR 1 f_is_name (aCons (aBin gIx (aVar 0) (aC (.int 2))) aNil))))) bNext)
    (bSeq (bIf (aVal (aBin gEq (aCB gLen (aCons (aVar 0) aNil)) (aC (.int 3)))) (bRet (aC (.bl false))) bNext)
    (bRet (aOrV (aAndV (aBin gEq (aBin gIx (aVar 0) (aC (.int 0))) (aC (.str "register"))) (aCallR 1 f_is_register (aCons (aBin gIx (aVar 0) (aC (.int 1))) aNil))) (aAndV (aBin gEq (aBin gIx (aVar 0) (aC (.int 0))) (aC (.str "cell"))) (aCallR 1 f_is_name (aCons (aBin gIx (aVar 0) (aC (.int 1))) aNil))))))))
def f_is_place : List AV → M AV := runB 1 r_is_place
theorem c_is_place (h : Hd K mg) : CalA P w K mg base 3 "is_place" 1 f_is_place := cal_mk h.f_is_place h.g_is_place sc_is_place (fun _ _ _ _ _ _ us hl => match us, hl with | [_], _ => rfl) (by
  intro cdv A outer s H E hr tk
  exact (b_cons (s_if (PW.pt (w_or (t_not (t_val (a_cb r_isi (pe_callB call_isi (by rfl) h.b_isinstance (by decide +kernel) (l_cons (a_var 0) (l_cons (a_ty .tuple (by rfl) h.b_tuple rfl) l_nil)))))) (w_or (t_cmp (o_notin (hu65 hr)) r_notin (a_cb r_len (pe_callB c_len (by rfl) h.b_len (by decide +kernel) (l_cons (a_var 0) l_nil))) (a_tup (l_cons a_int (l_cons a_int l_nil))) (by rfl)) (w_or1 (t_not (t_val (a_cb r_isi (pe_callB call_isi (by rfl) h.b_isinstance (by decide +kernel) (l_cons (a_ix (hu_of hr) (a_var 0) a_int) (l_cons (a_ty .str (by rfl) h.b_str rfl) l_nil)))))))))) (b_one (s_ret a_bl)) b_nil)
      (b_cons (s_if (t_cmp (o_eq hr.units) r_eq (a_ix (hu_of hr) (a_var 0) a_int) a_str (nomark _)) (b_one (s_ret (a_and (a_cmp (o_eq hr.units) r_eq (a_cb r_len (pe_callB c_len (by rfl) h.b_len (by decide +kernel) (l_cons (a_var 0) l_nil))) a_int (nomark _)) (a_and (a_callR (c_is_integer hp h) hr tk (by decide) (by rfl) (l_cons (a_ix (hu_of hr) (a_var 0) a_int) l_nil)) (a_one (a_callR (c_is_name hp h) hr tk (by decide) (by rfl) (l_cons (a_ix (hu_of hr) (a_var 0) a_int) l_nil))))))) b_nil)
      (b_cons (s_if (t_cmp (o_eq hr.units) r_eq (a_cb r_len (pe_callB c_len (by rfl) h.b_len (by decide +kernel) (l_cons (a_var 0) l_nil))) a_int (nomark _)) (b_one (s_ret a_bl)) b_nil)
      (b_one (s_ret (a_or (a_and (a_cmp (o_eq hr.units) r_eq (a_ix (hu_of hr) (a_var 0) a_int) a_str (nomark _)) (a_one (a_callR (c_is_register hp h) hr tk (by decide) (by rfl) (l_cons (a_ix (hu_of hr) (a_var 0) a_int) l_nil)))) (a_one (a_and (a_cmp (o_eq hr.units) r_eq (a_ix (hu_of hr) (a_var 0) a_int) a_str (nomark _)) (a_one (a_callR (c_is_name hp h) hr tk (by decide) (by rfl) (l_cons (a_ix (hu_of hr) (a_var 0) a_int) l_nil))))))))))))
def r_are_places : ASt → M AOut := (bSeq (bIf (aOr (aNot (aVal (aCB gIsi (aCons (aVar 0) (aCons (aC (.ty .tuple)) aNil))))) (aNot (aVal (aCB gAll (aCons (aLc (aIt (aVar 0)) (cName 1) aYes (aCallR 1 f_is_place (aCons (aVar 1) aNil)) [1]) aNil))))) (bRet (aC (.bl false))) bNext)
    (bRet (aBin gEq (aUn gLenSet (aVar 0)) (aCB gLen (aCons (aVar 0) aNil)))))
def f_are_places : List AV → M AV := runB 2 r_are_places
theorem c_are_places (h : Hd K mg) : CalA P w K mg base 4 "are_places" 1 f_are_places := cal_mk h.f_are_places h.g_are_places sc_are_places (fun _ _ _ _ _ _ us hl => match us, hl with | [_], _ => rfl) (by
  intro cdv A outer s H E hr tk
  exact (b_cons (s_if (PW.pt (w_or (t_not (t_val (a_cb r_isi (pe_callB call_isi (by rfl) h.b_isinstance (by decide +kernel) (l_cons (a_var 0) (l_cons (a_ty .tuple (by rfl) h.b_tuple rfl) l_nil)))))) (w_or1 (t_not (t_val (a_cb r_all (pe_callB (cr_all (by rfl)) (by rfl) h.b_all (by decide +kernel) (l_cons (a_lc (by rfl) sc_are_places.nd (i_seq (a_var 0)) (blkOk_by (N := n_are_places) (sc := defScope s_are_places) (own := [("place", 1)]) (by decide +kernel)) (tg_name 1 (by decide)) (fun _ _ _ _ _ => (pg_name (i := 1) sc_are_places.nd rfl (by first | exact Or.inl rfl | exact Or.inr rfl))) (fun _ _ _ _ _ => ts_nil) (fun _ _ _ _ _ => (a_callR (c_is_place hp h) hr tkF (by decide) (by rfl) (l_cons (a_var 1) l_nil)))) l_nil)))))))) (b_one (s_ret a_bl)) b_nil)
      (b_one (s_ret (a_cmp (o_eq hr.units) r_eq (a_lenSet hr.units (by rfl) h.b_len (by rfl) h.b_set (a_var 0)) (a_cb r_len (pe_callB c_len (by rfl) h.b_len (by decide +kernel) (l_cons (a_var 0) l_nil))) (nomark _))))))
def r_is_sight : ASt → M AOut := (bSeq (bIf (aOr (aNot (aVal (aCB gIsi (aCons (aVar 0) (aCons (aC (.ty .tuple)) aNil))))) (aOr (aVal (aBin gNe (aCB gLen (aCons (aVar 0) aNil)) (aC (.int 3)))) (aNot (aVal (aCallR 1 f_are_places (aCons (aBin gIx (aVar 0) (aC (.int 0))) aNil)))))) (bRet (aC (.bl false))) bNext)
    (bSeq (bIf (aOr (aNot (aVal (aCallR 1 f_is_integer (aCons (aBin gIx (aVar 0) (aC (.int 1))) aNil)))) (aVal (aBin gNotIn (aBin gIx (aVar 0) (aC (.int 1))) (aTup (aCons (aC (.int 0)) (aCons (aC (.int 1)) aNil)))))) (bRet (aC (.bl false))) bNext)
    (bSeq (bIf (aVal (aCB gIsi (aCons (aBin gIx (aVar 0) (aC (.int 2))) (aCons (aC (.ty .str)) aNil)))) (bRet (aBin gEq (aBin gIx (aVar 0) (aC (.int 2))) (aC (.str "whole")))) bNext)
    (bRet (aAndV (aCallR 1 f_is_integer (aCons (aBin gIx (aVar 0) (aC (.int 2))) aNil)) (aBin (gIB fun i j => decide (j ≤ i)) (aBin gIx (aVar 0) (aC (.int 2))) (aC (.int 0))))))))
def f_is_sight : List AV → M AV := runB 1 r_is_sight
theorem c_is_sight (h : Hd K mg) : CalA P w K mg base 5 "is_sight" 1 f_is_sight := cal_mk h.f_is_sight h.g_is_sight sc_is_sight (fun _ _ _ _ _ _ us hl => match us, hl with | [_], _ => rfl) (by
  intro cdv A outer s H E hr tk
  exact (b_cons (s_if (PW.pt (w_or (t_not (t_val (a_cb r_isi (pe_callB call_isi (by rfl) h.b_isinstance (by decide +kernel) (l_cons (a_var 0) (l_cons (a_ty .tuple (by rfl) h.b_tuple rfl) l_nil)))))) (w_or (t_cmp (o_ne hr.units) r_ne (a_cb r_len (pe_callB c_len (by rfl) h.b_len (by decide +kernel) (l_cons (a_var 0) l_nil))) a_int (nomark _)) (w_or1 (t_not (t_val (a_callR (c_are_places hp h) hr tk (by decide) (by rfl) (l_cons (a_ix (hu_of hr) (a_var 0) a_int) l_nil)))))))) (b_one (s_ret a_bl)) b_nil)
      (b_cons (s_if (PW.pt (w_or (t_not (t_val (a_callR (c_is_integer hp h) hr tk (by decide) (by rfl) (l_cons (a_ix (hu_of hr) (a_var 0) a_int) l_nil)))) (w_or1 (t_cmp (o_notin (hu65 hr)) r_notin (a_ix (hu_of hr) (a_var 0) a_int) (a_tup (l_cons a_int (l_cons a_int l_nil))) (by rfl))))) (b_one (s_ret a_bl)) b_nil)
      (b_cons (s_if (t_val (a_cb r_isi (pe_callB call_isi (by rfl) h.b_isinstance (by decide +kernel) (l_cons (a_ix (hu_of hr) (a_var 0) a_int) (l_cons (a_ty .str (by rfl) h.b_str rfl) l_nil))))) (b_one (s_ret (a_cmp (o_eq hr.units) r_eq (a_ix (hu_of hr) (a_var 0) a_int) a_str (nomark _)))) b_nil)
      (b_one (s_ret (a_and (a_callR (c_is_integer hp h) hr tk (by decide) (by rfl) (l_cons (a_ix (hu_of hr) (a_var 0) a_int) l_nil)) (a_one (a_cmp op_ge r_IB (a_ix (hu_of hr) (a_var 0) a_int) a_int (nomark _))))))))))
def r_place_fault : ASt → M AOut := (bSeq (bAsg (aSl (aVar 0) aNoPart (aPart (aC (.int 3)))) (agSeq 3 (agCons (agName 2) (agCons (agName 3) (agCons (agName 4) agNil)))))
    (bSeq (bIf (aVal (aBin gEq (aBin gIx (aVar 1) (aC (.int 0))) (aC (.str "box")))) (bSeq (bIf (aNot (aVal (aChain (gIB fun i j => decide (i ≤ j)) gLtX (aC (.int 0)) (aBin gIx (aVar 1) (aC (.int 1))) (aCB gLen (aCons (aVar 2) aNil))))) (bRet (aC (.str "frame"))) bNext)
    (bRet (aIf (aVal (aBin (gInD false) (aBin gIx (aVar 1) (aC (.int 2))) (aCB gDict (aCons (aBin gIx (aBin gIx (aVar 2) (aBin gIx (aVar 1) (aC (.int 1)))) (aC (.int 2))) aNil)))) (aC .non) (aC (.str "unset"))))) bNext)
    (bSeq (bSet 5 (aIf (aVal (aBin gEq (aBin gIx (aVar 1) (aC (.int 0))) (aC (.str "register")))) (aVar 3) (aVar 4)))
    (bRet (aIf (aVal (aBin (gInD false) (aBin gIx (aVar 1) (aC (.int 1))) (aCB gDict (aCons (aVar 5) aNil)))) (aC .non) (aC (.str "unset")))))))
def f_place_fault : List AV → M AV := runB 6 r_place_fault
theorem c_place_fault (h : Hd K mg) : CalA P w K mg base 1 "place_fault" 2 f_place_fault := cal_mk h.f_place_fault h.g_place_fault sc_place_fault (fun _ _ _ _ _ _ us hl => match us, hl with | [_, _], _ => rfl) (by
  intro cdv A outer s H E hr tk
  exact (b_cons (s_asg (a_sl (a_var 0) q_none (q_some a_int)) (g_seq (by rfl) (gs_cons (g_name (i := 2) sc_place_fault.nd rfl (by first | exact Or.inl rfl | exact Or.inr rfl)) (gs_cons (g_name (i := 3) sc_place_fault.nd rfl (by first | exact Or.inl rfl | exact Or.inr rfl)) (gs_cons (g_name (i := 4) sc_place_fault.nd rfl (by first | exact Or.inl rfl | exact Or.inr rfl)) gs_nil)))))
      (b_cons (s_if (t_cmp (o_eq hr.units) r_eq (a_ix (hu_of hr) (a_var 1) a_int) a_str (nomark _)) (b_cons (s_if (t_not (t_chain op_le r_IB (o_lt hr.units) r_lt a_int (a_ix (hu_of hr) (a_var 1) a_int) (a_cb r_len (pe_callB c_len (by rfl) h.b_len (by decide +kernel) (l_cons (a_var 2) l_nil))))) (b_one (s_ret a_str)) b_nil)
      (b_one (s_ret (a_if (t_cmp (o_inD (hu_of hr)) r_inD (a_ix (hu_of hr) (a_var 1) a_int) (a_cb r_dict (pe_callTy (c_dict (by rfl)) (by rfl) h.b_dict (by decide +kernel) (l_cons (a_ix (hu_of hr) (a_ix (hu_of hr) (a_var 2) (a_ix (hu_of hr) (a_var 1) a_int)) a_int) l_nil))) (by rfl)) a_non a_str)))) b_nil)
      (b_cons (s_set (i := 5) sc_place_fault.nd rfl (by first | exact Or.inl rfl | exact Or.inr rfl) (a_if (t_cmp (o_eq hr.units) r_eq (a_ix (hu_of hr) (a_var 1) a_int) a_str (nomark _)) (a_var 3) (a_var 4)))
      (b_one (s_ret (a_if (t_cmp (o_inD (hu_of hr)) r_inD (a_ix (hu_of hr) (a_var 1) a_int) (a_cb r_dict (pe_callTy (c_dict (by rfl)) (by rfl) h.b_dict (by decide +kernel) (l_cons (a_var 5) l_nil))) (by rfl)) a_non a_str)))))))
def r_checked_sight : ASt → M AOut := (bSeq (bIf (aNot (aVal (aCallR 1 f_is_sight (aCons (aVar 1) aNil)))) (aRaise "BadSight" ["fault"] (aCons (aC (.str "shape")) aNil)) bNext)
    (bSeq (bFor (aIt (aBin gIx (aVar 1) (aC (.int 0)))) (agName 2)
        (bSeq (bSet 3 (aCallR 2 f_place_fault (aCons (aVar 0) (aCons (aVar 2) aNil))))
    (bIf (aVal (aBin gIsNot (aVar 3) (aC .non))) (aRaise "BadSight" ["fault"] (aCons (aVar 3) aNil)) bNext)))
    (bSeq (bIf (aAnd (aVal (aBin gEq (aBin gIx (aVar 1) (aC (.int 1))) (aC (.int 1)))) (aVal (aBin gNe (aBin gIx (aVar 1) (aC (.int 2))) (aC (.str "whole"))))) (aRaise "BadSight" ["fault"] (aCons (aC (.str "told")) aNil)) bNext)
    (bRet (aVar 1)))))
def f_checked_sight : List AV → M AV := runB 4 r_checked_sight
theorem c_checked_sight (h : Hd K mg) : CalA P w K mg base 6 "checked_sight" 2 f_checked_sight := cal_mk h.f_checked_sight h.g_checked_sight sc_checked_sight (fun _ _ _ _ _ _ us hl => match us, hl with | [_, _], _ => rfl) (by
  intro cdv A outer s H E hr tk
  exact (b_cons (s_if (t_not (t_val (a_callR (c_is_sight hp h) hr tk (by decide) (by rfl) (l_cons (a_var 1) l_nil)))) (b_one (s_raise (k_BadSight hp h) (by decide) hr tk (by decide) (by rfl) (l_cons a_str l_nil))) b_nil)
      (b_cons (s_for PassesOwn.leaving (by rfl) (i_seq (a_ix (hu_of hr) (a_var 1) a_int)) (g_name (i := 2) sc_checked_sight.nd rfl (by first | exact Or.inl rfl | exact Or.inr rfl))
        (b_cons (s_set (i := 3) sc_checked_sight.nd rfl (by first | exact Or.inl rfl | exact Or.inr rfl) (a_callR (c_place_fault hp h) hr tk (by decide) (by rfl) (l_cons (a_var 0) (l_cons (a_var 2) l_nil))))
      (b_one (s_if (t_cmp o_isnot r_isnot (a_var 3) a_non (nomark _)) (b_one (s_raise (k_BadSight hp h) (by decide) hr tk (by decide) (by rfl) (l_cons (a_var 3) l_nil))) b_nil))))
      (b_cons (s_if (PW.pt (w_and (t_cmp (o_eq hr.units) r_eq (a_ix (hu_of hr) (a_var 1) a_int) a_int (nomark _)) (w_and1 (t_cmp (o_ne hr.units) r_ne (a_ix (hu_of hr) (a_var 1) a_int) a_str (nomark _))))) (b_one (s_raise (k_BadSight hp h) (by decide) hr tk (by decide) (by rfl) (l_cons a_str l_nil))) b_nil)
      (b_one (s_ret (a_var 1)))))))
def r_place_worth : ASt → M AOut := (bSeq (bIf (aVal (aBin gEq (aBin gIx (aVar 1) (aC (.int 0))) (aC (.str "box")))) (bRet (aBin gIx (aCB gDict (aCons (aBin gIx (aBin gIx (aBin gIx (aVar 0) (aC (.int 0))) (aBin gIx (aVar 1) (aC (.int 1)))) (aC (.int 2))) aNil)) (aBin gIx (aVar 1) (aC (.int 2))))) bNext)
    (bRet (aBin gIx (aCB gDict (aCons (aIf (aVal (aBin gEq (aBin gIx (aVar 1) (aC (.int 0))) (aC (.str "register")))) (aBin gIx (aVar 0) (aC (.int 1))) (aBin gIx (aVar 0) (aC (.int 2)))) aNil)) (aBin gIx (aVar 1) (aC (.int 1))))))
def f_place_worth : List AV → M AV := runB 2 r_place_worth
theorem c_place_worth (h : Hd K mg) : CalA P w K mg base 1 "place_worth" 2 f_place_worth := cal_mk h.f_place_worth h.g_place_worth sc_place_worth (fun _ _ _ _ _ _ us hl => match us, hl with | [_, _], _ => rfl) (by
  intro cdv A outer s H E hr tk
  exact (b_cons (s_if (t_cmp (o_eq hr.units) r_eq (a_ix (hu_of hr) (a_var 1) a_int) a_str (nomark _)) (b_one (s_ret (a_ix (hu_of hr) (a_cb r_dict (pe_callTy (c_dict (by rfl)) (by rfl) h.b_dict (by decide +kernel) (l_cons (a_ix (hu_of hr) (a_ix (hu_of hr) (a_ix (hu_of hr) (a_var 0) a_int) (a_ix (hu_of hr) (a_var 1) a_int)) a_int) l_nil))) (a_ix (hu_of hr) (a_var 1) a_int)))) b_nil)
      (b_one (s_ret (a_ix (hu_of hr) (a_cb r_dict (pe_callTy (c_dict (by rfl)) (by rfl) h.b_dict (by decide +kernel) (l_cons (a_if (t_cmp (o_eq hr.units) r_eq (a_ix (hu_of hr) (a_var 1) a_int) a_str (nomark _)) (a_ix (hu_of hr) (a_var 0) a_int) (a_ix (hu_of hr) (a_var 0) a_int)) l_nil))) (a_ix (hu_of hr) (a_var 1) a_int))))))
def r_told_worths : ASt → M AOut := (bSeq (bSet 1 (aLst aNil))
    (bSeq (bFor (aIt (aVar 0)) (agName 2)
        (bIf (aVal (aBin gEq (aBin gIx (aVar 2) (aC (.int 0))) (aC (.str "tell")))) (bDrop (aMt isLst gAppend (aVar 1) (aCons (aBin gIx (aVar 2) (aC (.int 1))) aNil))) (bIf (aVal (aBin gEq (aBin gIx (aVar 2) (aC (.int 0))) (aC (.str "ask")))) (bDrop (aMt isLst gExtT (aVar 1) (aCons (aBin gIx (aVar 2) (aC (.int 2))) aNil))) bNext)))
    (bRet (aVar 1))))
def f_told_worths : List AV → M AV := runB 3 r_told_worths
theorem c_told_worths (h : Hd K mg) : CalA P w K mg base 1 "told_worths" 1 f_told_worths := cal_mk h.f_told_worths h.g_told_worths sc_told_worths (fun _ _ _ _ _ _ us hl => match us, hl with | [_], _ => rfl) (by
  intro cdv A outer s H E hr tk
  exact (b_cons (s_set (i := 1) sc_told_worths.nd rfl (by first | exact Or.inl rfl | exact Or.inr rfl) (a_lst l_nil))
      (b_cons (s_for PassesOwn.leaving (by rfl) (i_seq (a_var 0)) (g_name (i := 2) sc_told_worths.nd rfl (by first | exact Or.inl rfl | exact Or.inr rfl))
        (b_one (s_if (t_cmp (o_eq hr.units) r_eq (a_ix (hu_of hr) (a_var 2) a_int) a_str (nomark _)) (b_one (s_expr (a_mt p_lst r_append (pe_bm PySem.F.plainAttrs_list PySem.F.slot_list_append PySem.F.type_list_append mt_append (a_var 1) (l_cons (a_ix (hu_of hr) (a_var 2) a_int) l_nil))))) (b_one (s_if (t_cmp (o_eq hr.units) r_eq (a_ix (hu_of hr) (a_var 2) a_int) a_str (nomark _)) (b_one (s_expr (a_mt p_lst r_extT (pe_bm PySem.F.plainAttrs_list PySem.F.slot_list_extend PySem.F.type_list_extend mt_extT (a_var 1) (l_cons (a_ix (hu_of hr) (a_var 2) a_int) l_nil))))) b_nil)))))
      (b_one (s_ret (a_var 1))))))
def r_seen_worths : ASt → M AOut := (bSeq (bAsg (aVar 2) (agSeq 3 (agCons (agName 3) (agCons (agName 4) (agCons (agName 5) agNil)))))
    (bSeq (bSet 6 (aLc (aIt (aVar 3)) (cName 7) aYes (aCallR 2 f_place_worth (aCons (aVar 0) (aCons (aVar 7) aNil))) [7]))
    (bRet (aIf (aVal (aBin gEq (aVar 4) (aC (.int 1)))) (aCB gTuple (aCons (aBin gAdd (aVar 6) (aCall 1 f_told_worths (aCons (aVar 1) aNil))) aNil)) (aCB gTuple (aCons (aVar 6) aNil))))))
def f_seen_worths : List AV → M AV := runB 8 r_seen_worths
theorem c_seen_worths (h : Hd K mg) : CalA P w K mg base 2 "seen_worths" 3 f_seen_worths := cal_mk h.f_seen_worths h.g_seen_worths sc_seen_worths (fun _ _ _ _ _ _ us hl => match us, hl with | [_, _, _], _ => rfl) (by
  intro cdv A outer s H E hr tk
  exact (b_cons (s_asg (a_var 2) (g_seq (by rfl) (gs_cons (g_name (i := 3) sc_seen_worths.nd rfl (by first | exact Or.inl rfl | exact Or.inr rfl)) (gs_cons (g_name (i := 4) sc_seen_worths.nd rfl (by first | exact Or.inl rfl | exact Or.inr rfl)) (gs_cons (g_name (i := 5) sc_seen_worths.nd rfl (by first | exact Or.inl rfl | exact Or.inr rfl)) gs_nil)))))
      (b_cons (s_setLc (i := 6) (by rfl) sc_seen_worths.nd rfl rfl (by first | exact sw_true rfl rfl rfl (by decide +kernel) | rfl) (i_seq (a_var 3)) (blkOk_by (N := n_seen_worths) (sc := defScope s_seen_worths) (own := [("place", 7)]) (by decide +kernel)) (tg_name 7 (by decide)) (fun _ _ _ _ _ => (pg_name (i := 7) sc_seen_worths.nd rfl (by first | exact Or.inl rfl | exact Or.inr rfl))) (fun _ _ _ _ _ => ts_nil) (fun _ _ _ _ _ => (a_callR (c_place_worth hp h) hr tkF (by decide) (by rfl) (l_cons (a_var 0) (l_cons (a_var 7) l_nil)))))
      (b_one (s_ret (a_if (t_cmp (o_eq hr.units) r_eq (a_var 4) a_int (nomark _)) (a_cb r_tuple (pe_callTy c_tuple (by rfl) h.b_tuple (by decide +kernel) (l_cons (a_op o_add r_add (a_var 6) (a_call (c_told_worths hp h) hr tk (by decide) (by rfl) (l_cons (a_var 1) l_nil))) l_nil))) (a_cb r_tuple (pe_callTy c_tuple (by rfl) h.b_tuple (by decide +kernel) (l_cons (a_var 6) l_nil)))))))))
def r_is_too_great : ASt → M AOut := (bSeq (bSet 1 (aCB gAbs (aCons (aVar 0) aNil)))
    (bSeq (bFor (aRng (aCons (aBin (gII cDiv fun i j => i / j) (aC (.int 1000)) (aC (.int 50))) aNil)) (agName 2)
        (bAug 1 (gII cDiv fun i j => i / j) (aC (.int (10 ^ 50)))))
    (bRet (aBin (gIB fun i j => decide (j < i)) (aVar 1) (aC (.int 0))))))
def f_is_too_great : List AV → M AV := runB 3 r_is_too_great
theorem c_is_too_great (h : Hd K mg) : CalA P w K mg base 1 "is_too_great" 1 f_is_too_great := cal_mk h.f_is_too_great h.g_is_too_great sc_is_too_great (fun _ _ _ _ _ _ us hl => match us, hl with | [_], _ => rfl) (by
  intro cdv A outer s H E hr tk
  exact (b_cons (s_set (i := 1) sc_is_too_great.nd rfl (by first | exact Or.inl rfl | exact Or.inr rfl) (a_cb r_abs (pe_callB c_abs (by rfl) h.b_abs (by decide +kernel) (l_cons (a_var 0) l_nil))))
      (b_cons (s_for PassesOwn.leaving (by rfl) (i_rng (by rfl) h.b_range (l_cons (a_op op_fdivW (r_II fun _ _ => cDiv_ok) (a_gc (by rfl) h.v_FIGURES (fun _ _ => .int _)) a_int) l_nil)) (g_name (i := 2) sc_is_too_great.nd rfl (by first | exact Or.inl rfl | exact Or.inr rfl))
        (b_one (s_aug (i := 1) sc_is_too_great.nd rfl (by first | exact Or.inl rfl | exact Or.inr rfl) (a_gc (by rfl) h.v_FIFTY (fun _ _ => .int _)) iop_fdivW (r_II fun _ _ => cDiv_ok))))
      (b_one (s_ret (a_cmp op_gt r_IB (a_var 1) a_int (nomark _)))))))
def r_is_real : ASt → M AOut := (bSeq (bIf (aVal (aBin gIn (aVar 0) (aTup (aCons (aC (.str "add")) (aCons (aC (.str "sub")) aNil))))) (bRet (aBin gEq (aCB gLen (aCons (aVar 1) aNil)) (aC (.int 2)))) bNext)
    (bSeq (bIf (aVal (aBin gEq (aVar 0) (aC (.str "neg")))) (bRet (aBin gEq (aCB gLen (aCons (aVar 1) aNil)) (aC (.int 1)))) bNext)
    (bRet (aAndV (aMt isStr gDigit (aVar 0) aNil) (aBin gEq (aCB gLen (aCons (aVar 1) aNil)) (aC (.int 0)))))))
def f_is_real : List AV → M AV := runB 2 r_is_real
theorem c_is_real (h : Hd K mg) : CalA P w K mg base 1 "is_real" 2 f_is_real := cal_mk h.f_is_real h.g_is_real sc_is_real (fun _ _ _ _ _ _ us hl => match us, hl with | [_, _], _ => rfl) (by
  intro cdv A outer s H E hr tk
  exact (b_cons (s_if (t_cmp (o_in (hu65 hr)) r_in (a_var 0) (a_tup (l_cons a_str (l_cons a_str l_nil))) (by rfl)) (b_one (s_ret (a_cmp (o_eq hr.units) r_eq (a_cb r_len (pe_callB c_len (by rfl) h.b_len (by decide +kernel) (l_cons (a_var 1) l_nil))) a_int (nomark _)))) b_nil)
      (b_cons (s_if (t_cmp (o_eq hr.units) r_eq (a_var 0) a_str (nomark _)) (b_one (s_ret (a_cmp (o_eq hr.units) r_eq (a_cb r_len (pe_callB c_len (by rfl) h.b_len (by decide +kernel) (l_cons (a_var 1) l_nil))) a_int (nomark _)))) b_nil)
      (b_one (s_ret (a_and (a_mt0 p_str r_digit (pe_bm0 PySem.F.plainAttrs_str PySem.F.slot_str_isdigit PySem.F.type_str_isdigit mt_isdigit (a_var 0))) (a_one (a_cmp (o_eq hr.units) r_eq (a_cb r_len (pe_callB c_len (by rfl) h.b_len (by decide +kernel) (l_cons (a_var 1) l_nil))) a_int (nomark _)))))))))
def r_real_worth : ASt → M AOut := (bSeq (bIf (aVal (aBin gEq (aVar 0) (aC (.str "add")))) (bRet (aBin gAdd (aBin gIx (aVar 1) (aC (.int 0))) (aBin gIx (aVar 1) (aC (.int 1))))) bNext)
    (bSeq (bIf (aVal (aBin gEq (aVar 0) (aC (.str "sub")))) (bRet (aBin (gII (fun _ _ => true) fun i j => i - j) (aBin gIx (aVar 1) (aC (.int 0))) (aBin gIx (aVar 1) (aC (.int 1))))) bNext)
    (bSeq (bIf (aVal (aBin gEq (aVar 0) (aC (.str "neg")))) (bRet (aUn gNeg (aBin gIx (aVar 1) (aC (.int 0))))) bNext)
    (bRet (aCB gInt (aCons (aVar 0) aNil))))))
def f_real_worth : List AV → M AV := runB 2 r_real_worth
theorem c_real_worth (h : Hd K mg) : CalA P w K mg base 1 "real_worth" 2 f_real_worth := cal_mk h.f_real_worth h.g_real_worth sc_real_worth (fun _ _ _ _ _ _ us hl => match us, hl with | [_, _], _ => rfl) (by
  intro cdv A outer s H E hr tk
  exact (b_cons (s_if (t_cmp (o_eq hr.units) r_eq (a_var 0) a_str (nomark _)) (b_one (s_ret (a_op o_add r_add (a_ix (hu_of hr) (a_var 1) a_int) (a_ix (hu_of hr) (a_var 1) a_int)))) b_nil)
      (b_cons (s_if (t_cmp (o_eq hr.units) r_eq (a_var 0) a_str (nomark _)) (b_one (s_ret (a_op op_sub r_II0 (a_ix (hu_of hr) (a_var 1) a_int) (a_ix (hu_of hr) (a_var 1) a_int)))) b_nil)
      (b_cons (s_if (t_cmp (o_eq hr.units) r_eq (a_var 0) a_str (nomark _)) (b_one (s_ret (a_un un_neg r_neg (a_ix (hu_of hr) (a_var 1) a_int)))) b_nil)
      (b_one (s_ret (a_cb r_int (pe_callTy c_int (by rfl) h.b_int (by decide +kernel) (l_cons (a_var 0) l_nil)))))))))
def r_mixed_worth : ASt → M AOut := (bSeq (bSet 3 (aBin (gII cPos fun i j => i % j) (aVar 0) (aC (.int 1000003))))
    (bSeq (bFor (aIt (aVar 1)) (agName 4)
        (bSet 3 (aBin (gII cPos fun i j => i % j) (aBin gAdd (aBin gAdd (aBin gMul (aC (.int 31)) (aVar 3)) (aMt isStr gIndex (aC kv_SIGNS) (aCons (aVar 4) aNil))) (aC (.int 1))) (aC (.int 1000003)))))
    (bSeq (bFor (aIt (aVar 2)) (agName 5)
        (bSet 3 (aBin (gII cPos fun i j => i % j) (aBin gAdd (aBin gAdd (aBin gMul (aC (.int 37)) (aVar 3)) (aVar 5)) (aC (.int 1))) (aC (.int 1000003)))))
    (bRet (aBin (gII (fun _ _ => true) fun i j => i - j) (aVar 3) (aC (.int 500000)))))))
def f_mixed_worth : List AV → M AV := runB 6 r_mixed_worth
theorem c_mixed_worth (h : Hd K mg) : CalA P w K mg base 1 "mixed_worth" 3 f_mixed_worth := cal_mk h.f_mixed_worth h.g_mixed_worth sc_mixed_worth (fun _ _ _ _ _ _ us hl => match us, hl with | [_, _, _], _ => rfl) (by
  intro cdv A outer s H E hr tk
  exact (b_cons (s_set (i := 3) sc_mixed_worth.nd rfl (by first | exact Or.inl rfl | exact Or.inr rfl) (a_op op_mod (r_II fun _ _ => cPos_ok) (a_var 0) (a_gc (by rfl) h.v_MODULUS (fun _ _ => .int _))))
      (b_cons (s_for PassesOwn.leaving (by rfl) (i_seq (a_var 1)) (g_name (i := 4) sc_mixed_worth.nd rfl (by first | exact Or.inl rfl | exact Or.inr rfl))
        (b_one (s_set (i := 3) sc_mixed_worth.nd rfl (by first | exact Or.inl rfl | exact Or.inr rfl) (a_op op_mod (r_II fun _ _ => cPos_ok) (a_op o_add r_add (a_op o_add r_add (a_op o_mul r_mul a_int (a_var 3)) (a_mt p_str r_index (pe_bm PySem.F.plainAttrs_str PySem.F.slot_str_index PySem.F.type_str_index mt_sindex (a_gc (by rfl) h.v_SIGNS (fun _ _ => .str _)) (l_cons (a_var 4) l_nil)))) a_int) (a_gc (by rfl) h.v_MODULUS (fun _ _ => .int _))))))
      (b_cons (s_for PassesOwn.leaving (by rfl) (i_seq (a_var 2)) (g_name (i := 5) sc_mixed_worth.nd rfl (by first | exact Or.inl rfl | exact Or.inr rfl))
        (b_one (s_set (i := 3) sc_mixed_worth.nd rfl (by first | exact Or.inl rfl | exact Or.inr rfl) (a_op op_mod (r_II fun _ _ => cPos_ok) (a_op o_add r_add (a_op o_add r_add (a_op o_mul r_mul a_int (a_var 3)) (a_var 5)) a_int) (a_gc (by rfl) h.v_MODULUS (fun _ _ => .int _))))))
      (b_one (s_ret (a_op op_sub r_II0 (a_var 3) (a_gc (by rfl) h.v_HALF (fun _ _ => .int _)))))))))
def r_World_init (w : PySem.World) : ASt → M AOut := (bSeq (bFld "World" "meaning" (aVar 0) (aVar 1))
    (bSeq (bFld "World" "reads" (aVar 0) (aVar 2))
    (bSeq (bFld "World" "answers" (aVar 0) (aVar 3))
    (bSeq (bFld "World" "table" (aVar 0) aDnew)
    (bIf (aAnd (aVal (aBin gIsNot (aVar 1) (aC .non))) (aVal (aBin gNe (aBin gIx (aVar 1) (aC (.int 0))) (aC (.str "numbers"))))) (bFld "World" "table" (aVar 0) (aDcN w (aIt (aBin gIx (aVar 1) (aC (.int 1)))) (cName 4) aYes (aSl (aVar 4) aNoPart (aPart (aC (.int 2)))) (aBin gIx (aVar 4) (aC (.int 2))) [4])) bNext)))))
def f_World_init (w : PySem.World) : List AV → M AV := runB 5 (r_World_init w)
theorem k_World (h : Hd K mg) : MakA P w K mg base 1 "World" 4 [] (f_World_init w) := mak_mk h.mk_World h.g_World h.f_World_init sc_World_init (fun _ _ _ _ _ _ us hl => match us, hl with | [_, _, _, _], _ => rfl) (by
  intro cdv A outer s H E hr tk
  exact (b_cons (s_fld "World" h.c_World h.na_World_meaning (a_var 0) (a_var 1))
      (b_cons (s_fld "World" h.c_World h.na_World_reads (a_var 0) (a_var 2))
      (b_cons (s_fld "World" h.c_World h.na_World_answers (a_var 0) (a_var 3))
      (b_cons (s_fld "World" h.c_World h.na_World_table (a_var 0) a_dnew)
      (b_one (s_if (PW.pt (w_and (t_cmp o_isnot r_isnot (a_var 1) a_non (nomark _)) (w_and1 (t_cmp (o_ne hr.units) r_ne (a_ix (hu_of hr) (a_var 1) a_int) a_str (nomark _))))) (b_one (s_fld "World" h.c_World h.na_World_table (a_var 0) (a_dcN hr.units (by rfl) sc_World_init.nd (i_seq (a_ix (hu_of hr) (a_var 1) a_int)) (blkOk_by (N := n_World_init) (sc := defScope s_World_init) (own := [("row", 4)]) (by decide +kernel)) (tg_name 4 (by decide)) (fun _ _ _ _ _ => (pg_name (i := 4) sc_World_init.nd rfl (by first | exact Or.inl rfl | exact Or.inr rfl))) (fun _ _ _ _ _ => ts_nil) (fun _ _ _ _ _ => (a_sl (a_var 4) q_none (q_some a_int))) (fun _ _ _ _ _ => (a_ix (hu_of hr) (a_var 4) a_int))))) b_nil)))))))
omit hp in
theorem absI_nonneg (x : Int) : 0 ≤ (if x < 0 then -x else x) := by split <;> omega
def Sm (x : Int) : Prop := x.natAbs < 10 ^ 1000
def v_is_too_great : List AV → M AV := fun xs A => match xs with
  | [.int x] => some ([Sm x], A, .ok (.bl false))
  | _ => none
def cutI : Nat → Int → Int
  | 0, x => x
  | n + 1, x => cutI n (x / (10 ^ 50))
omit hp in
theorem cutI_small : ∀ (n : Nat) (x : Int), 0 ≤ x → x < (10 ^ 50) ^ n → cutI n x = 0
  | 0, x, h, h2 => by
    have h2 : x < 1 := h2
    show x = 0
    omega
  | n + 1, x, h, h2 => cutI_small n _ (Int.ediv_nonneg h (by decide)) (Int.ediv_lt_of_lt_mul (by decide) (by rw [← Int.pow_succ]; exact h2))
omit hp in
theorem run_too_great (x : Int) (A : AH) : f_is_too_great [.int x] A = some ([], A, .ok (.bl (decide (0 < cutI 20 (if x < 0 then -x else x))))) := by kernel_rfl
theorem c_is_too_greatV (h : Hd K mg) : CalA P w K mg base 1 "is_too_great" 1 v_is_too_great := (c_is_too_great hp h).imp fun xs A l A' r hn e hl => by
  unfold v_is_too_great at e
  split at e
  · rename_i x
    cases e
    have hs : Sm x := hl _ List.mem_cons_self
    refine ⟨[], ?_, nofun⟩
    rw [run_too_great, cutI_small 20 _ (absI_nonneg x) ?_]
    · rfl
    · have e1 : (if x < 0 then -x else x) = (x.natAbs : Int) := by split <;> omega
      have e2 : ((10 ^ 50) ^ 20 : Int) = ((10 ^ 1000 : Nat) : Int) := by decide +kernel
      rw [e1, e2]
      exact Int.ofNat_lt.mpr hs
  · cases e
def f_is_too_greatV : List AV → M AV := v_is_too_great
def r_World_looked_up (w : PySem.World) : ASt → M AOut := (bSeq (bSet 3 (aBin gIx (aUn (gFld "World" "meaning") (aVar 0)) (aC (.int 0))))
    (bSeq (bIf (aAnd (aVal (aBin gNe (aVar 3) (aC (.str "table")))) (aVal (aCallR 2 f_is_real (aCons (aVar 1) (aCons (aVar 2) aNil))))) (bRet (aCallR 2 f_real_worth (aCons (aVar 1) (aCons (aVar 2) aNil)))) bNext)
    (bSeq (bIf (aVal (aBin gEq (aVar 3) (aC (.str "numbers")))) (bRet (aCallR 3 f_mixed_worth (aCons (aBin gIx (aUn (gFld "World" "meaning") (aVar 0)) (aC (.int 1))) (aCons (aVar 1) (aCons (aVar 2) aNil))))) bNext)
    (bRet (aNGet w (aUn (gFld "World" "table") (aVar 0)) (aTup (aCons (aVar 1) (aCons (aVar 2) aNil))) (aBin gIx (aUn (gFld "World" "meaning") (aVar 0)) (aC (.int 2))))))))
def f_World_looked_up (w : PySem.World) : List AV → M AV := runB 4 (r_World_looked_up w)
theorem c_World_looked_up (h : Hd K mg) : MetA P w K mg base 2 "World" "looked_up" 3 (f_World_looked_up w) := met_mk h.c_World h.m_World_looked_up h.f_World_looked_up sc_World_looked_up (fun _ _ _ _ _ _ us hl => match us, hl with | [_, _, _], _ => rfl) (by
  intro cdv A outer s H E hr tk
  exact (b_cons (s_set (i := 3) sc_World_looked_up.nd rfl (by first | exact Or.inl rfl | exact Or.inr rfl) (a_ix (hu_of hr) (a_fld "World" h.c_World h.na_World_meaning (a_var 0)) a_int))
      (b_cons (s_if (PW.pt (w_and (t_cmp (o_ne hr.units) r_ne (a_var 3) a_str (nomark _)) (w_and1 (t_val (a_callR (c_is_real hp h) hr tk (by decide) (by rfl) (l_cons (a_var 1) (l_cons (a_var 2) l_nil))))))) (b_one (s_ret (a_callR (c_real_worth hp h) hr tk (by decide) (by rfl) (l_cons (a_var 1) (l_cons (a_var 2) l_nil))))) b_nil)
      (b_cons (s_if (t_cmp (o_eq hr.units) r_eq (a_var 3) a_str (nomark _)) (b_one (s_ret (a_callR (c_mixed_worth hp h) hr tk (by decide) (by rfl) (l_cons (a_ix (hu_of hr) (a_fld "World" h.c_World h.na_World_meaning (a_var 0)) a_int) (l_cons (a_var 1) (l_cons (a_var 2) l_nil)))))) b_nil)
      (b_one (s_ret (a_nget hr.units (a_fld "World" h.c_World h.na_World_table (a_var 0)) (a_tup (l_cons (a_var 1) (l_cons (a_var 2) l_nil))) (a_ix (hu_of hr) (a_fld "World" h.c_World h.na_World_meaning (a_var 0)) a_int) ⟨rfl, rfl, rfl, rfl⟩)))))))
def r_World_apply (w : PySem.World) : ASt → M AOut := (bSeq (bSet 3 (aMeth "World" "looked_up" 3 (f_World_looked_up w) (aVar 0) (aCons (aVar 1) (aCons (aVar 2) aNil))))
    (bSeq (bIf (aVal (aCallR 1 f_is_too_greatV (aCons (aVar 3) aNil))) (aRaise "TooLarge" ["what", "limit"] (aCons (aC (.str "figures")) (aCons (aC (.int 1000)) aNil))) bNext)
    (bRet (aVar 3))))
def f_World_apply (w : PySem.World) : List AV → M AV := runB 4 (r_World_apply w)
theorem c_World_apply (h : Hd K mg) : MetA P w K mg base 3 "World" "apply" 3 (f_World_apply w) := met_mk h.c_World h.m_World_apply h.f_World_apply sc_World_apply (fun _ _ _ _ _ _ us hl => match us, hl with | [_, _, _], _ => rfl) (by
  intro cdv A outer s H E hr tk
  exact (b_cons (s_set (i := 3) sc_World_apply.nd rfl (by first | exact Or.inl rfl | exact Or.inr rfl) (a_meth (c_World_looked_up hp h) hr tk (by decide) (a_var 0) (l_cons (a_var 1) (l_cons (a_var 2) l_nil))))
      (b_cons (s_if (t_val (a_callR (c_is_too_greatV hp h) hr tk (by decide) (by rfl) (l_cons (a_var 3) l_nil))) (b_one (s_raise (k_TooLarge hp h) (by decide) hr tk (by decide) (by rfl) (l_cons a_str (l_cons (a_gc (by rfl) h.v_FIGURES (fun _ _ => .int _)) l_nil)))) b_nil)
      (b_one (s_ret (a_var 3))))))
def r_World_read : ASt → M AOut := (bRet (aIf (aVal (aBin gLtX (aVar 1) (aCB gLen (aCons (aUn (gFld "World" "reads") (aVar 0)) aNil)))) (aBin gIx (aUn (gFld "World" "reads") (aVar 0)) (aVar 1)) (aC .non)))
def f_World_read : List AV → M AV := runB 2 r_World_read
theorem c_World_read (h : Hd K mg) : MetA P w K mg base 1 "World" "read" 2 f_World_read := met_mk h.c_World h.m_World_read h.f_World_read sc_World_read (fun _ _ _ _ _ _ us hl => match us, hl with | [_, _], _ => rfl) (by
  intro cdv A outer s H E hr tk
  exact (b_one (s_ret (a_if (t_cmp (o_lt hr.units) r_lt (a_var 1) (a_cb r_len (pe_callB c_len (by rfl) h.b_len (by decide +kernel) (l_cons (a_fld "World" h.c_World h.na_World_reads (a_var 0)) l_nil))) (nomark _)) (a_ix (hu_of hr) (a_fld "World" h.c_World h.na_World_reads (a_var 0)) (a_var 1)) a_non))))
def r_World_answer : ASt → M AOut := (bRet (aIf (aVal (aBin gLtX (aVar 1) (aCB gLen (aCons (aUn (gFld "World" "answers") (aVar 0)) aNil)))) (aBin gIx (aUn (gFld "World" "answers") (aVar 0)) (aVar 1)) (aC .non)))
def f_World_answer : List AV → M AV := runB 2 r_World_answer
theorem c_World_answer (h : Hd K mg) : MetA P w K mg base 1 "World" "answer" 2 f_World_answer := met_mk h.c_World h.m_World_answer h.f_World_answer sc_World_answer (fun _ _ _ _ _ _ us hl => match us, hl with | [_, _], _ => rfl) (by
  intro cdv A outer s H E hr tk
  exact (b_one (s_ret (a_if (t_cmp (o_lt hr.units) r_lt (a_var 1) (a_cb r_len (pe_callB c_len (by rfl) h.b_len (by decide +kernel) (l_cons (a_fld "World" h.c_World h.na_World_answers (a_var 0)) l_nil))) (nomark _)) (a_ix (hu_of hr) (a_fld "World" h.c_World h.na_World_answers (a_var 0)) (a_var 1)) a_non))))
def r_is_small : ASt → M AOut := (bRet (aAndV (aCallR 1 f_is_integer (aCons (aVar 0) aNil)) (aNotV (aCallR 1 f_is_too_greatV (aCons (aVar 0) aNil)))))
def f_is_small : List AV → M AV := runB 1 r_is_small
theorem c_is_small (h : Hd K mg) : CalA P w K mg base 2 "is_small" 1 f_is_small := cal_mk h.f_is_small h.g_is_small sc_is_small (fun _ _ _ _ _ _ us hl => match us, hl with | [_], _ => rfl) (by
  intro cdv A outer s H E hr tk
  exact (b_one (s_ret (a_and (a_callR (c_is_integer hp h) hr tk (by decide) (by rfl) (l_cons (a_var 0) l_nil)) (a_one (a_not (a_callR (c_is_too_greatV hp h) hr tk (by decide) (by rfl) (l_cons (a_var 0) l_nil))))))))
def r_is_shape : ASt → M AOut := (bSeq (bIf (aOr (aNot (aVal (aCall 1 f_is_world_form (aCons (aVar 0) aNil)))) (aNot (aVal (aCB gAll (aCons (aLc (aIt (aBin gIx (aVar 0) (aC (.int 1)))) (cName 4) aYes (aCallR 1 f_is_small (aCons (aVar 4) aNil)) [4]) aNil))))) (bRet (aC (.bl false))) bNext)
    (bSeq (bSet 1 (aBin gIx (aVar 0) (aC (.int 0))))
    (bSeq (bIf (aVal (aBin gEq (aBin gIx (aVar 1) (aC (.int 0))) (aC (.str "numbers")))) (bRet (aCallR 1 f_is_small (aCons (aBin gIx (aVar 1) (aC (.int 1))) aNil))) bNext)
    (bSeq (bFor (aIt (aBin gIx (aVar 1) (aC (.int 1)))) (agSeq 3 (agCons (agName 2) (agCons (agName 3) (agCons (agName 4) agNil))))
        (bIf (aOr (aNot (aVal (aCallR 1 f_is_operation (aCons (aVar 2) aNil)))) (aOr (aVal (aBin (gIB fun i j => decide (j < i)) (aCB gLen (aCons (aVar 3) aNil)) (aC (.int 3)))) (aNot (aVal (aCB gAll (aCons (aLc (aIt (aBin gAdd (aVar 3) (aTup (aCons (aVar 4) aNil)))) (cName 5) aYes (aCallR 1 f_is_small (aCons (aVar 5) aNil)) [5]) aNil)))))) (bRet (aC (.bl false))) bNext))
    (bRet (aCallR 1 f_is_small (aCons (aBin gIx (aVar 1) (aC (.int 2))) aNil)))))))
def f_is_shape : List AV → M AV := runB 6 r_is_shape
theorem c_is_shape (h : Hd K mg) : CalA P w K mg base 8 "is_shape" 1 f_is_shape := cal_mk h.f_is_shape h.g_is_shape sc_is_shape (fun _ _ _ _ _ _ us hl => match us, hl with | [_], _ => rfl) (by
  intro cdv A outer s H E hr tk
  exact (b_cons (s_if (PW.pt (w_or (t_not (t_val (a_call (c_is_world_form hp h) hr tk (by decide) (by rfl) (l_cons (a_var 0) l_nil)))) (w_or1 (t_not (t_val (a_cb r_all (pe_callB (cr_all (by rfl)) (by rfl) h.b_all (by decide +kernel) (l_cons (a_lc (by rfl) sc_is_shape.nd (i_seq (a_ix (hu_of hr) (a_var 0) a_int)) (blkOk_by (N := n_is_shape) (sc := defScope s_is_shape) (own := [("worth", 4)]) (by decide +kernel)) (tg_name 4 (by decide)) (fun _ _ _ _ _ => (pg_name (i := 4) sc_is_shape.nd rfl (by first | exact Or.inl rfl | exact Or.inr rfl))) (fun _ _ _ _ _ => ts_nil) (fun _ _ _ _ _ => (a_callR (c_is_small hp h) hr tkF (by decide) (by rfl) (l_cons (a_var 4) l_nil)))) l_nil)))))))) (b_one (s_ret a_bl)) b_nil)
      (b_cons (s_set (i := 1) sc_is_shape.nd rfl (by first | exact Or.inl rfl | exact Or.inr rfl) (a_ix (hu_of hr) (a_var 0) a_int))
      (b_cons (s_if (t_cmp (o_eq hr.units) r_eq (a_ix (hu_of hr) (a_var 1) a_int) a_str (nomark _)) (b_one (s_ret (a_callR (c_is_small hp h) hr tk (by decide) (by rfl) (l_cons (a_ix (hu_of hr) (a_var 1) a_int) l_nil)))) b_nil)
      (b_cons (s_for PassesOwn.leaving (by rfl) (i_seq (a_ix (hu_of hr) (a_var 1) a_int)) (g_seq (by rfl) (gs_cons (g_name (i := 2) sc_is_shape.nd rfl (by first | exact Or.inl rfl | exact Or.inr rfl)) (gs_cons (g_name (i := 3) sc_is_shape.nd rfl (by first | exact Or.inl rfl | exact Or.inr rfl)) (gs_cons (g_name (i := 4) sc_is_shape.nd rfl (by first | exact Or.inl rfl | exact Or.inr rfl)) gs_nil))))
        (b_one (s_if (PW.pt (w_or (t_not (t_val (a_callR (c_is_operation hp h) hr tk (by decide) (by rfl) (l_cons (a_var 2) l_nil)))) (w_or (t_cmp op_gt r_IB (a_cb r_len (pe_callB c_len (by rfl) h.b_len (by decide +kernel) (l_cons (a_var 3) l_nil))) (a_gc (by rfl) h.v_MOST_PARTS_worlds (fun _ _ => .int _)) (nomark _)) (w_or1 (t_not (t_val (a_cb r_all (pe_callB (cr_all (by rfl)) (by rfl) h.b_all (by decide +kernel) (l_cons (a_lc (by rfl) sc_is_shape.nd (i_seq (a_op o_add r_add (a_var 3) (a_tup (l_cons (a_var 4) l_nil)))) (blkOk_by (N := n_is_shape) (sc := defScope s_is_shape) (own := [("one", 5)]) (by decide +kernel)) (tg_name 5 (by decide)) (fun _ _ _ _ _ => (pg_name (i := 5) sc_is_shape.nd rfl (by first | exact Or.inl rfl | exact Or.inr rfl))) (fun _ _ _ _ _ => ts_nil) (fun _ _ _ _ _ => (a_callR (c_is_small hp h) hr tkF (by decide) (by rfl) (l_cons (a_var 5) l_nil)))) l_nil))))))))) (b_one (s_ret a_bl)) b_nil)))
      (b_one (s_ret (a_callR (c_is_small hp h) hr tk (by decide) (by rfl) (l_cons (a_ix (hu_of hr) (a_var 1) a_int) l_nil)))))))))
def r_checked_world (w : PySem.World) : ASt → M AOut := (bSeq (bIf (aNot (aVal (aCall 1 f_is_shape (aCons (aVar 0) aNil)))) (aRaise "BadWorld" ["fault"] (aCons (aC (.str "shape")) aNil)) bNext)
    (bSeq (bSet 1 (aBin gIx (aVar 0) (aC (.int 0))))
    (bSeq (bSet 2 (aIf (aVal (aBin gEq (aBin gIx (aVar 1) (aC (.int 0))) (aC (.str "numbers")))) (aTup aNil) (aBin gIx (aVar 1) (aC (.int 1)))))
    (bSeq (bIf (aNot (aVal (aCB gAll (aCons (aLc (aZip (aCons (aVar 2) (aCons (aSl (aVar 2) (aPart (aC (.int 1))) aNoPart) aNil))) (cTup 2 (cCons (cName 3) (cCons (cName 4) cNil))) aYes (aBin gLtX (aSl (aVar 3) aNoPart (aPart (aC (.int 2)))) (aSl (aVar 4) aNoPart (aPart (aC (.int 2))))) [3, 4]) aNil)))) (aRaise "BadWorld" ["fault"] (aCons (aC (.str "rows")) aNil)) bNext)
    (bSeq (bIf (aAnd (aVal (aBin gEq (aBin gIx (aVar 1) (aC (.int 0))) (aC (.str "sums")))) (aVal (aCB gAny (aCons (aLc (aIt (aVar 2)) (cName 5) aYes (aCallR 2 f_is_real (aCons (aBin gIx (aVar 5) (aC (.int 0))) (aCons (aBin gIx (aVar 5) (aC (.int 1))) aNil))) [5]) aNil)))) (aRaise "BadWorld" ["fault"] (aCons (aC (.str "real")) aNil)) bNext)
    (bRet (aMake "World" 4 [] (f_World_init w) (aCons (aBin gIx (aVar 0) (aC (.int 0))) (aCons (aBin gIx (aVar 0) (aC (.int 1))) (aCons (aBin gIx (aVar 0) (aC (.int 2))) aNil))))))))))
def f_checked_world (w : PySem.World) : List AV → M AV := runB 6 (r_checked_world w)
theorem c_checked_world (h : Hd K mg) : CalA P w K mg base 9 "checked_world" 1 (f_checked_world w) := cal_mk h.f_checked_world h.g_checked_world sc_checked_world (fun _ _ _ _ _ _ us hl => match us, hl with | [_], _ => rfl) (by
  intro cdv A outer s H E hr tk
  exact (b_cons (s_if (t_not (t_val (a_call (c_is_shape hp h) hr tk (by decide) (by rfl) (l_cons (a_var 0) l_nil)))) (b_one (s_raise (k_BadWorld hp h) (by decide) hr tk (by decide) (by rfl) (l_cons a_str l_nil))) b_nil)
      (b_cons (s_set (i := 1) sc_checked_world.nd rfl (by first | exact Or.inl rfl | exact Or.inr rfl) (a_ix (hu_of hr) (a_var 0) a_int))
      (b_cons (s_set (i := 2) sc_checked_world.nd rfl (by first | exact Or.inl rfl | exact Or.inr rfl) (a_if (t_cmp (o_eq hr.units) r_eq (a_ix (hu_of hr) (a_var 1) a_int) a_str (nomark _)) (a_tup l_nil) (a_ix (hu_of hr) (a_var 1) a_int)))
      (b_cons (s_if (t_not (t_val (a_cb r_all (pe_callB (cr_all (by rfl)) (by rfl) h.b_all (by decide +kernel) (l_cons (a_lc (by rfl) sc_checked_world.nd (i_zip (by rfl) h.b_zip (l_cons (a_var 2) (l_cons (a_sl (a_var 2) (q_some a_int) q_none) l_nil))) (blkOk_by (N := n_checked_world) (sc := defScope s_checked_world) (own := [("one", 3), ("other", 4)]) (by decide +kernel)) (tg_tup (tgs_cons (tg_name 3 (by decide)) (tgs_cons (tg_name 4 (by decide)) tgs_nil))) (fun _ _ _ _ _ => (pg_tup (by rfl) (pgs_cons (pg_name (i := 3) sc_checked_world.nd rfl (by first | exact Or.inl rfl | exact Or.inr rfl)) (pgs_cons (pg_name (i := 4) sc_checked_world.nd rfl (by first | exact Or.inl rfl | exact Or.inr rfl)) pgs_nil)))) (fun _ _ _ _ _ => ts_nil) (fun _ _ _ _ _ => (a_cmp (o_lt hr.units) r_lt (a_sl (a_var 3) q_none (q_some a_int)) (a_sl (a_var 4) q_none (q_some a_int)) (nomark _)))) l_nil))))) (b_one (s_raise (k_BadWorld hp h) (by decide) hr tk (by decide) (by rfl) (l_cons a_str l_nil))) b_nil)
      (b_cons (s_if (PW.pt (w_and (t_cmp (o_eq hr.units) r_eq (a_ix (hu_of hr) (a_var 1) a_int) a_str (nomark _)) (w_and1 (t_val (a_cb r_any (pe_callB (cr_any (by rfl)) (by rfl) h.b_any (by decide +kernel) (l_cons (a_lc (by rfl) sc_checked_world.nd (i_seq (a_var 2)) (blkOk_by (N := n_checked_world) (sc := defScope s_checked_world) (own := [("row", 5)]) (by decide +kernel)) (tg_name 5 (by decide)) (fun _ _ _ _ _ => (pg_name (i := 5) sc_checked_world.nd rfl (by first | exact Or.inl rfl | exact Or.inr rfl))) (fun _ _ _ _ _ => ts_nil) (fun _ _ _ _ _ => (a_callR (c_is_real hp h) hr tkF (by decide) (by rfl) (l_cons (a_ix (hu_of hr) (a_var 5) a_int) (l_cons (a_ix (hu_of hr) (a_var 5) a_int) l_nil))))) l_nil))))))) (b_one (s_raise (k_BadWorld hp h) (by decide) hr tk (by decide) (by rfl) (l_cons a_str l_nil))) b_nil)
      (b_one (s_ret (a_make (k_World hp h) hr tk (by decide) (by rfl) (l_cons (a_ix (hu_of hr) (a_var 0) a_int) (l_cons (a_ix (hu_of hr) (a_var 0) a_int) (l_cons (a_ix (hu_of hr) (a_var 0) a_int) l_nil))))))))))))
def r_made_worth (w : PySem.World) : ASt → M AOut := (bSeq (bSet 3 (aMeth "World" "apply" 3 (f_World_apply w) (aVar 0) (aCons (aVar 1) (aCons (aVar 2) aNil))))
    (bSeq (bIf (aAnd (aVal (aCallR 1 f_is_integer (aCons (aVar 3) aNil))) (aVal (aBin (gIB fun i j => decide (j ≤ i)) (aCB gAbs (aCons (aVar 3) aNil)) (aBin gPow (aBin gPow (aC (.int 10)) (aC (.int 50))) (aC (.int 20)))))) (aRaise "TooLarge" ["what", "limit"] (aCons (aC (.str "figures")) (aCons (aC (.int 1000)) aNil))) bNext)
    (bRet (aVar 3))))
def f_made_worth (w : PySem.World) : List AV → M AV := runB 4 (r_made_worth w)
theorem c_made_worth (h : Hd K mg) : CalA P w K mg base 4 "made_worth" 3 (f_made_worth w) := cal_mk h.f_made_worth h.g_made_worth sc_made_worth (fun _ _ _ _ _ _ us hl => match us, hl with | [_, _, _], _ => rfl) (by
  intro cdv A outer s H E hr tk
  exact (b_cons (s_set (i := 3) sc_made_worth.nd rfl (by first | exact Or.inl rfl | exact Or.inr rfl) (a_meth (c_World_apply hp h) hr tk (by decide) (a_var 0) (l_cons (a_var 1) (l_cons (a_var 2) l_nil))))
      (b_cons (s_if (PW.pt (w_and (t_val (a_callR (c_is_integer hp h) hr tk (by decide) (by rfl) (l_cons (a_var 3) l_nil))) (w_and1 (t_cmp op_ge r_IB (a_cb r_abs (pe_callB c_abs (by rfl) h.b_abs (by decide +kernel) (l_cons (a_var 3) l_nil))) (a_op o_pow r_pow (a_op o_pow r_pow a_int a_int) a_int) (nomark _))))) (b_one (s_raise (k_TooLarge hp h) (by decide) hr tk (by decide) (by rfl) (l_cons a_str (l_cons (a_gc (by rfl) h.v_MOST_FIGURES (fun _ _ => .int _)) l_nil)))) b_nil)
      (b_one (s_ret (a_var 3))))))
def m_made_worth (w : PySem.World) : ASt → M AV := aMeth "World" "apply" 3 (f_World_apply w) (aVar 0) (aCons (aVar 1) (aCons (aVar 2) aNil))
def f_made_worthV (w : PySem.World) : List AV → M AV := fun xs A => match xs with
  | [s, o, p] => match m_made_worth w [some s, some o, some p, none] A with
    | some (l, A', .ok (.int x)) => some (l ++ [Sm x], A', .ok (.int x))
    | _ => none
  | _ => none
def q_made_worth : ASt → M Bool := aAnd (aVal (aCallR 1 f_is_integer (aCons (aVar 3) aNil))) (aVal (aBin (gIB fun i j => decide (j ≤ i)) (aCB gAbs (aCons (aVar 3) aNil)) (aBin gPow (aBin gPow (aC (.int 10)) (aC (.int 50))) (aC (.int 20)))))
omit hp in
theorem run_made_worth (s o p : AV) (x : Int) (A : AH) : q_made_worth [some s, some o, some p, some (.int x)] A = some ([], A, .ok (decide (((10 ^ 50) ^ 20 : Int) ≤ (if x < 0 then -x else x)))) := by kernel_rfl
theorem c_made_worthV (h : Hd K mg) : CalA P w K mg base 4 "made_worth" 3 (f_made_worthV w) := (c_made_worth hp h).imp fun xs A l A' r hn e hl => by
  unfold f_made_worthV at e
  split at e
  · rename_i s o p
    split at e
    · rename_i l1 A1 x e1
      cases e
      have hs : Sm x := hl _ (List.mem_append_right _ List.mem_cons_self)
      have c1 := run_made_worth s o p x A'
      have e1' : (if x < 0 then -x else x) = (x.natAbs : Int) := by split <;> omega
      have e2 : ((10 ^ 50) ^ 20 : Int) = ((10 ^ 1000 : Nat) : Int) := by decide +kernel
      rw [decide_eq_false (by rw [e1', e2]; exact Int.not_le.mpr (Int.ofNat_lt.mpr hs))] at c1
      refine ⟨(((l1 ++ []) ++ ((([] ++ []) ++ ([] ++ []))) ++ [])), bind_ok (bind_ok (bind_ok e1 rfl) (bind_ok (bind_ok c1 rfl) rfl)) rfl, fun q hq => hl q (by simp at hq; exact List.mem_append_left _ hq)⟩
    · cases e
  · cases e
def r_Machine_its_step : ASt → M AOut := (bSeq (bAsg (aBin gIx (aUn (gFld "Machine" "its_frames") (aVar 0)) (aUn gNeg (aC (.int 1)))) (agSeq 3 (agCons (agName 1) (agCons (agName 2) (agCons (agName 3) agNil)))))
    (bRet (aBin gIx (aBin gIx (aUn (gFld "Machine" "its_rows") (aVar 0)) (aVar 1)) (aVar 2))))
def f_Machine_its_step : List AV → M AV := runB 4 r_Machine_its_step
theorem c_Machine_its_step (h : Hd K mg) : MetA P w K mg base 1 "Machine" "its_step" 1 f_Machine_its_step := met_mk h.c_Machine h.m_Machine_its_step h.f_Machine_its_step sc_Machine_its_step (fun _ _ _ _ _ _ us hl => match us, hl with | [_], _ => rfl) (by
  intro cdv A outer s H E hr tk
  exact (b_cons (s_asg (a_ix (hu_of hr) (a_fld "Machine" h.c_Machine h.na_Machine_its_frames (a_var 0)) (a_un un_neg r_neg a_int)) (g_seq (by rfl) (gs_cons (g_name (i := 1) sc_Machine_its_step.nd rfl (by first | exact Or.inl rfl | exact Or.inr rfl)) (gs_cons (g_name (i := 2) sc_Machine_its_step.nd rfl (by first | exact Or.inl rfl | exact Or.inr rfl)) (gs_cons (g_name (i := 3) sc_Machine_its_step.nd rfl (by first | exact Or.inl rfl | exact Or.inr rfl)) gs_nil)))))
      (b_one (s_ret (a_ix (hu_of hr) (a_ix (hu_of hr) (a_fld "Machine" h.c_Machine h.na_Machine_its_rows (a_var 0)) (a_var 1)) (a_var 2))))))
def r_Machine_state : ASt → M AOut := (bSeq (bIf (aNot (aTru (aUn (gFld "Machine" "its_frames") (aVar 0)))) (bRet (aC (.str "ended"))) bNext)
    (bSeq (bIf (aTru (aUn (gFld "Machine" "its_fault") (aVar 0))) (bRet (aC (.str "fault"))) bNext)
    (bSeq (bSet 1 (aBin gIx (aMeth "Machine" "its_step" 1 f_Machine_its_step (aVar 0) aNil) (aC (.int 0))))
    (bSeq (bIf (aAnd (aVal (aBin gEq (aVar 1) (aC (.str "read")))) (aVal (aBin gIs (aMeth "World" "read" 2 f_World_read (aUn (gFld "Machine" "its_world") (aVar 0)) (aCons (aUn (gFld "Machine" "its_reads") (aVar 0)) aNil)) (aC .non)))) (bRet (aC (.str "dry"))) bNext)
    (bSeq (bIf (aAnd (aVal (aBin gIn (aVar 1) (aTup (aCons (aC (.str "ask")) (aCons (aC (.str "must")) aNil))))) (aVal (aBin gIs (aMeth "World" "answer" 2 f_World_answer (aUn (gFld "Machine" "its_world") (aVar 0)) (aCons (aCB gLen (aCons (aUn (gFld "Machine" "its_answers") (aVar 0)) aNil)) aNil)) (aC .non)))) (bRet (aC (.str "dry"))) bNext)
    (bRet (aC (.str "going"))))))))
def f_Machine_state : List AV → M AV := runB 2 r_Machine_state
theorem c_Machine_state (h : Hd K mg) : MetA P w K mg base 2 "Machine" "state" 1 f_Machine_state := met_mk h.c_Machine h.m_Machine_state h.f_Machine_state sc_Machine_state (fun _ _ _ _ _ _ us hl => match us, hl with | [_], _ => rfl) (by
  intro cdv A outer s H E hr tk
  exact (b_cons (s_if (t_not (t_truth (a_fld "Machine" h.c_Machine h.na_Machine_its_frames (a_var 0)))) (b_one (s_ret a_str)) b_nil)
      (b_cons (s_if (t_truth (a_fld "Machine" h.c_Machine h.na_Machine_its_fault (a_var 0))) (b_one (s_ret a_str)) b_nil)
      (b_cons (s_set (i := 1) sc_Machine_state.nd rfl (by first | exact Or.inl rfl | exact Or.inr rfl) (a_ix (hu_of hr) (a_meth0 (c_Machine_its_step hp h) hr tk (by decide) (a_var 0)) a_int))
      (b_cons (s_if (PW.pt (w_and (t_cmp (o_eq hr.units) r_eq (a_var 1) a_str (nomark _)) (w_and1 (t_cmp o_is r_is (a_meth (c_World_read hp h) hr tk (by decide) (a_fld "Machine" h.c_Machine h.na_Machine_its_world (a_var 0)) (l_cons (a_fld "Machine" h.c_Machine h.na_Machine_its_reads (a_var 0)) l_nil)) a_non (nomark _))))) (b_one (s_ret a_str)) b_nil)
      (b_cons (s_if (PW.pt (w_and (t_cmp (o_in (hu65 hr)) r_in (a_var 1) (a_tup (l_cons a_str (l_cons a_str l_nil))) (by rfl)) (w_and1 (t_cmp o_is r_is (a_meth (c_World_answer hp h) hr tk (by decide) (a_fld "Machine" h.c_Machine h.na_Machine_its_world (a_var 0)) (l_cons (a_cb r_len (pe_callB c_len (by rfl) h.b_len (by decide +kernel) (l_cons (a_fld "Machine" h.c_Machine h.na_Machine_its_answers (a_var 0)) l_nil))) l_nil)) a_non (nomark _))))) (b_one (s_ret a_str)) b_nil)
      (b_one (s_ret a_str))))))))
def r_Machine_worth_of : ASt → M AOut := (bRet (aIf (aVal (aCallR 1 f_is_register (aCons (aVar 1) aNil))) (aBin gIx (aUn (gFld "Machine" "its_registers") (aVar 0)) (aVar 1)) (aBin gIx (aBin gIx (aBin gIx (aUn (gFld "Machine" "its_frames") (aVar 0)) (aUn gNeg (aC (.int 1)))) (aC (.int 2))) (aVar 1))))
def f_Machine_worth_of : List AV → M AV := runB 2 r_Machine_worth_of
theorem c_Machine_worth_of (h : Hd K mg) : MetA P w K mg base 2 "Machine" "worth_of" 2 f_Machine_worth_of := met_mk h.c_Machine h.m_Machine_worth_of h.f_Machine_worth_of sc_Machine_worth_of (fun _ _ _ _ _ _ us hl => match us, hl with | [_, _], _ => rfl) (by
  intro cdv A outer s H E hr tk
  exact (b_one (s_ret (a_if (t_val (a_callR (c_is_register hp h) hr tk (by decide) (by rfl) (l_cons (a_var 1) l_nil))) (a_ix (hu_of hr) (a_fld "Machine" h.c_Machine h.na_Machine_its_registers (a_var 0)) (a_var 1)) (a_ix (hu_of hr) (a_ix (hu_of hr) (a_ix (hu_of hr) (a_fld "Machine" h.c_Machine h.na_Machine_its_frames (a_var 0)) (a_un un_neg r_neg a_int)) a_int) (a_var 1))))))
def r_Machine_worths_of : ASt → M AOut := (bRet (aCB gTuple (aCons (aLc (aIt (aVar 1)) (cName 2) aYes (aMeth "Machine" "worth_of" 2 f_Machine_worth_of (aVar 0) (aCons (aVar 2) aNil)) [2]) aNil)))
def f_Machine_worths_of : List AV → M AV := runB 3 r_Machine_worths_of
theorem c_Machine_worths_of (h : Hd K mg) : MetA P w K mg base 3 "Machine" "worths_of" 2 f_Machine_worths_of := met_mk h.c_Machine h.m_Machine_worths_of h.f_Machine_worths_of sc_Machine_worths_of (fun _ _ _ _ _ _ us hl => match us, hl with | [_, _], _ => rfl) (by
  intro cdv A outer s H E hr tk
  exact (b_one (s_ret (a_cb r_tuple (pe_callTy c_tuple (by rfl) h.b_tuple (by decide +kernel) (l_cons (a_lc (by rfl) sc_Machine_worths_of.nd (i_seq (a_var 1)) (blkOk_by (N := n_Machine_worths_of) (sc := defScope s_Machine_worths_of) (own := [("box", 2)]) (by decide +kernel)) (tg_name 2 (by decide)) (fun _ _ _ _ _ => (pg_name (i := 2) sc_Machine_worths_of.nd rfl (by first | exact Or.inl rfl | exact Or.inr rfl))) (fun _ _ _ _ _ => ts_nil) (fun _ _ _ _ _ => (a_meth (c_Machine_worth_of hp h) hr tkF (by decide) (a_var 0) (l_cons (a_var 2) l_nil)))) l_nil))))))
def r_Machine_put_into : ASt → M AOut := (bIf (aVal (aCallR 1 f_is_register (aCons (aVar 1) aNil))) (bAsg (aVar 2) (agSub (aUn (gFld "Machine" "its_registers") (aVar 0)) (aVar 1) gSetI)) (bAsg (aVar 2) (agSub (aBin gIx (aBin gIx (aUn (gFld "Machine" "its_frames") (aVar 0)) (aUn gNeg (aC (.int 1)))) (aC (.int 2))) (aVar 1) gSetI)))
def f_Machine_put_into : List AV → M AV := runB 3 r_Machine_put_into
theorem c_Machine_put_into (h : Hd K mg) : MetA P w K mg base 2 "Machine" "put_into" 3 f_Machine_put_into := met_mk h.c_Machine h.m_Machine_put_into h.f_Machine_put_into sc_Machine_put_into (fun _ _ _ _ _ _ us hl => match us, hl with | [_, _, _], _ => rfl) (by
  intro cdv A outer s H E hr tk
  exact (b_one (s_if (t_val (a_callR (c_is_register hp h) hr tk (by decide) (by rfl) (l_cons (a_var 1) l_nil))) (b_one (s_asg (a_var 2) (g_sub (a_fld "Machine" h.c_Machine h.na_Machine_its_registers (a_var 0)) (a_var 1) (p_set (hu_of hr)) r_set))) (b_one (s_asg (a_var 2) (g_sub (a_ix (hu_of hr) (a_ix (hu_of hr) (a_fld "Machine" h.c_Machine h.na_Machine_its_frames (a_var 0)) (a_un un_neg r_neg a_int)) a_int) (a_var 1) (p_set (hu_of hr)) r_set))))))
def r_Machine_do_plain (w : PySem.World) : ASt → M AOut := (bSeq (bSet 2 (aBin gIx (aVar 1) (aC (.int 0))))
    (bIf (aVal (aBin gEq (aVar 2) (aC (.str "op")))) (bDrop (aMeth "Machine" "put_into" 3 f_Machine_put_into (aVar 0) (aCons (aBin gIx (aVar 1) (aC (.int 1))) (aCons (aCall 3 (f_made_worthV w) (aCons (aUn (gFld "Machine" "its_world") (aVar 0)) (aCons (aBin gIx (aVar 1) (aC (.int 2))) (aCons (aMeth "Machine" "worths_of" 2 f_Machine_worths_of (aVar 0) (aCons (aBin gIx (aVar 1) (aC (.int 3))) aNil)) aNil)))) aNil)))) (bIf (aVal (aBin gEq (aVar 2) (aC (.str "copy")))) (bDrop (aMeth "Machine" "put_into" 3 f_Machine_put_into (aVar 0) (aCons (aBin gIx (aVar 1) (aC (.int 1))) (aCons (aMeth "Machine" "worth_of" 2 f_Machine_worth_of (aVar 0) (aCons (aBin gIx (aVar 1) (aC (.int 2))) aNil)) aNil)))) (bIf (aVal (aBin gEq (aVar 2) (aC (.str "take")))) (bDrop (aMeth "Machine" "put_into" 3 f_Machine_put_into (aVar 0) (aCons (aBin gIx (aVar 1) (aC (.int 1))) (aCons (aBin gIx (aUn (gFld "Machine" "its_cells") (aVar 0)) (aBin gIx (aVar 1) (aC (.int 2)))) aNil)))) (bIf (aVal (aBin gEq (aVar 2) (aC (.str "put")))) (bAsg (aMeth "Machine" "worth_of" 2 f_Machine_worth_of (aVar 0) (aCons (aBin gIx (aVar 1) (aC (.int 2))) aNil)) (agSub (aUn (gFld "Machine" "its_cells") (aVar 0)) (aBin gIx (aVar 1) (aC (.int 1))) gSetI)) (bIf (aVal (aBin gEq (aVar 2) (aC (.str "read")))) (bSeq (bSet 3 (aMeth "World" "read" 2 f_World_read (aUn (gFld "Machine" "its_world") (aVar 0)) (aCons (aUn (gFld "Machine" "its_reads") (aVar 0)) aNil)))
    (bSeq (bFldAug "Machine" "its_reads" gAddI (aVar 0) (aC (.int 1)))
    (bSeq (bDrop (aMeth "Machine" "put_into" 3 f_Machine_put_into (aVar 0) (aCons (aBin gIx (aVar 1) (aC (.int 1))) (aCons (aVar 3) aNil))))
    (bDrop (aMt isLst gAppend (aUn (gFld "Machine" "its_events") (aVar 0)) (aCons (aTup (aCons (aC (.str "read")) (aCons (aVar 3) aNil))) aNil)))))) (bIf (aVal (aBin gEq (aVar 2) (aC (.str "tell")))) (bDrop (aMt isLst gAppend (aUn (gFld "Machine" "its_events") (aVar 0)) (aCons (aTup (aCons (aC (.str "tell")) (aCons (aMeth "Machine" "worth_of" 2 f_Machine_worth_of (aVar 0) (aCons (aBin gIx (aVar 1) (aC (.int 1))) aNil)) aNil))) aNil))) bNext)))))))
def f_Machine_do_plain (w : PySem.World) : List AV → M AV := runB 4 (r_Machine_do_plain w)
theorem c_Machine_do_plain (h : Hd K mg) : MetA P w K mg base 5 "Machine" "do_plain" 2 (f_Machine_do_plain w) := met_mk h.c_Machine h.m_Machine_do_plain h.f_Machine_do_plain sc_Machine_do_plain (fun _ _ _ _ _ _ us hl => match us, hl with | [_, _], _ => rfl) (by
  intro cdv A outer s H E hr tk
  exact (b_cons (s_set (i := 2) sc_Machine_do_plain.nd rfl (by first | exact Or.inl rfl | exact Or.inr rfl) (a_ix (hu_of hr) (a_var 1) a_int))
      (b_one (s_if (t_cmp (o_eq hr.units) r_eq (a_var 2) a_str (nomark _)) (b_one (s_expr (a_meth (c_Machine_put_into hp h) hr tk (by decide) (a_var 0) (l_cons (a_ix (hu_of hr) (a_var 1) a_int) (l_cons (a_call (c_made_worthV hp h) hr tk (by decide) (by rfl) (l_cons (a_fld "Machine" h.c_Machine h.na_Machine_its_world (a_var 0)) (l_cons (a_ix (hu_of hr) (a_var 1) a_int) (l_cons (a_meth (c_Machine_worths_of hp h) hr tk (by decide) (a_var 0) (l_cons (a_ix (hu_of hr) (a_var 1) a_int) l_nil)) l_nil)))) l_nil))))) (b_one (s_if (t_cmp (o_eq hr.units) r_eq (a_var 2) a_str (nomark _)) (b_one (s_expr (a_meth (c_Machine_put_into hp h) hr tk (by decide) (a_var 0) (l_cons (a_ix (hu_of hr) (a_var 1) a_int) (l_cons (a_meth (c_Machine_worth_of hp h) hr tk (by decide) (a_var 0) (l_cons (a_ix (hu_of hr) (a_var 1) a_int) l_nil)) l_nil))))) (b_one (s_if (t_cmp (o_eq hr.units) r_eq (a_var 2) a_str (nomark _)) (b_one (s_expr (a_meth (c_Machine_put_into hp h) hr tk (by decide) (a_var 0) (l_cons (a_ix (hu_of hr) (a_var 1) a_int) (l_cons (a_ix (hu_of hr) (a_fld "Machine" h.c_Machine h.na_Machine_its_cells (a_var 0)) (a_ix (hu_of hr) (a_var 1) a_int)) l_nil))))) (b_one (s_if (t_cmp (o_eq hr.units) r_eq (a_var 2) a_str (nomark _)) (b_one (s_asg (a_meth (c_Machine_worth_of hp h) hr tk (by decide) (a_var 0) (l_cons (a_ix (hu_of hr) (a_var 1) a_int) l_nil)) (g_sub (a_fld "Machine" h.c_Machine h.na_Machine_its_cells (a_var 0)) (a_ix (hu_of hr) (a_var 1) a_int) (p_set (hu_of hr)) r_set))) (b_one (s_if (t_cmp (o_eq hr.units) r_eq (a_var 2) a_str (nomark _)) (b_cons (s_set (i := 3) sc_Machine_do_plain.nd rfl (by first | exact Or.inl rfl | exact Or.inr rfl) (a_meth (c_World_read hp h) hr tk (by decide) (a_fld "Machine" h.c_Machine h.na_Machine_its_world (a_var 0)) (l_cons (a_fld "Machine" h.c_Machine h.na_Machine_its_reads (a_var 0)) l_nil)))
      (b_cons (s_fldaug "Machine" h.c_Machine h.na_Machine_its_reads (a_var 0) a_int in_add r_addI)
      (b_cons (s_expr (a_meth (c_Machine_put_into hp h) hr tk (by decide) (a_var 0) (l_cons (a_ix (hu_of hr) (a_var 1) a_int) (l_cons (a_var 3) l_nil))))
      (b_one (s_expr (a_mt p_lst r_append (pe_bm PySem.F.plainAttrs_list PySem.F.slot_list_append PySem.F.type_list_append mt_append (a_fld "Machine" h.c_Machine h.na_Machine_its_events (a_var 0)) (l_cons (a_tup (l_cons a_str (l_cons (a_var 3) l_nil))) l_nil)))))))) (b_one (s_if (t_cmp (o_eq hr.units) r_eq (a_var 2) a_str (nomark _)) (b_one (s_expr (a_mt p_lst r_append (pe_bm PySem.F.plainAttrs_list PySem.F.slot_list_append PySem.F.type_list_append mt_append (a_fld "Machine" h.c_Machine h.na_Machine_its_events (a_var 0)) (l_cons (a_tup (l_cons a_str (l_cons (a_meth (c_Machine_worth_of hp h) hr tk (by decide) (a_var 0) (l_cons (a_ix (hu_of hr) (a_var 1) a_int) l_nil)) l_nil))) l_nil))))) b_nil))))))))))))))
def r_Machine_do_question : ASt → M AOut := (bSeq (bPar 2 3 (aCons (aBin gIx (aUn (gFld "Machine" "its_frames") (aVar 0)) (aUn gNeg (aC (.int 1)))) (aCons (aMeth "World" "answer" 2 f_World_answer (aUn (gFld "Machine" "its_world") (aVar 0)) (aCons (aCB gLen (aCons (aUn (gFld "Machine" "its_answers") (aVar 0)) aNil)) aNil)) aNil)))
    (bSeq (bDrop (aMt isLst gAppend (aUn (gFld "Machine" "its_events") (aVar 0)) (aCons (aTup (aCons (aC (.str "ask")) (aCons (aBin gIx (aVar 1) (aC (.int 1))) (aCons (aMeth "Machine" "worths_of" 2 f_Machine_worths_of (aVar 0) (aCons (aBin gIx (aVar 1) (aC (.int 2))) aNil)) (aCons (aVar 3) aNil))))) aNil)))
    (bSeq (bDrop (aMt isLst gAppend (aUn (gFld "Machine" "its_answers") (aVar 0)) (aCons (aVar 3) aNil)))
    (bIf (aVal (aBin gEq (aBin gIx (aVar 1) (aC (.int 0))) (aC (.str "ask")))) (bAsg (aIf (aVal (aBin gEq (aVar 3) (aC (.int 1)))) (aBin gIx (aVar 1) (aC (.int 3))) (aBin gIx (aVar 1) (aC (.int 4)))) (agSub (aVar 2) (aC (.int 1)) gSetI)) (bIf (aVal (aBin gEq (aVar 3) (aC (.int 1)))) (bAugS (aVar 2) (aC (.int 1)) (aC (.int 1))) (bFld "Machine" "its_fault" (aVar 0) (aC (.bl true))))))))
def f_Machine_do_question : List AV → M AV := runB 4 r_Machine_do_question
theorem c_Machine_do_question (h : Hd K mg) : MetA P w K mg base 4 "Machine" "do_question" 2 f_Machine_do_question := met_mk h.c_Machine h.m_Machine_do_question h.f_Machine_do_question sc_Machine_do_question (fun _ _ _ _ _ _ us hl => match us, hl with | [_, _], _ => rfl) (by
  intro cdv A outer s H E hr tk
  exact (b_cons (s_par (by rfl) sc_Machine_do_question.nd rfl rfl (by decide) rfl rfl (l_cons (a_ix (hu_of hr) (a_fld "Machine" h.c_Machine h.na_Machine_its_frames (a_var 0)) (a_un un_neg r_neg a_int)) (l_cons (a_meth (c_World_answer hp h) hr tk (by decide) (a_fld "Machine" h.c_Machine h.na_Machine_its_world (a_var 0)) (l_cons (a_cb r_len (pe_callB c_len (by rfl) h.b_len (by decide +kernel) (l_cons (a_fld "Machine" h.c_Machine h.na_Machine_its_answers (a_var 0)) l_nil))) l_nil)) l_nil)) (by rfl))
      (b_cons (s_expr (a_mt p_lst r_append (pe_bm PySem.F.plainAttrs_list PySem.F.slot_list_append PySem.F.type_list_append mt_append (a_fld "Machine" h.c_Machine h.na_Machine_its_events (a_var 0)) (l_cons (a_tup (l_cons a_str (l_cons (a_ix (hu_of hr) (a_var 1) a_int) (l_cons (a_meth (c_Machine_worths_of hp h) hr tk (by decide) (a_var 0) (l_cons (a_ix (hu_of hr) (a_var 1) a_int) l_nil)) (l_cons (a_var 3) l_nil))))) l_nil))))
      (b_cons (s_expr (a_mt p_lst r_append (pe_bm PySem.F.plainAttrs_list PySem.F.slot_list_append PySem.F.type_list_append mt_append (a_fld "Machine" h.c_Machine h.na_Machine_its_answers (a_var 0)) (l_cons (a_var 3) l_nil))))
      (b_one (s_if (t_cmp (o_eq hr.units) r_eq (a_ix (hu_of hr) (a_var 1) a_int) a_str (nomark _)) (b_one (s_asg (a_if (t_cmp (o_eq hr.units) r_eq (a_var 3) a_int (nomark _)) (a_ix (hu_of hr) (a_var 1) a_int) (a_ix (hu_of hr) (a_var 1) a_int)) (g_sub (a_var 2) a_int (p_set (hu_of hr)) r_set))) (b_one (s_if (t_cmp (o_eq hr.units) r_eq (a_var 3) a_int (nomark _)) (b_one (s_augS (hu_of hr) (a_var 2) a_int a_int)) (b_one (s_fld "Machine" h.c_Machine h.na_Machine_its_fault (a_var 0) a_bl))))))))))
def r_Machine_do_give : ASt → M AOut := (bSeq (bDrop (aMt isLst gPop (aUn (gFld "Machine" "its_frames") (aVar 0)) aNil))
    (bSeq (bFld "Machine" "its_registers" (aVar 0) aDnew)
    (bSeq (bIf (aNot (aTru (aUn (gFld "Machine" "its_frames") (aVar 0)))) (bSeq (bDrop (aMt isLst gAppend (aUn (gFld "Machine" "its_events") (aVar 0)) (aCons (aTup (aCons (aC (.str "end")) (aCons (aVar 1) aNil))) aNil)))
    bRetN) bNext)
    (bSeq (bDrop (aMeth "Machine" "put_into" 3 f_Machine_put_into (aVar 0) (aCons (aBin gIx (aMeth "Machine" "its_step" 1 f_Machine_its_step (aVar 0) aNil) (aC (.int 1))) (aCons (aVar 1) aNil))))
    (bAugS (aBin gIx (aUn (gFld "Machine" "its_frames") (aVar 0)) (aUn gNeg (aC (.int 1)))) (aC (.int 1)) (aC (.int 1)))))))
def f_Machine_do_give : List AV → M AV := runB 2 r_Machine_do_give
theorem c_Machine_do_give (h : Hd K mg) : MetA P w K mg base 3 "Machine" "do_give" 2 f_Machine_do_give := met_mk h.c_Machine h.m_Machine_do_give h.f_Machine_do_give sc_Machine_do_give (fun _ _ _ _ _ _ us hl => match us, hl with | [_, _], _ => rfl) (by
  intro cdv A outer s H E hr tk
  exact (b_cons (s_expr (a_mt0 p_lst r_pop (pe_bm0 PySem.F.plainAttrs_list PySem.F.slot_list_pop PySem.F.type_list_pop mt_pop (a_fld "Machine" h.c_Machine h.na_Machine_its_frames (a_var 0)))))
      (b_cons (s_fld "Machine" h.c_Machine h.na_Machine_its_registers (a_var 0) a_dnew)
      (b_cons (s_if (t_not (t_truth (a_fld "Machine" h.c_Machine h.na_Machine_its_frames (a_var 0)))) (b_cons (s_expr (a_mt p_lst r_append (pe_bm PySem.F.plainAttrs_list PySem.F.slot_list_append PySem.F.type_list_append mt_append (a_fld "Machine" h.c_Machine h.na_Machine_its_events (a_var 0)) (l_cons (a_tup (l_cons a_str (l_cons (a_var 1) l_nil))) l_nil))))
      (b_one s_retN)) b_nil)
      (b_cons (s_expr (a_meth (c_Machine_put_into hp h) hr tk (by decide) (a_var 0) (l_cons (a_ix (hu_of hr) (a_meth0 (c_Machine_its_step hp h) hr tk (by decide) (a_var 0)) a_int) (l_cons (a_var 1) l_nil))))
      (b_one (s_augS (hu_of hr) (a_ix (hu_of hr) (a_fld "Machine" h.c_Machine h.na_Machine_its_frames (a_var 0)) (a_un un_neg r_neg a_int)) a_int a_int)))))))
def r_Machine_step (w : PySem.World) : ASt → M AOut := (bSeq (bIf (aVal (aBin gNe (aMeth "Machine" "state" 1 f_Machine_state (aVar 0) aNil) (aC (.str "going")))) (bRet (aC (.bl false))) bNext)
    (bSeq (bPar 1 2 (aCons (aMeth "Machine" "its_step" 1 f_Machine_its_step (aVar 0) aNil) (aCons (aBin gIx (aUn (gFld "Machine" "its_frames") (aVar 0)) (aUn gNeg (aC (.int 1)))) aNil)))
    (bSeq (bSet 3 (aBin gIx (aVar 1) (aC (.int 0))))
    (bSeq (bIf (aVal (aBin gIn (aVar 3) (aTup (aCons (aC (.str "ask")) (aCons (aC (.str "must")) aNil))))) (bDrop (aMeth "Machine" "do_question" 2 f_Machine_do_question (aVar 0) (aCons (aVar 1) aNil))) (bIf (aVal (aBin gIn (aVar 3) (aTup (aCons (aC (.str "call")) (aCons (aC (.str "last")) aNil))))) (fun _ => M.fail) (bIf (aVal (aBin gEq (aVar 3) (aC (.str "give")))) (bDrop (aMeth "Machine" "do_give" 2 f_Machine_do_give (aVar 0) (aCons (aMeth "Machine" "worth_of" 2 f_Machine_worth_of (aVar 0) (aCons (aBin gIx (aVar 1) (aC (.int 1))) aNil)) aNil))) (bSeq (bDrop (aMeth "Machine" "do_plain" 2 (f_Machine_do_plain w) (aVar 0) (aCons (aVar 1) aNil)))
    (bAsg (aBin gIx (aCallR 2 f_goals_of (aCons (aVar 1) (aCons (aBin gIx (aVar 2) (aC (.int 1))) aNil))) (aC (.int 0))) (agSub (aVar 2) (aC (.int 1)) gSetI))))))
    (bSeq (bFldAug "Machine" "its_done" gAddI (aVar 0) (aC (.int 1)))
    (bSeq (bFldAug "Machine" "its_ticks" gAddI (aVar 0) (aIf (aVal (aBin gIn (aVar 3) (aC kv_LONG))) (aC (.int 2)) (aC (.int 1))))
    (bRet (aC (.bl true)))))))))
def f_Machine_step (w : PySem.World) : List AV → M AV := runB 4 (r_Machine_step w)
theorem c_Machine_step (h : Hd K mg) : MetA P w K mg base 6 "Machine" "step" 1 (f_Machine_step w) := met_mk h.c_Machine h.m_Machine_step h.f_Machine_step sc_Machine_step (fun _ _ _ _ _ _ us hl => match us, hl with | [_], _ => rfl) (by
  intro cdv A outer s H E hr tk
  exact (b_cons (s_if (t_cmp (o_ne hr.units) r_ne (a_meth0 (c_Machine_state hp h) hr tk (by decide) (a_var 0)) a_str (nomark _)) (b_one (s_ret a_bl)) b_nil)
      (b_cons (s_par (by rfl) sc_Machine_step.nd rfl rfl (by decide) rfl rfl (l_cons (a_meth0 (c_Machine_its_step hp h) hr tk (by decide) (a_var 0)) (l_cons (a_ix (hu_of hr) (a_fld "Machine" h.c_Machine h.na_Machine_its_frames (a_var 0)) (a_un un_neg r_neg a_int)) l_nil)) (by rfl))
      (b_cons (s_set (i := 3) sc_Machine_step.nd rfl (by first | exact Or.inl rfl | exact Or.inr rfl) (a_ix (hu_of hr) (a_var 1) a_int))
      (b_cons (s_if (t_cmp (o_in (hu65 hr)) r_in (a_var 3) (a_tup (l_cons a_str (l_cons a_str l_nil))) (by rfl)) (b_one (s_expr (a_meth (c_Machine_do_question hp h) hr tk (by decide) (a_var 0) (l_cons (a_var 1) l_nil)))) (b_one (s_if (t_cmp (o_in (hu65 hr)) r_in (a_var 3) (a_tup (l_cons a_str (l_cons a_str l_nil))) (by rfl)) (b_one s_never) (b_one (s_if (t_cmp (o_eq hr.units) r_eq (a_var 3) a_str (nomark _)) (b_one (s_expr (a_meth (c_Machine_do_give hp h) hr tk (by decide) (a_var 0) (l_cons (a_meth (c_Machine_worth_of hp h) hr tk (by decide) (a_var 0) (l_cons (a_ix (hu_of hr) (a_var 1) a_int) l_nil)) l_nil)))) (b_cons (s_expr (a_meth (c_Machine_do_plain hp h) hr tk (by decide) (a_var 0) (l_cons (a_var 1) l_nil)))
      (b_one (s_asg (a_ix (hu_of hr) (a_callR (c_goals_of hp h) hr tk (by decide) (by rfl) (l_cons (a_var 1) (l_cons (a_ix (hu_of hr) (a_var 2) a_int) l_nil))) a_int) (g_sub (a_var 2) a_int (p_set (hu_of hr)) r_set)))))))))
      (b_cons (s_fldaug "Machine" h.c_Machine h.na_Machine_its_done (a_var 0) a_int in_add r_addI)
      (b_cons (s_fldaug "Machine" h.c_Machine h.na_Machine_its_ticks (a_var 0) (a_if (t_cmp (o_in (hu65 hr)) r_in (a_var 3) (a_gc (by rfl) h.v_LONG h.r_LONG) (by rfl)) a_int a_int) in_add r_addI)
      (b_one (s_ret a_bl)))))))))
def r_Machine_moment : ASt → M AOut := (bSeq (bSet 1 (aCB gTuple (aCons (aLc (aIt (aUn (gFld "Machine" "its_frames") (aVar 0))) (cLst 3 (cCons (cName 4) (cCons (cName 5) (cCons (cName 6) cNil)))) aYes (aTup (aCons (aVar 4) (aCons (aVar 5) (aCons (aCB gTupleD (aCons (aUn gSortI (aVar 6)) aNil)) aNil)))) [4, 5, 6]) aNil)))
    (bSeq (bPar 2 3 (aCons (aCB gTupleD (aCons (aUn gSortI (aUn (gFld "Machine" "its_registers") (aVar 0))) aNil)) (aCons (aUn gTupView (aUn (gFld "Machine" "its_cells") (aVar 0))) aNil)))
    (bRet (aTup (aCons (aVar 1) (aCons (aVar 2) (aCons (aVar 3) (aCons (aCB gLen (aCons (aUn (gFld "Machine" "its_events") (aVar 0)) aNil)) (aCons (aUn (gFld "Machine" "its_done") (aVar 0)) (aCons (aUn (gFld "Machine" "its_ticks") (aVar 0)) aNil))))))))))
def f_Machine_moment : List AV → M AV := runB 7 r_Machine_moment
theorem c_Machine_moment (h : Hd K mg) : MetA P w K mg base 1 "Machine" "moment" 1 f_Machine_moment := met_mk h.c_Machine h.m_Machine_moment h.f_Machine_moment sc_Machine_moment (fun _ _ _ _ _ _ us hl => match us, hl with | [_], _ => rfl) (by
  intro cdv A outer s H E hr tk
  exact (b_cons (s_set (i := 1) sc_Machine_moment.nd rfl (by first | exact Or.inl rfl | exact Or.inr rfl) (a_cb r_tuple (pe_callTy c_tuple (by rfl) h.b_tuple (by decide +kernel) (l_cons (a_lc (by rfl) sc_Machine_moment.nd (i_seq (a_fld "Machine" h.c_Machine h.na_Machine_its_frames (a_var 0))) (blkOk_by (N := n_Machine_moment) (sc := defScope s_Machine_moment) (own := [("name", 4), ("row", 5), ("boxes", 6)]) (by decide +kernel)) (tg_lst (tgs_cons (tg_name 4 (by decide)) (tgs_cons (tg_name 5 (by decide)) (tgs_cons (tg_name 6 (by decide)) tgs_nil)))) (fun _ _ _ _ _ => (pg_lst (by rfl) (pgs_cons (pg_name (i := 4) sc_Machine_moment.nd rfl (by first | exact Or.inl rfl | exact Or.inr rfl)) (pgs_cons (pg_name (i := 5) sc_Machine_moment.nd rfl (by first | exact Or.inl rfl | exact Or.inr rfl)) (pgs_cons (pg_name (i := 6) sc_Machine_moment.nd rfl (by first | exact Or.inl rfl | exact Or.inr rfl)) pgs_nil))))) (fun _ _ _ _ _ => ts_nil) (fun _ _ _ _ _ => (a_tup (l_cons (a_var 4) (l_cons (a_var 5) (l_cons (a_cb r_tupleD (pe_callTy c_tupleD (by rfl) h.b_tuple (by decide +kernel) (l_cons (a_sortI (by rfl) hr.units (by rfl) h.b_sorted (a_var 6)) l_nil))) l_nil)))))) l_nil))))
      (b_cons (s_par (by rfl) sc_Machine_moment.nd rfl rfl (by decide) rfl rfl (l_cons (a_cb r_tupleD (pe_callTy c_tupleD (by rfl) h.b_tuple (by decide +kernel) (l_cons (a_sortI (by rfl) hr.units (by rfl) h.b_sorted (a_fld "Machine" h.c_Machine h.na_Machine_its_registers (a_var 0))) l_nil))) (l_cons (a_tupView (by rfl) (by rfl) h.b_tuple (a_fld "Machine" h.c_Machine h.na_Machine_its_cells (a_var 0))) l_nil)) (by rfl))
      (b_one (s_ret (a_tup (l_cons (a_var 1) (l_cons (a_var 2) (l_cons (a_var 3) (l_cons (a_cb r_len (pe_callB c_len (by rfl) h.b_len (by decide +kernel) (l_cons (a_fld "Machine" h.c_Machine h.na_Machine_its_events (a_var 0)) l_nil))) (l_cons (a_fld "Machine" h.c_Machine h.na_Machine_its_done (a_var 0)) (l_cons (a_fld "Machine" h.c_Machine h.na_Machine_its_ticks (a_var 0)) l_nil))))))))))))
def r_Machine_events : ASt → M AOut := (bRet (aCB gTuple (aCons (aUn (gFld "Machine" "its_events") (aVar 0)) aNil)))
def f_Machine_events : List AV → M AV := runB 1 r_Machine_events
theorem c_Machine_events (h : Hd K mg) : MetA P w K mg base 1 "Machine" "events" 1 f_Machine_events := met_mk h.c_Machine h.m_Machine_events h.f_Machine_events sc_Machine_events (fun _ _ _ _ _ _ us hl => match us, hl with | [_], _ => rfl) (by
  intro cdv A outer s H E hr tk
  exact (b_one (s_ret (a_cb r_tuple (pe_callTy c_tuple (by rfl) h.b_tuple (by decide +kernel) (l_cons (a_fld "Machine" h.c_Machine h.na_Machine_its_events (a_var 0)) l_nil))))))
def r_Machine_init (w : PySem.World) : ASt → M AOut := (bSeq (bFld "Machine" "its_code" (aVar 0) (aVar 1))
    (bSeq (bFld "Machine" "its_world" (aVar 0) (aVar 2))
    (bSeq (bFld "Machine" "its_rows" (aVar 0) (aDc (aIt (aBin gIx (aVar 1) (aC (.int 1)))) (cTup 3 (cCons (cName 11) (cCons (cName 12) (cCons (cName 9) cNil)))) aYes (aVar 11) (aVar 9) [11, 12, 9]))
    (bSeq (bFld "Machine" "its_fault" (aVar 0) (aC (.bl false)))
    (bSeq (bIf (aVal (aBin gIs (aVar 3) (aC .non))) (bSeq (bSet 4 (aMeth "World" "apply" 3 (f_World_apply w) (aVar 2) (aCons (aC (.str "0")) (aCons (aTup aNil) aNil))))
    (bSet 3 (aTup (aCons (aTup (aCons (aTup (aCons (aC (.str "main")) (aCons (aC (.int 0)) (aCons (aTupD aNil) aNil)))) aNil)) (aCons (aTupD aNil) (aCons (aCB gTupleD (aCons (aLc (aIt (aBin gIx (aVar 1) (aC (.int 0)))) (cName 13) aYes (aTup (aCons (aVar 13) (aCons (aVar 4) aNil))) [13]) aNil)) (aCons (aTup aNil) (aCons (aC (.int 0)) (aCons (aC (.int 0)) aNil))))))))) bNext)
    (bSeq (bAsg (aVar 3) (agSeq 6 (agCons (agName 5) (agCons (agName 6) (agCons (agName 7) (agCons (agName 8) (agCons (agName 9) (agCons (agName 10) agNil))))))))
    (bSeq (bFld "Machine" "its_frames" (aVar 0) (aLc (aIt (aVar 5)) (cTup 3 (cCons (cName 11) (cCons (cName 14) (cCons (cName 15) cNil)))) aYes (aLst (aCons (aVar 11) (aCons (aVar 14) (aCons (aCB gDict (aCons (aVar 15) aNil)) aNil)))) [11, 14, 15]))
    (bSeq (bFld "Machine" "its_registers" (aVar 0) (aCB gDict (aCons (aVar 6) aNil)))
    (bSeq (bFld "Machine" "its_cells" (aVar 0) (aCB gDict (aCons (aVar 7) aNil)))
    (bSeq (bFld "Machine" "its_events" (aVar 0) (aCB gList (aCons (aVar 8) aNil)))
    (bSeq (bFld "Machine" "its_answers" (aVar 0) (aLc (aIt (aVar 8)) (cName 16) (aVal (aBin gEq (aBin gIx (aVar 16) (aC (.int 0))) (aC (.str "ask")))) (aBin gIx (aVar 16) (aC (.int 3))) [16]))
    (bSeq (bFld "Machine" "its_reads" (aVar 0) (aCB gLen (aCons (aLc (aIt (aVar 8)) (cName 16) (aVal (aBin gEq (aBin gIx (aVar 16) (aC (.int 0))) (aC (.str "read")))) (aVar 16) [16]) aNil)))
    (bSeq (bFld "Machine" "its_done" (aVar 0) (aVar 9))
    (bFld "Machine" "its_ticks" (aVar 0) (aVar 10)))))))))))))))
def f_Machine_init (w : PySem.World) : List AV → M AV := runB 17 (r_Machine_init w)
theorem k_Machine (h : Hd K mg) : MakA P w K mg base 4 "Machine" 4 [.non] (f_Machine_init w) := mak_mkD (m := 3) h.mk_Machine h.g_Machine h.f_Machine_init sc_Machine_init rfl (fun _ _ _ _ _ _ _ us its h1 h2 => match us, its, h1, h2 with | [_, _, _], [_], _, _ => ⟨_, rfl, rfl⟩) (by
  intro cdv A outer s H E hr tk
  exact (b_cons (s_fld "Machine" h.c_Machine h.na_Machine_its_code (a_var 0) (a_var 1))
      (b_cons (s_fld "Machine" h.c_Machine h.na_Machine_its_world (a_var 0) (a_var 2))
      (b_cons (s_fld "Machine" h.c_Machine h.na_Machine_its_rows (a_var 0) (a_dc (by rfl) sc_Machine_init.nd (i_seq (a_ix (hu_of hr) (a_var 1) a_int)) (blkOk_by (N := n_Machine_init) (sc := defScope s_Machine_init) (own := [("name", 11), ("params", 12), ("rows", 9)]) (by decide +kernel)) (tg_tup (tgs_cons (tg_name 11 (by decide)) (tgs_cons (tg_name 12 (by decide)) (tgs_cons (tg_name 9 (by decide)) tgs_nil)))) (fun _ _ _ _ _ => (pg_tup (by rfl) (pgs_cons (pg_name (i := 11) sc_Machine_init.nd rfl (by first | exact Or.inl rfl | exact Or.inr rfl)) (pgs_cons (pg_name (i := 12) sc_Machine_init.nd rfl (by first | exact Or.inl rfl | exact Or.inr rfl)) (pgs_cons (pg_name (i := 9) sc_Machine_init.nd rfl (by first | exact Or.inl rfl | exact Or.inr rfl)) pgs_nil))))) (fun _ _ _ _ _ => ts_nil) (fun _ _ _ _ _ => (a_var 11)) (fun _ _ _ _ _ => (a_var 9))))
      (b_cons (s_fld "Machine" h.c_Machine h.na_Machine_its_fault (a_var 0) a_bl)
      (b_cons (s_if (t_cmp o_is r_is (a_var 3) a_non (nomark _)) (b_cons (s_set (i := 4) sc_Machine_init.nd rfl (by first | exact Or.inl rfl | exact Or.inr rfl) (a_meth (c_World_apply hp h) hr tk (by decide) (a_var 2) (l_cons a_str (l_cons (a_tup l_nil) l_nil))))
      (b_one (s_set (i := 3) sc_Machine_init.nd rfl (by first | exact Or.inl rfl | exact Or.inr rfl) (a_tup (l_cons (a_tup (l_cons (a_tup (l_cons a_str (l_cons a_int (l_cons (a_tupD l_nil) l_nil)))) l_nil)) (l_cons (a_tupD l_nil) (l_cons (a_cb r_tupleD (pe_callTy c_tupleD (by rfl) h.b_tuple (by decide +kernel) (l_cons (a_lc (by rfl) sc_Machine_init.nd (i_seq (a_ix (hu_of hr) (a_var 1) a_int)) (blkOk_by (N := n_Machine_init) (sc := defScope s_Machine_init) (own := [("cell", 13)]) (by decide +kernel)) (tg_name 13 (by decide)) (fun _ _ _ _ _ => (pg_name (i := 13) sc_Machine_init.nd rfl (by first | exact Or.inl rfl | exact Or.inr rfl))) (fun _ _ _ _ _ => ts_nil) (fun _ _ _ _ _ => (a_tup (l_cons (a_var 13) (l_cons (a_var 4) l_nil))))) l_nil))) (l_cons (a_tup l_nil) (l_cons a_int (l_cons a_int l_nil)))))))))) b_nil)
      (b_cons (s_asg (a_var 3) (g_seq (by rfl) (gs_cons (g_name (i := 5) sc_Machine_init.nd rfl (by first | exact Or.inl rfl | exact Or.inr rfl)) (gs_cons (g_name (i := 6) sc_Machine_init.nd rfl (by first | exact Or.inl rfl | exact Or.inr rfl)) (gs_cons (g_name (i := 7) sc_Machine_init.nd rfl (by first | exact Or.inl rfl | exact Or.inr rfl)) (gs_cons (g_name (i := 8) sc_Machine_init.nd rfl (by first | exact Or.inl rfl | exact Or.inr rfl)) (gs_cons (g_name (i := 9) sc_Machine_init.nd rfl (by first | exact Or.inl rfl | exact Or.inr rfl)) (gs_cons (g_name (i := 10) sc_Machine_init.nd rfl (by first | exact Or.inl rfl | exact Or.inr rfl)) gs_nil))))))))
      (b_cons (s_fld "Machine" h.c_Machine h.na_Machine_its_frames (a_var 0) (a_lc (by rfl) sc_Machine_init.nd (i_seq (a_var 5)) (blkOk_by (N := n_Machine_init) (sc := defScope s_Machine_init) (own := [("name", 11), ("row", 14), ("boxes", 15)]) (by decide +kernel)) (tg_tup (tgs_cons (tg_name 11 (by decide)) (tgs_cons (tg_name 14 (by decide)) (tgs_cons (tg_name 15 (by decide)) tgs_nil)))) (fun _ _ _ _ _ => (pg_tup (by rfl) (pgs_cons (pg_name (i := 11) sc_Machine_init.nd rfl (by first | exact Or.inl rfl | exact Or.inr rfl)) (pgs_cons (pg_name (i := 14) sc_Machine_init.nd rfl (by first | exact Or.inl rfl | exact Or.inr rfl)) (pgs_cons (pg_name (i := 15) sc_Machine_init.nd rfl (by first | exact Or.inl rfl | exact Or.inr rfl)) pgs_nil))))) (fun _ _ _ _ _ => ts_nil) (fun _ _ _ _ _ => (a_lst (l_cons (a_var 11) (l_cons (a_var 14) (l_cons (a_cb r_dict (pe_callTy (c_dict (by rfl)) (by rfl) h.b_dict (by decide +kernel) (l_cons (a_var 15) l_nil))) l_nil)))))))
      (b_cons (s_fld "Machine" h.c_Machine h.na_Machine_its_registers (a_var 0) (a_cb r_dict (pe_callTy (c_dict (by rfl)) (by rfl) h.b_dict (by decide +kernel) (l_cons (a_var 6) l_nil))))
      (b_cons (s_fld "Machine" h.c_Machine h.na_Machine_its_cells (a_var 0) (a_cb r_dict (pe_callTy (c_dict (by rfl)) (by rfl) h.b_dict (by decide +kernel) (l_cons (a_var 7) l_nil))))
      (b_cons (s_fld "Machine" h.c_Machine h.na_Machine_its_events (a_var 0) (a_cb r_list (pe_callTy c_list (by rfl) h.b_list (by decide +kernel) (l_cons (a_var 8) l_nil))))
      (b_cons (s_fld "Machine" h.c_Machine h.na_Machine_its_answers (a_var 0) (a_lc (by rfl) sc_Machine_init.nd (i_seq (a_var 8)) (blkOk_by (N := n_Machine_init) (sc := defScope s_Machine_init) (own := [("event", 16)]) (by decide +kernel)) (tg_name 16 (by decide)) (fun _ _ _ _ _ => (pg_name (i := 16) sc_Machine_init.nd rfl (by first | exact Or.inl rfl | exact Or.inr rfl))) (fun _ _ _ _ _ => (ts_one (t_cmp (o_eq hr.units) r_eq (a_ix (hu_of hr) (a_var 16) a_int) a_str (nomark _)))) (fun _ _ _ _ _ => (a_ix (hu_of hr) (a_var 16) a_int))))
      (b_cons (s_fld "Machine" h.c_Machine h.na_Machine_its_reads (a_var 0) (a_cb r_len (pe_callB c_len (by rfl) h.b_len (by decide +kernel) (l_cons (a_lc (by rfl) sc_Machine_init.nd (i_seq (a_var 8)) (blkOk_by (N := n_Machine_init) (sc := defScope s_Machine_init) (own := [("event", 16)]) (by decide +kernel)) (tg_name 16 (by decide)) (fun _ _ _ _ _ => (pg_name (i := 16) sc_Machine_init.nd rfl (by first | exact Or.inl rfl | exact Or.inr rfl))) (fun _ _ _ _ _ => (ts_one (t_cmp (o_eq hr.units) r_eq (a_ix (hu_of hr) (a_var 16) a_int) a_str (nomark _)))) (fun _ _ _ _ _ => (a_var 16))) l_nil))))
      (b_cons (s_fld "Machine" h.c_Machine h.na_Machine_its_done (a_var 0) (a_var 9))
      (b_one (s_fld "Machine" h.c_Machine h.na_Machine_its_ticks (a_var 0) (a_var 10)))))))))))))))))
def r_thing_worth : ASt → M AOut := (bSeq (bIf (aOr (aNot (aVal (aCB gIsi (aCons (aVar 1) (aCons (aC (.ty .tuple)) aNil))))) (aVal (aBin gNotIn (aSl (aVar 1) aNoPart (aPart (aC (.int 1)))) (aTup (aCons (aTup (aCons (aC (.str "name")) aNil)) (aCons (aTup (aCons (aC (.str "cell")) aNil)) aNil)))))) (aRaise "BadSight" ["fault"] (aCons (aC (.str "thing")) aNil)) bNext)
    (bSeq (bIf (aVal (aBin gEq (aBin gIx (aVar 1) (aC (.int 0))) (aC (.str "cell")))) (bSeq (bIf (aOr (aVal (aBin gNe (aCB gLen (aCons (aVar 1) aNil)) (aC (.int 2)))) (aOr (aNot (aVal (aCB gIsi (aCons (aBin gIx (aVar 1) (aC (.int 1))) (aCons (aC (.ty .str)) aNil))))) (aVal (aBin (gInD true) (aBin gIx (aVar 1) (aC (.int 1))) (aCB gDict (aCons (aBin gIx (aVar 0) (aC (.int 2))) aNil)))))) (aRaise "BadSight" ["fault"] (aCons (aC (.str "thing")) aNil)) bNext)
    (bRet (aBin gIx (aCB gDict (aCons (aBin gIx (aVar 0) (aC (.int 2))) aNil)) (aBin gIx (aVar 1) (aC (.int 1)))))) bNext)
    (bSeq (bIf (aOr (aVal (aBin gNe (aCB gLen (aCons (aVar 1) aNil)) (aC (.int 3)))) (aOr (aNot (aVal (aCB gIsi (aCons (aBin gIx (aVar 1) (aC (.int 1))) (aCons (aC (.ty .int)) aNil))))) (aVal (aCB gIsi (aCons (aBin gIx (aVar 1) (aC (.int 1))) (aCons (aC (.ty .bool)) aNil)))))) (aRaise "BadSight" ["fault"] (aCons (aC (.str "thing")) aNil)) bNext)
    (bSeq (bIf (aOr (aNot (aVal (aChain (gIB fun i j => decide (i ≤ j)) gLtX (aC (.int 0)) (aBin gIx (aVar 1) (aC (.int 1))) (aCB gLen (aCons (aBin gIx (aVar 0) (aC (.int 0))) aNil))))) (aNot (aVal (aCB gIsi (aCons (aBin gIx (aVar 1) (aC (.int 2))) (aCons (aC (.ty .str)) aNil)))))) (aRaise "BadSight" ["fault"] (aCons (aC (.str "thing")) aNil)) bNext)
    (bSeq (bSet 2 (aCB gDict (aCons (aBin gIx (aBin gIx (aBin gIx (aVar 0) (aC (.int 0))) (aBin gIx (aVar 1) (aC (.int 1)))) (aC (.int 2))) aNil)))
    (bSeq (bIf (aVal (aBin (gInD true) (aBin gIx (aVar 1) (aC (.int 2))) (aVar 2))) (aRaise "BadSight" ["fault"] (aCons (aC (.str "thing")) aNil)) bNext)
    (bRet (aBin gIx (aVar 2) (aBin gIx (aVar 1) (aC (.int 2)))))))))))
def f_thing_worth : List AV → M AV := runB 3 r_thing_worth
theorem c_thing_worth (h : Hd K mg) : CalA P w K mg base 3 "thing_worth" 2 f_thing_worth := cal_mk h.f_thing_worth h.g_thing_worth sc_thing_worth (fun _ _ _ _ _ _ us hl => match us, hl with | [_, _], _ => rfl) (by
  intro cdv A outer s H E hr tk
  exact (b_cons (s_if (PW.pt (w_or (t_not (t_val (a_cb r_isi (pe_callB call_isi (by rfl) h.b_isinstance (by decide +kernel) (l_cons (a_var 1) (l_cons (a_ty .tuple (by rfl) h.b_tuple rfl) l_nil)))))) (w_or1 (t_cmp (o_notin (hu65 hr)) r_notin (a_sl (a_var 1) q_none (q_some a_int)) (a_tup (l_cons (a_tup (l_cons a_str l_nil)) (l_cons (a_tup (l_cons a_str l_nil)) l_nil))) (by rfl))))) (b_one (s_raise (k_BadSight hp h) (by decide) hr tk (by decide) (by rfl) (l_cons a_str l_nil))) b_nil)
      (b_cons (s_if (t_cmp (o_eq hr.units) r_eq (a_ix (hu_of hr) (a_var 1) a_int) a_str (nomark _)) (b_cons (s_if (PW.pt (w_or (t_cmp (o_ne hr.units) r_ne (a_cb r_len (pe_callB c_len (by rfl) h.b_len (by decide +kernel) (l_cons (a_var 1) l_nil))) a_int (nomark _)) (w_or (t_not (t_val (a_cb r_isi (pe_callB call_isi (by rfl) h.b_isinstance (by decide +kernel) (l_cons (a_ix (hu_of hr) (a_var 1) a_int) (l_cons (a_ty .str (by rfl) h.b_str rfl) l_nil)))))) (w_or1 (t_cmp (o_notinD (hu_of hr)) r_inD (a_ix (hu_of hr) (a_var 1) a_int) (a_cb r_dict (pe_callTy (c_dict (by rfl)) (by rfl) h.b_dict (by decide +kernel) (l_cons (a_ix (hu_of hr) (a_var 0) a_int) l_nil))) (by rfl)))))) (b_one (s_raise (k_BadSight hp h) (by decide) hr tk (by decide) (by rfl) (l_cons a_str l_nil))) b_nil)
      (b_one (s_ret (a_ix (hu_of hr) (a_cb r_dict (pe_callTy (c_dict (by rfl)) (by rfl) h.b_dict (by decide +kernel) (l_cons (a_ix (hu_of hr) (a_var 0) a_int) l_nil))) (a_ix (hu_of hr) (a_var 1) a_int))))) b_nil)
      (b_cons (s_if (PW.pt (w_or (t_cmp (o_ne hr.units) r_ne (a_cb r_len (pe_callB c_len (by rfl) h.b_len (by decide +kernel) (l_cons (a_var 1) l_nil))) a_int (nomark _)) (w_or (t_not (t_val (a_cb r_isi (pe_callB call_isi (by rfl) h.b_isinstance (by decide +kernel) (l_cons (a_ix (hu_of hr) (a_var 1) a_int) (l_cons (a_ty .int (by rfl) h.b_int rfl) l_nil)))))) (w_or1 (t_val (a_cb r_isi (pe_callB call_isi (by rfl) h.b_isinstance (by decide +kernel) (l_cons (a_ix (hu_of hr) (a_var 1) a_int) (l_cons (a_ty .bool (by rfl) h.b_bool rfl) l_nil))))))))) (b_one (s_raise (k_BadSight hp h) (by decide) hr tk (by decide) (by rfl) (l_cons a_str l_nil))) b_nil)
      (b_cons (s_if (PW.pt (w_or (t_not (t_chain op_le r_IB (o_lt hr.units) r_lt a_int (a_ix (hu_of hr) (a_var 1) a_int) (a_cb r_len (pe_callB c_len (by rfl) h.b_len (by decide +kernel) (l_cons (a_ix (hu_of hr) (a_var 0) a_int) l_nil))))) (w_or1 (t_not (t_val (a_cb r_isi (pe_callB call_isi (by rfl) h.b_isinstance (by decide +kernel) (l_cons (a_ix (hu_of hr) (a_var 1) a_int) (l_cons (a_ty .str (by rfl) h.b_str rfl) l_nil))))))))) (b_one (s_raise (k_BadSight hp h) (by decide) hr tk (by decide) (by rfl) (l_cons a_str l_nil))) b_nil)
      (b_cons (s_set (i := 2) sc_thing_worth.nd rfl (by first | exact Or.inl rfl | exact Or.inr rfl) (a_cb r_dict (pe_callTy (c_dict (by rfl)) (by rfl) h.b_dict (by decide +kernel) (l_cons (a_ix (hu_of hr) (a_ix (hu_of hr) (a_ix (hu_of hr) (a_var 0) a_int) (a_ix (hu_of hr) (a_var 1) a_int)) a_int) l_nil))))
      (b_cons (s_if (t_cmp (o_notinD (hu_of hr)) r_inD (a_ix (hu_of hr) (a_var 1) a_int) (a_var 2) (by rfl)) (b_one (s_raise (k_BadSight hp h) (by decide) hr tk (by decide) (by rfl) (l_cons a_str l_nil))) b_nil)
      (b_one (s_ret (a_ix (hu_of hr) (a_var 2) (a_ix (hu_of hr) (a_var 1) a_int)))))))))))
def r_behind (w : PySem.World) : ASt → M AOut := (bSeq (bTry 5 "TooLarge" (bSeq (bSet 3 (aMake "Machine" 4 [.non] (f_Machine_init w) (aCons (aVar 0) (aCons (aVar 1) aNil))))
    (bFor (aRng (aCons (aVar 2) aNil)) (agName 4)
        (bIf (aNot (aVal (aMeth "Machine" "step" 1 (f_Machine_step w) (aVar 3) aNil))) (bRet (aC .non)) bNext)))
    (bRet (aC .non)))
    (bRet (aVar 3)))
def f_behind (w : PySem.World) : List AV → M AV := runB 5 (r_behind w)
theorem c_behind (h : Hd K mg) : CalA P w K mg base 7 "behind" 3 (f_behind w) := cal_mk h.f_behind h.g_behind sc_behind (fun _ _ _ _ _ _ us hl => match us, hl with | [_, _, _], _ => rfl) (by
  intro cdv A outer s H E hr tk
  exact (b_cons (s_try (by rfl) (by rfl) (by rfl) tk (by rfl) h.g_TooLarge h.x_TooLarge_TooLarge (fun _ _ _ tk po => (b_cons (s_set (i := 3) sc_behind.nd rfl (by first | exact Or.inl rfl | exact Or.inr rfl) (a_make (k_Machine hp h) hr tk (by decide) (by rfl) (l_cons (a_var 0) (l_cons (a_var 1) l_nil))))
      (b_one (s_for po (by rfl) (i_rng (by rfl) h.b_range (l_cons (a_var 2) l_nil)) (g_name (i := 4) sc_behind.nd rfl (by first | exact Or.inl rfl | exact Or.inr rfl))
        (b_one (s_if (t_not (t_val (a_meth0 (c_Machine_step hp h) hr tk (by decide) (a_var 3)))) (b_one (s_ret a_non)) b_nil))))))
      (fun _ _ _ => (b_one (s_ret a_non))))
      (b_one (s_ret (a_var 3)))))
def r_checked_many : ASt → M AOut := (bSeq (bIf (aOr (aNot (aVal (aCallR 1 f_is_integer (aCons (aVar 0) aNil)))) (aVal (aBin gLtX (aVar 0) (aC (.int 0))))) (bRet (aC (.bl false))) bNext)
    (bSeq (bIf (aVal (aBin (gIB fun i j => decide (j < i)) (aVar 0) (aC (.int 20000)))) (aRaise "TooLarge" ["what", "limit"] (aCons (aC (.str "moments")) (aCons (aC (.int 20000)) aNil))) bNext)
    (bRet (aC (.bl true)))))
def f_checked_many : List AV → M AV := runB 1 r_checked_many
theorem c_checked_many (h : Hd K mg) : CalA P w K mg base 3 "checked_many" 1 f_checked_many := cal_mk h.f_checked_many h.g_checked_many sc_checked_many (fun _ _ _ _ _ _ us hl => match us, hl with | [_], _ => rfl) (by
  intro cdv A outer s H E hr tk
  exact (b_cons (s_if (PW.pt (w_or (t_not (t_val (a_callR (c_is_integer hp h) hr tk (by decide) (by rfl) (l_cons (a_var 0) l_nil)))) (w_or1 (t_cmp (o_lt hr.units) r_lt (a_var 0) a_int (nomark _))))) (b_one (s_ret a_bl)) b_nil)
      (b_cons (s_if (t_cmp op_gt r_IB (a_var 0) (a_gc (by rfl) h.v_MOST (fun _ _ => .int _)) (nomark _)) (b_one (s_raise (k_TooLarge hp h) (by decide) hr tk (by decide) (by rfl) (l_cons a_str (l_cons (a_gc (by rfl) h.v_MOST (fun _ _ => .int _)) l_nil)))) b_nil)
      (b_one (s_ret a_bl)))))
def r_shown_by : ASt → M AOut := (bSeq (bSet 4 (aMeth "Machine" "moment" 1 f_Machine_moment (aVar 0) aNil))
    (bSeq (bDrop (aCallR 2 f_checked_sight (aCons (aVar 4) (aCons (aVar 2) aNil))))
    (bSeq (bIf (aVal (aBin gNe (aBin gIx (aVar 2) (aC (.int 2))) (aC (.str "whole")))) (aRaise "BadSight" ["fault"] (aCons (aC (.str "told")) aNil)) bNext)
    (bRet (aTup (aCons (aCallR 3 f_seen_worths (aCons (aVar 4) (aCons (aMeth "Machine" "events" 1 f_Machine_events (aVar 0) aNil) (aCons (aVar 2) aNil)))) (aCons (aCallR 2 f_thing_worth (aCons (aMeth "Machine" "moment" 1 f_Machine_moment (aVar 1) aNil) (aCons (aVar 3) aNil))) aNil)))))))
def f_shown_by : List AV → M AV := runB 5 r_shown_by
theorem c_shown_by (h : Hd K mg) : CalA P w K mg base 7 "shown_by" 4 f_shown_by := cal_mk h.f_shown_by h.g_shown_by sc_shown_by (fun _ _ _ _ _ _ us hl => match us, hl with | [_, _, _, _], _ => rfl) (by
  intro cdv A outer s H E hr tk
  exact (b_cons (s_set (i := 4) sc_shown_by.nd rfl (by first | exact Or.inl rfl | exact Or.inr rfl) (a_meth0 (c_Machine_moment hp h) hr tk (by decide) (a_var 0)))
      (b_cons (s_expr (a_callR (c_checked_sight hp h) hr tk (by decide) (by rfl) (l_cons (a_var 4) (l_cons (a_var 2) l_nil))))
      (b_cons (s_if (t_cmp (o_ne hr.units) r_ne (a_ix (hu_of hr) (a_var 2) a_int) a_str (nomark _)) (b_one (s_raise (k_BadSight hp h) (by decide) hr tk (by decide) (by rfl) (l_cons a_str l_nil))) b_nil)
      (b_one (s_ret (a_tup (l_cons (a_callR (c_seen_worths hp h) hr tk (by decide) (by rfl) (l_cons (a_var 4) (l_cons (a_meth0 (c_Machine_events hp h) hr tk (by decide) (a_var 0)) (l_cons (a_var 2) l_nil)))) (l_cons (a_callR (c_thing_worth hp h) hr tk (by decide) (by rfl) (l_cons (a_meth0 (c_Machine_moment hp h) hr tk (by decide) (a_var 1)) (l_cons (a_var 3) l_nil))) l_nil)))))))))
def r_is_pair (w : PySem.World) : ASt → M AOut := (bSeq (bIf (aOr (aNot (aVal (aCallR 1 f_checked_many (aCons (aVar 1) aNil)))) (aNot (aVal (aCallR 1 f_checked_many (aCons (aVar 3) aNil))))) (bRet (aC (.bl false))) bNext)
    (bSeq (bTry 14 "BadWorld" (bSet 7 (aLst (aCons (aCall 1 (f_checked_world w) (aCons (aVar 5) aNil)) (aCons (aCall 1 (f_checked_world w) (aCons (aVar 6) aNil)) aNil))))
    (bRet (aC (.bl false))))
    (bSeq (bSet 8 (aLc (aIt (aVar 7)) (cName 11) aYes (aTup (aCons (aCall 3 (f_behind w) (aCons (aBin gIx (aVar 0) (aC (.int 1))) (aCons (aVar 11) (aCons (aVar 1) aNil)))) (aCons (aCall 3 (f_behind w) (aCons (aBin gIx (aVar 0) (aC (.int 0))) (aCons (aVar 11) (aCons (aVar 3) aNil)))) aNil))) [11]))
    (bSeq (bIf (aVal (aCB gAny (aCons (aLc (aIt (aVar 8)) (cTup 2 (cCons (cName 12) (cCons (cName 13) cNil))) aYes (aOrV (aBin gIs (aVar 12) (aC .non)) (aBin gIs (aVar 13) (aC .non))) [12, 13]) aNil))) (bRet (aC (.bl false))) bNext)
    (bSeq (bSet 9 (aCall 4 f_shown_by (aCons (aBin gIx (aBin gIx (aVar 8) (aC (.int 0))) (aC (.int 0))) (aCons (aBin gIx (aBin gIx (aVar 8) (aC (.int 0))) (aC (.int 1))) (aCons (aVar 2) (aCons (aVar 4) aNil))))))
    (bSeq (bIf (aOr (aVal (aBin gNe (aBin gIx (aVar 5) (aC (.int 0))) (aBin gIx (aVar 6) (aC (.int 0))))) (aOr (aVal (aBin gEq (aBin gIx (aBin gIx (aVar 5) (aC (.int 0))) (aC (.int 0))) (aC (.str "table")))) (aVal (aBin gNe (aBin gIx (aVar 5) (aC (.int 2))) (aBin gIx (aVar 6) (aC (.int 2))))))) (bRet (aC (.bl false))) bNext)
    (bSeq (bSet 10 (aCall 4 f_shown_by (aCons (aBin gIx (aBin gIx (aVar 8) (aC (.int 1))) (aC (.int 0))) (aCons (aBin gIx (aBin gIx (aVar 8) (aC (.int 1))) (aC (.int 1))) (aCons (aVar 2) (aCons (aVar 4) aNil))))))
    (bRet (aAndV (aBin gEq (aBin gIx (aVar 9) (aC (.int 0))) (aBin gIx (aVar 10) (aC (.int 0)))) (aBin gNe (aBin gIx (aVar 9) (aC (.int 1))) (aBin gIx (aVar 10) (aC (.int 1)))))))))))))
def f_is_pair (w : PySem.World) : List AV → M AV := runB 14 (r_is_pair w)
theorem c_is_pair (h : Hd K mg) : CalA P w K mg base 10 "is_pair" 7 (f_is_pair w) := cal_mk h.f_is_pair h.g_is_pair sc_is_pair (fun _ _ _ _ _ _ us hl => match us, hl with | [_, _, _, _, _, _, _], _ => rfl) (by
  intro cdv A outer s H E hr tk
  exact (b_cons (s_if (PW.pt (w_or (t_not (t_val (a_callR (c_checked_many hp h) hr tk (by decide) (by rfl) (l_cons (a_var 1) l_nil)))) (w_or1 (t_not (t_val (a_callR (c_checked_many hp h) hr tk (by decide) (by rfl) (l_cons (a_var 3) l_nil))))))) (b_one (s_ret a_bl)) b_nil)
      (b_cons (s_try (by rfl) (by rfl) (by rfl) tk (by rfl) h.g_BadWorld h.x_BadWorld_BadWorld (fun _ _ _ tk po => (b_one (s_set (i := 7) sc_is_pair.nd rfl (by first | exact Or.inl rfl | exact Or.inr rfl) (a_lst (l_cons (a_call (c_checked_world hp h) hr tk (by decide) (by rfl) (l_cons (a_var 5) l_nil)) (l_cons (a_call (c_checked_world hp h) hr tk (by decide) (by rfl) (l_cons (a_var 6) l_nil)) l_nil))))))
      (fun _ _ _ => (b_one (s_ret a_bl))))
      (b_cons (s_setLc (i := 8) (by rfl) sc_is_pair.nd rfl rfl (by first | exact sw_true rfl rfl rfl (by decide +kernel) | rfl) (i_seq (a_var 7)) (blkOk_by (N := n_is_pair) (sc := defScope s_is_pair) (own := [("world", 11)]) (by decide +kernel)) (tg_name 11 (by decide)) (fun _ _ _ _ _ => (pg_name (i := 11) sc_is_pair.nd rfl (by first | exact Or.inl rfl | exact Or.inr rfl))) (fun _ _ _ _ _ => ts_nil) (fun _ _ _ _ _ => (a_tup (l_cons (a_call (c_behind hp h) hr tkF (by decide) (by rfl) (l_cons (a_ix (hu_of hr) (a_var 0) a_int) (l_cons (a_var 11) (l_cons (a_var 1) l_nil)))) (l_cons (a_call (c_behind hp h) hr tkF (by decide) (by rfl) (l_cons (a_ix (hu_of hr) (a_var 0) a_int) (l_cons (a_var 11) (l_cons (a_var 3) l_nil)))) l_nil)))))
      (b_cons (s_if (t_val (a_cb r_any (pe_callB (cr_any (by rfl)) (by rfl) h.b_any (by decide +kernel) (l_cons (a_lc (by rfl) sc_is_pair.nd (i_seq (a_var 8)) (blkOk_by (N := n_is_pair) (sc := defScope s_is_pair) (own := [("lower", 12), ("upper", 13)]) (by decide +kernel)) (tg_tup (tgs_cons (tg_name 12 (by decide)) (tgs_cons (tg_name 13 (by decide)) tgs_nil))) (fun _ _ _ _ _ => (pg_tup (by rfl) (pgs_cons (pg_name (i := 12) sc_is_pair.nd rfl (by first | exact Or.inl rfl | exact Or.inr rfl)) (pgs_cons (pg_name (i := 13) sc_is_pair.nd rfl (by first | exact Or.inl rfl | exact Or.inr rfl)) pgs_nil)))) (fun _ _ _ _ _ => ts_nil) (fun _ _ _ _ _ => (a_or (a_cmp o_is r_is (a_var 12) a_non (nomark _)) (a_one (a_cmp o_is r_is (a_var 13) a_non (nomark _)))))) l_nil)))) (b_one (s_ret a_bl)) b_nil)
      (b_cons (s_set (i := 9) sc_is_pair.nd rfl (by first | exact Or.inl rfl | exact Or.inr rfl) (a_call (c_shown_by hp h) hr tk (by decide) (by rfl) (l_cons (a_ix (hu_of hr) (a_ix (hu_of hr) (a_var 8) a_int) a_int) (l_cons (a_ix (hu_of hr) (a_ix (hu_of hr) (a_var 8) a_int) a_int) (l_cons (a_var 2) (l_cons (a_var 4) l_nil))))))
      (b_cons (s_if (PW.pt (w_or (t_cmp (o_ne hr.units) r_ne (a_ix (hu_of hr) (a_var 5) a_int) (a_ix (hu_of hr) (a_var 6) a_int) (nomark _)) (w_or (t_cmp (o_eq hr.units) r_eq (a_ix (hu_of hr) (a_ix (hu_of hr) (a_var 5) a_int) a_int) a_str (nomark _)) (w_or1 (t_cmp (o_ne hr.units) r_ne (a_ix (hu_of hr) (a_var 5) a_int) (a_ix (hu_of hr) (a_var 6) a_int) (nomark _)))))) (b_one (s_ret a_bl)) b_nil)
      (b_cons (s_set (i := 10) sc_is_pair.nd rfl (by first | exact Or.inl rfl | exact Or.inr rfl) (a_call (c_shown_by hp h) hr tk (by decide) (by rfl) (l_cons (a_ix (hu_of hr) (a_ix (hu_of hr) (a_var 8) a_int) a_int) (l_cons (a_ix (hu_of hr) (a_ix (hu_of hr) (a_var 8) a_int) a_int) (l_cons (a_var 2) (l_cons (a_var 4) l_nil))))))
      (b_one (s_ret (a_and (a_cmp (o_eq hr.units) r_eq (a_ix (hu_of hr) (a_var 9) a_int) (a_ix (hu_of hr) (a_var 10) a_int) (nomark _)) (a_one (a_cmp (o_ne hr.units) r_ne (a_ix (hu_of hr) (a_var 9) a_int) (a_ix (hu_of hr) (a_var 10) a_int) (nomark _))))))))))))))
def sightG : List AV → AV := fun xs => match xs with
  | [_, s] => s
  | _ => .non
def r_shown_byO : ASt → M AOut := (bSeq (bSet 4 (aMeth "Machine" "moment" 1 f_Machine_moment (aVar 0) aNil))
    (bSeq (bDrop (aCallO 2 f_checked_sight sightG (aCons (aVar 4) (aCons (aVar 2) aNil))))
    (bSeq (bIf (aVal (aBin gNe (aBin gIx (aVar 2) (aC (.int 2))) (aC (.str "whole")))) (aRaise "BadSight" ["fault"] (aCons (aC (.str "told")) aNil)) bNext)
    (bRet (aTup (aCons (aCallO 3 f_seen_worths (valG f_seen_worths) (aCons (aVar 4) (aCons (aMeth "Machine" "events" 1 f_Machine_events (aVar 0) aNil) (aCons (aVar 2) aNil)))) (aCons (aCallO 2 f_thing_worth (valG f_thing_worth) (aCons (aMeth "Machine" "moment" 1 f_Machine_moment (aVar 1) aNil) (aCons (aVar 3) aNil))) aNil)))))))
def f_shown_byO : List AV → M AV := runB 5 r_shown_byO
theorem c_shown_byO (h : Hd K mg) : CalA P w K mg base 7 "shown_by" 4 f_shown_byO := cal_mk h.f_shown_by h.g_shown_by sc_shown_by (fun _ _ _ _ _ _ us hl => match us, hl with | [_, _, _, _], _ => rfl) (by
  intro cdv A outer s H E hr tk
  exact (b_cons (s_set (i := 4) sc_shown_by.nd rfl (by first | exact Or.inl rfl | exact Or.inr rfl) (a_meth0 (c_Machine_moment hp h) hr tk (by decide) (a_var 0)))
      (b_cons (s_expr (a_imp (a_callR (c_checked_sight hp h) hr tk (by decide) (by rfl) (l_cons (a_var 4) (l_cons (a_var 2) l_nil))) le_callO))
      (b_cons (s_if (t_cmp (o_ne hr.units) r_ne (a_ix (hu_of hr) (a_var 2) a_int) a_str (nomark _)) (b_one (s_raise (k_BadSight hp h) (by decide) hr tk (by decide) (by rfl) (l_cons a_str l_nil))) b_nil)
      (b_one (s_ret (a_tup (l_cons (a_imp (a_callR (c_seen_worths hp h) hr tk (by decide) (by rfl) (l_cons (a_var 4) (l_cons (a_meth0 (c_Machine_events hp h) hr tk (by decide) (a_var 0)) (l_cons (a_var 2) l_nil)))) le_callO) (l_cons (a_imp (a_callR (c_thing_worth hp h) hr tk (by decide) (by rfl) (l_cons (a_meth0 (c_Machine_moment hp h) hr tk (by decide) (a_var 1)) (l_cons (a_var 3) l_nil))) le_callO) l_nil)))))))))
def r_is_pairO (w : PySem.World) : ASt → M AOut := (bSeq (bIf (aOr (aNot (aVal (aCallR 1 f_checked_many (aCons (aVar 1) aNil)))) (aNot (aVal (aCallR 1 f_checked_many (aCons (aVar 3) aNil))))) (bRet (aC (.bl false))) bNext)
    (bSeq (bTry 14 "BadWorld" (bSet 7 (aLst (aCons (aCall 1 (f_checked_world w) (aCons (aVar 5) aNil)) (aCons (aCall 1 (f_checked_world w) (aCons (aVar 6) aNil)) aNil))))
    (bRet (aC (.bl false))))
    (bSeq (bSet 8 (aLc (aIt (aVar 7)) (cName 11) aYes (aTup (aCons (aCall 3 (f_behind w) (aCons (aBin gIx (aVar 0) (aC (.int 1))) (aCons (aVar 11) (aCons (aVar 1) aNil)))) (aCons (aCall 3 (f_behind w) (aCons (aBin gIx (aVar 0) (aC (.int 0))) (aCons (aVar 11) (aCons (aVar 3) aNil)))) aNil))) [11]))
    (bSeq (bIf (aVal (aCB gAny (aCons (aLc (aIt (aVar 8)) (cTup 2 (cCons (cName 12) (cCons (cName 13) cNil))) aYes (aOrV (aBin gIs (aVar 12) (aC .non)) (aBin gIs (aVar 13) (aC .non))) [12, 13]) aNil))) (bRet (aC (.bl false))) bNext)
    (bSeq (bSet 9 (aCall 4 f_shown_byO (aCons (aBin gIx (aBin gIx (aVar 8) (aC (.int 0))) (aC (.int 0))) (aCons (aBin gIx (aBin gIx (aVar 8) (aC (.int 0))) (aC (.int 1))) (aCons (aVar 2) (aCons (aVar 4) aNil))))))
    (bGuardL (aOrL (aVal (aBin gNe (aBin gIx (aVar 5) (aC (.int 0))) (aBin gIx (aVar 6) (aC (.int 0))))) (aOrL (aVal (aBin gEq (aBin gIx (aBin gIx (aVar 5) (aC (.int 0))) (aC (.int 0))) (aC (.str "table")))) (aVal (aBin gNe (aBin gIx (aVar 5) (aC (.int 2))) (aBin gIx (aVar 6) (aC (.int 2)))))))
    (bSeq (bSet 10 (aCall 4 f_shown_byO (aCons (aBin gIx (aBin gIx (aVar 8) (aC (.int 1))) (aC (.int 0))) (aCons (aBin gIx (aBin gIx (aVar 8) (aC (.int 1))) (aC (.int 1))) (aCons (aVar 2) (aCons (aVar 4) aNil))))))
    (bRet (aAndL (aEqO (aBin gIx (aVar 9) (aC (.int 0))) (aBin gIx (aVar 10) (aC (.int 0)))) (aNeO (aBin gIx (aVar 9) (aC (.int 1))) (aBin gIx (aVar 10) (aC (.int 1)))))))))))))
def f_is_pairO (w : PySem.World) : List AV → M AV := runB 14 (r_is_pairO w)
theorem c_is_pairO (h : Hd K mg) : CalA P w K mg base 10 "is_pair" 7 (f_is_pairO w) := cal_mk h.f_is_pair h.g_is_pair sc_is_pair (fun _ _ _ _ _ _ us hl => match us, hl with | [_, _, _, _, _, _, _], _ => rfl) (by
  intro cdv A outer s H E hr tk
  exact (b_cons (s_if (PW.pt (w_or (t_not (t_val (a_callR (c_checked_many hp h) hr tk (by decide) (by rfl) (l_cons (a_var 1) l_nil)))) (w_or1 (t_not (t_val (a_callR (c_checked_many hp h) hr tk (by decide) (by rfl) (l_cons (a_var 3) l_nil))))))) (b_one (s_ret a_bl)) b_nil)
      (b_cons (s_try (by rfl) (by rfl) (by rfl) tk (by rfl) h.g_BadWorld h.x_BadWorld_BadWorld (fun _ _ _ tk po => (b_one (s_set (i := 7) sc_is_pair.nd rfl (by first | exact Or.inl rfl | exact Or.inr rfl) (a_lst (l_cons (a_call (c_checked_world hp h) hr tk (by decide) (by rfl) (l_cons (a_var 5) l_nil)) (l_cons (a_call (c_checked_world hp h) hr tk (by decide) (by rfl) (l_cons (a_var 6) l_nil)) l_nil))))))
      (fun _ _ _ => (b_one (s_ret a_bl))))
      (b_cons (s_setLc (i := 8) (by rfl) sc_is_pair.nd rfl rfl (by first | exact sw_true rfl rfl rfl (by decide +kernel) | rfl) (i_seq (a_var 7)) (blkOk_by (N := n_is_pair) (sc := defScope s_is_pair) (own := [("world", 11)]) (by decide +kernel)) (tg_name 11 (by decide)) (fun _ _ _ _ _ => (pg_name (i := 11) sc_is_pair.nd rfl (by first | exact Or.inl rfl | exact Or.inr rfl))) (fun _ _ _ _ _ => ts_nil) (fun _ _ _ _ _ => (a_tup (l_cons (a_call (c_behind hp h) hr tkF (by decide) (by rfl) (l_cons (a_ix (hu_of hr) (a_var 0) a_int) (l_cons (a_var 11) (l_cons (a_var 1) l_nil)))) (l_cons (a_call (c_behind hp h) hr tkF (by decide) (by rfl) (l_cons (a_ix (hu_of hr) (a_var 0) a_int) (l_cons (a_var 11) (l_cons (a_var 3) l_nil)))) l_nil)))))
      (b_cons (s_if (t_val (a_cb r_any (pe_callB (cr_any (by rfl)) (by rfl) h.b_any (by decide +kernel) (l_cons (a_lc (by rfl) sc_is_pair.nd (i_seq (a_var 8)) (blkOk_by (N := n_is_pair) (sc := defScope s_is_pair) (own := [("lower", 12), ("upper", 13)]) (by decide +kernel)) (tg_tup (tgs_cons (tg_name 12 (by decide)) (tgs_cons (tg_name 13 (by decide)) tgs_nil))) (fun _ _ _ _ _ => (pg_tup (by rfl) (pgs_cons (pg_name (i := 12) sc_is_pair.nd rfl (by first | exact Or.inl rfl | exact Or.inr rfl)) (pgs_cons (pg_name (i := 13) sc_is_pair.nd rfl (by first | exact Or.inl rfl | exact Or.inr rfl)) pgs_nil)))) (fun _ _ _ _ _ => ts_nil) (fun _ _ _ _ _ => (a_or (a_cmp o_is r_is (a_var 12) a_non (nomark _)) (a_one (a_cmp o_is r_is (a_var 13) a_non (nomark _)))))) l_nil)))) (b_one (s_ret a_bl)) b_nil)
      (b_cons (s_set (i := 9) sc_is_pair.nd rfl (by first | exact Or.inl rfl | exact Or.inr rfl) (a_call (c_shown_byO hp h) hr tk (by decide) (by rfl) (l_cons (a_ix (hu_of hr) (a_ix (hu_of hr) (a_var 8) a_int) a_int) (l_cons (a_ix (hu_of hr) (a_ix (hu_of hr) (a_var 8) a_int) a_int) (l_cons (a_var 2) (l_cons (a_var 4) l_nil))))))
      (b_imp (b_cons (s_if (t_imp (PW.pt (w_or (t_cmp (o_ne hr.units) r_ne (a_ix (hu_of hr) (a_var 5) a_int) (a_ix (hu_of hr) (a_var 6) a_int) (nomark _)) (w_or (t_cmp (o_eq hr.units) r_eq (a_ix (hu_of hr) (a_ix (hu_of hr) (a_var 5) a_int) a_int) a_str (nomark _)) (w_or1 (t_cmp (o_ne hr.units) r_ne (a_ix (hu_of hr) (a_var 5) a_int) (a_ix (hu_of hr) (a_var 6) a_int) (nomark _)))))) (le_orL (still_orL (still_val (still_bin still_eq (still_bin still_ix (still_bin still_ix (still_var _) (still_c _)) (still_c _)) (still_c _)))) (le_orL (still_val (still_bin still_ne (still_bin still_ix (still_var _) (still_c _)) (still_bin still_ix (still_var _) (still_c _)))) fun _ => Le.refl _))) (b_one (s_ret a_bl)) b_nil)
      (b_cons (s_set (i := 10) sc_is_pair.nd rfl (by first | exact Or.inl rfl | exact Or.inr rfl) (a_call (c_shown_byO hp h) hr tk (by decide) (by rfl) (l_cons (a_ix (hu_of hr) (a_ix (hu_of hr) (a_var 8) a_int) a_int) (l_cons (a_ix (hu_of hr) (a_ix (hu_of hr) (a_var 8) a_int) a_int) (l_cons (a_var 2) (l_cons (a_var 4) l_nil))))))
      (b_one (s_ret (a_imp (a_and (a_cmp (o_eq hr.units) r_eq (a_ix (hu_of hr) (a_var 9) a_int) (a_ix (hu_of hr) (a_var 10) a_int) (nomark _)) (a_one (a_cmp (o_ne hr.units) r_ne (a_ix (hu_of hr) (a_var 9) a_int) (a_ix (hu_of hr) (a_var 10) a_int) (nomark _)))) (le_andL le_eqO (still_neO (still_bin still_ix (still_var _) (still_c _)) (still_bin still_ix (still_var _) (still_c _))) le_neO)))))) le_guardL)))))))
def r_set_by : ASt → M AOut := (bRet (aIf (aVal (aBin gIn (aBin gIx (aVar 0) (aC (.int 0))) (aTup (aCons (aC (.str "op")) (aCons (aC (.str "copy")) (aCons (aC (.str "take")) (aCons (aC (.str "read")) (aCons (aC (.str "call")) aNil)))))))) (aBin gIx (aVar 0) (aC (.int 1))) (aC .non)))
def f_set_by : List AV → M AV := runB 1 r_set_by
theorem c_set_by (h : Hd K mg) : CalA P w K mg base 1 "set_by" 1 f_set_by := cal_mk h.f_set_by h.g_set_by sc_set_by (fun _ _ _ _ _ _ us hl => match us, hl with | [_], _ => rfl) (by
  intro cdv A outer s H E hr tk
  exact (b_one (s_ret (a_if (t_cmp (o_in (hu65 hr)) r_in (a_ix (hu_of hr) (a_var 0) a_int) (a_tup (l_cons a_str (l_cons a_str (l_cons a_str (l_cons a_str (l_cons a_str l_nil)))))) (by rfl)) (a_ix (hu_of hr) (a_var 0) a_int) a_non))))
def r_used_by : ASt → M AOut := (bSeq (bIf (aVal (aBin gIn (aBin gIx (aVar 0) (aC (.int 0))) (aTup (aCons (aC (.str "op")) (aCons (aC (.str "call")) aNil))))) (bRet (aBin gIx (aVar 0) (aC (.int 3)))) bNext)
    (bSeq (bIf (aVal (aBin gIn (aBin gIx (aVar 0) (aC (.int 0))) (aTup (aCons (aC (.str "ask")) (aCons (aC (.str "must")) (aCons (aC (.str "last")) aNil)))))) (bRet (aBin gIx (aVar 0) (aC (.int 2)))) bNext)
    (bSeq (bIf (aVal (aBin gIn (aBin gIx (aVar 0) (aC (.int 0))) (aTup (aCons (aC (.str "copy")) (aCons (aC (.str "put")) aNil))))) (bRet (aTup (aCons (aBin gIx (aVar 0) (aC (.int 2))) aNil))) bNext)
    (bRet (aIf (aVal (aBin gIn (aBin gIx (aVar 0) (aC (.int 0))) (aTup (aCons (aC (.str "tell")) (aCons (aC (.str "give")) aNil))))) (aTup (aCons (aBin gIx (aVar 0) (aC (.int 1))) aNil)) (aTup aNil))))))
def f_used_by : List AV → M AV := runB 1 r_used_by
theorem c_used_by (h : Hd K mg) : CalA P w K mg base 1 "used_by" 1 f_used_by := cal_mk h.f_used_by h.g_used_by sc_used_by (fun _ _ _ _ _ _ us hl => match us, hl with | [_], _ => rfl) (by
  intro cdv A outer s H E hr tk
  exact (b_cons (s_if (t_cmp (o_in (hu65 hr)) r_in (a_ix (hu_of hr) (a_var 0) a_int) (a_tup (l_cons a_str (l_cons a_str l_nil))) (by rfl)) (b_one (s_ret (a_ix (hu_of hr) (a_var 0) a_int))) b_nil)
      (b_cons (s_if (t_cmp (o_in (hu65 hr)) r_in (a_ix (hu_of hr) (a_var 0) a_int) (a_tup (l_cons a_str (l_cons a_str (l_cons a_str l_nil)))) (by rfl)) (b_one (s_ret (a_ix (hu_of hr) (a_var 0) a_int))) b_nil)
      (b_cons (s_if (t_cmp (o_in (hu65 hr)) r_in (a_ix (hu_of hr) (a_var 0) a_int) (a_tup (l_cons a_str (l_cons a_str l_nil))) (by rfl)) (b_one (s_ret (a_tup (l_cons (a_ix (hu_of hr) (a_var 0) a_int) l_nil)))) b_nil)
      (b_one (s_ret (a_if (t_cmp (o_in (hu65 hr)) r_in (a_ix (hu_of hr) (a_var 0) a_int) (a_tup (l_cons a_str (l_cons a_str l_nil))) (by rfl)) (a_tup (l_cons (a_ix (hu_of hr) (a_var 0) a_int) l_nil)) (a_tup l_nil))))))))
def r_boxes_in : ASt → M AOut := (bSeq (bSet 2 (aCB gList (aCons (aVar 0) aNil)))
    (bSeq (bFor (aIt (aVar 1)) (agName 3)
        (bDrop (aMt isLst gExtend (aVar 2) (aCons (aBin gAdd (aLst (aStar (aCallR 1 f_used_by (aCons (aVar 3) aNil)) aNil)) (aIf (aVal (aBin gIsNot (aCallR 1 f_set_by (aCons (aVar 3) aNil)) (aC .non))) (aLst (aCons (aCallR 1 f_set_by (aCons (aVar 3) aNil)) aNil)) (aLst aNil))) aNil))))
    (bRet (aUn gSortSet (aVar 2)))))
def f_boxes_in : List AV → M AV := runB 4 r_boxes_in
theorem c_boxes_in (h : Hd K mg) : CalA P w K mg base 2 "boxes_in" 2 f_boxes_in := cal_mk h.f_boxes_in h.g_boxes_in sc_boxes_in (fun _ _ _ _ _ _ us hl => match us, hl with | [_, _], _ => rfl) (by
  intro cdv A outer s H E hr tk
  exact (b_cons (s_set (i := 2) sc_boxes_in.nd rfl (by first | exact Or.inl rfl | exact Or.inr rfl) (a_cb r_list (pe_callTy c_list (by rfl) h.b_list (by decide +kernel) (l_cons (a_var 0) l_nil))))
      (b_cons (s_for PassesOwn.leaving (by rfl) (i_seq (a_var 1)) (g_name (i := 3) sc_boxes_in.nd rfl (by first | exact Or.inl rfl | exact Or.inr rfl))
        (b_one (s_expr (a_mt p_lst r_extend (pe_bm PySem.F.plainAttrs_list PySem.F.slot_list_extend PySem.F.type_list_extend mt_extend (a_var 2) (l_cons (a_op o_add r_add (a_lst (l_star (a_callR (c_used_by hp h) hr tk (by decide) (by rfl) (l_cons (a_var 3) l_nil)) l_nil)) (a_if (t_cmp o_isnot r_isnot (a_callR (c_set_by hp h) hr tk (by decide) (by rfl) (l_cons (a_var 3) l_nil)) a_non (nomark _)) (a_lst (l_cons (a_callR (c_set_by hp h) hr tk (by decide) (by rfl) (l_cons (a_var 3) l_nil)) l_nil)) (a_lst l_nil))) l_nil))))))
      (b_one (s_ret (a_sortSet hr.units (by rfl) h.b_sorted (by rfl) h.b_set (a_var 2)))))))
def r_own_places : ASt → M AOut := (bRet (aCB gTuple (aCons (aLc (aRng (aCons (aCB gLen (aCons (aVar 1) aNil)) aNil)) (cName 2) aYes (aTup (aCons (aTup (aCons (aTup (aCons (aVar 0) (aCons (aVar 2) aNil))) aNil)) aNil)) [2]) aNil)))
def f_own_places : List AV → M AV := runB 3 r_own_places
theorem c_own_places (h : Hd K mg) : CalA P w K mg base 1 "own_places" 2 f_own_places := cal_mk h.f_own_places h.g_own_places sc_own_places (fun _ _ _ _ _ _ us hl => match us, hl with | [_, _], _ => rfl) (by
  intro cdv A outer s H E hr tk
  exact (b_one (s_ret (a_cb r_tuple (pe_callTy c_tuple (by rfl) h.b_tuple (by decide +kernel) (l_cons (a_lc (by rfl) sc_own_places.nd (i_rng (by rfl) h.b_range (l_cons (a_cb r_len (pe_callB c_len (by rfl) h.b_len (by decide +kernel) (l_cons (a_var 1) l_nil))) l_nil)) (blkOk_by (N := n_own_places) (sc := defScope s_own_places) (own := [("at", 2)]) (by decide +kernel)) (tg_name 2 (by decide)) (fun _ _ _ _ _ => (pg_name (i := 2) sc_own_places.nd rfl (by first | exact Or.inl rfl | exact Or.inr rfl))) (fun _ _ _ _ _ => ts_nil) (fun _ _ _ _ _ => (a_tup (l_cons (a_tup (l_cons (a_tup (l_cons (a_var 0) (l_cons (a_var 2) l_nil))) l_nil)) l_nil)))) l_nil))))))
def r_own_lines : ASt → M AOut := (bRet (aCB gTuple (aCons (aLc (aIt (aBin gIx (aVar 0) (aC (.int 1)))) (cTup 3 (cCons (cName 1) (cCons (cName 2) (cCons (cName 3) cNil)))) aYes (aCallR 2 f_own_places (aCons (aVar 1) (aCons (aVar 3) aNil))) [1, 2, 3]) aNil)))
def f_own_lines : List AV → M AV := runB 4 r_own_lines
theorem c_own_lines (h : Hd K mg) : CalA P w K mg base 2 "own_lines" 1 f_own_lines := cal_mk h.f_own_lines h.g_own_lines sc_own_lines (fun _ _ _ _ _ _ us hl => match us, hl with | [_], _ => rfl) (by
  intro cdv A outer s H E hr tk
  exact (b_one (s_ret (a_cb r_tuple (pe_callTy c_tuple (by rfl) h.b_tuple (by decide +kernel) (l_cons (a_lc (by rfl) sc_own_lines.nd (i_seq (a_ix (hu_of hr) (a_var 0) a_int)) (blkOk_by (N := n_own_lines) (sc := defScope s_own_lines) (own := [("name", 1), ("params", 2), ("rows", 3)]) (by decide +kernel)) (tg_tup (tgs_cons (tg_name 1 (by decide)) (tgs_cons (tg_name 2 (by decide)) (tgs_cons (tg_name 3 (by decide)) tgs_nil)))) (fun _ _ _ _ _ => (pg_tup (by rfl) (pgs_cons (pg_name (i := 1) sc_own_lines.nd rfl (by first | exact Or.inl rfl | exact Or.inr rfl)) (pgs_cons (pg_name (i := 2) sc_own_lines.nd rfl (by first | exact Or.inl rfl | exact Or.inr rfl)) (pgs_cons (pg_name (i := 3) sc_own_lines.nd rfl (by first | exact Or.inl rfl | exact Or.inr rfl)) pgs_nil))))) (fun _ _ _ _ _ => ts_nil) (fun _ _ _ _ _ => (a_callR (c_own_places hp h) hr tkF (by decide) (by rfl) (l_cons (a_var 1) (l_cons (a_var 3) l_nil))))) l_nil))))))
def r_many_places : ASt → M AOut := (bSeq (bSet 1 (aC (.int 1)))
    (bSeq (bFor (aIt (aIf (aVal (aBin gIn (aBin gIx (aVar 0) (aC (.int 0))) (aTup (aCons (aC (.str "if")) (aCons (aC (.str "while")) aNil))))) (aSl (aVar 0) (aPart (aC (.int 3))) aNoPart) (aTup aNil))) (agName 2)
        (fun _ => M.fail))
    (bRet (aVar 1))))
def f_many_places : List AV → M AV := runB 4 r_many_places
theorem c_many_places (h : Hd K mg) : CalA P w K mg base 1 "many_places" 1 f_many_places := cal_mk h.f_many_places h.g_many_places sc_many_places (fun _ _ _ _ _ _ us hl => match us, hl with | [_], _ => rfl) (by
  intro cdv A outer s H E hr tk
  exact (b_cons (s_set (i := 1) sc_many_places.nd rfl (by first | exact Or.inl rfl | exact Or.inr rfl) a_int)
      (b_cons (s_for PassesOwn.leaving (by rfl) (i_seq (a_if (t_cmp (o_in (hu65 hr)) r_in (a_ix (hu_of hr) (a_var 0) a_int) (a_tup (l_cons a_str (l_cons a_str l_nil))) (by rfl)) (a_sl (a_var 0) (q_some a_int) q_none) (a_tup l_nil))) (g_name (i := 2) sc_many_places.nd rfl (by first | exact Or.inl rfl | exact Or.inr rfl))
        (b_one s_never))
      (b_one (s_ret (a_var 1))))))
theorem k_Maker (h : Hd K mg) : MakS P w K mg base 1 "Maker" 1 0 := by
  obtain ⟨p, s1⟩ := h.sl_rows
  obtain ⟨q, s2⟩ := h.sl_places
  exact maks_mk h.mk_Maker h.g_Maker h.f_Maker_init sc_Maker_init (fun _ _ _ _ _ _ us hl => match us, hl with | [_], _ => rfl) ⟨_, _, _, _, _, _, _, _, _, _, _, _, rfl, rfl⟩ (by rfl) h.sc_Maker s1 s2
def r_Maker_put : ASt → M AOut := (bSeq (bDrop (aMt isLst gAppend (aUn (gSlf "Maker" 1) (aVar 0)) (aCons (aVar 1) aNil)))
    (bSeq (bDrop (aMt isLst gAppend (aUn (gSlf "Maker" 0) (aVar 0)) (aCons (aVar 2) aNil)))
    (bRet (aBin (gII (fun _ _ => true) fun i j => i - j) (aCB gLen (aCons (aUn (gSlf "Maker" 1) (aVar 0)) aNil)) (aC (.int 1))))))
def f_Maker_put : List AV → M AV := runB 3 r_Maker_put
theorem c_Maker_put (h : Hd K mg) : MetS P w K mg base 1 "Maker" "put" 3 f_Maker_put := met_mkS h.sc_Maker h.m_Maker_put h.f_Maker_put sc_Maker_put (fun _ _ _ _ _ _ us hl => match us, hl with | [_, _, _], _ => rfl) (by
  intro cdv A outer s H E hr tk
  exact (b_cons (s_expr (a_mt p_lst r_append (pe_bm PySem.F.plainAttrs_list PySem.F.slot_list_append PySem.F.type_list_append mt_append (a_slfE h.sc_Maker h.sl_rows (a_var 0)) (l_cons (a_var 1) l_nil))))
      (b_cons (s_expr (a_mt p_lst r_append (pe_bm PySem.F.plainAttrs_list PySem.F.slot_list_append PySem.F.type_list_append mt_append (a_slfE h.sc_Maker h.sl_places (a_var 0)) (l_cons (a_var 2) l_nil))))
      (b_one (s_ret (a_op op_sub r_II0 (a_cb r_len (pe_callB c_len (by rfl) h.b_len (by decide +kernel) (l_cons (a_slfE h.sc_Maker h.sl_rows (a_var 0)) l_nil))) a_int))))))
def r_Maker_statement : ASt → M AOut := (bIf (aVal (aBin gEq (aBin gIx (aVar 1) (aC (.int 0))) (aC (.str "if")))) (fun _ => M.fail) (bIf (aVal (aBin gEq (aBin gIx (aVar 1) (aC (.int 0))) (aC (.str "while")))) (fun _ => M.fail) (bIf (aVal (aBin gEq (aBin gIx (aVar 1) (aC (.int 0))) (aC (.str "set")))) (bDrop (aMethS "Maker" 3 f_Maker_put (aVar 0) (aCons (aTup (aCons (aC (.str "copy")) (aCons (aBin gIx (aVar 1) (aC (.int 1))) (aCons (aBin gIx (aVar 1) (aC (.int 2))) aNil)))) (aCons (aVar 2) aNil)))) (bDrop (aMethS "Maker" 3 f_Maker_put (aVar 0) (aCons (aVar 1) (aCons (aVar 2) aNil)))))))
def f_Maker_statement : List AV → M AV := runB 3 r_Maker_statement
theorem c_Maker_statement (h : Hd K mg) : MetS P w K mg base 2 "Maker" "statement" 3 f_Maker_statement := met_mkS h.sc_Maker h.m_Maker_statement h.f_Maker_statement sc_Maker_statement (fun _ _ _ _ _ _ us hl => match us, hl with | [_, _, _], _ => rfl) (by
  intro cdv A outer s H E hr tk
  exact (b_one (s_if (t_cmp (o_eq hr.units) r_eq (a_ix (hu_of hr) (a_var 1) a_int) a_str (nomark _)) (b_one s_never) (b_one (s_if (t_cmp (o_eq hr.units) r_eq (a_ix (hu_of hr) (a_var 1) a_int) a_str (nomark _)) (b_one s_never) (b_one (s_if (t_cmp (o_eq hr.units) r_eq (a_ix (hu_of hr) (a_var 1) a_int) a_str (nomark _)) (b_one (s_expr (a_methS (c_Maker_put hp h) hr tk (by decide) (a_var 0) (l_cons (a_tup (l_cons a_str (l_cons (a_ix (hu_of hr) (a_var 1) a_int) (l_cons (a_ix (hu_of hr) (a_var 1) a_int) l_nil)))) (l_cons (a_var 2) l_nil))))) (b_one (s_expr (a_methS (c_Maker_put hp h) hr tk (by decide) (a_var 0) (l_cons (a_var 1) (l_cons (a_var 2) l_nil))))))))))))
def r_Maker_body : ASt → M AOut := (bFor (aIt (aVar 1)) (agName 3)
        (bSeq (bDrop (aMethS "Maker" 3 f_Maker_statement (aVar 0) (aCons (aVar 3) (aCons (aVar 2) aNil))))
    (bAug 2 (gII (fun _ _ => true) fun i j => i + j) (aCallR 1 f_many_places (aCons (aVar 3) aNil)))))
def f_Maker_body : List AV → M AV := runB 4 r_Maker_body
theorem c_Maker_body (h : Hd K mg) : MetS P w K mg base 3 "Maker" "body" 3 f_Maker_body := met_mkS h.sc_Maker h.m_Maker_body h.f_Maker_body sc_Maker_body (fun _ _ _ _ _ _ us hl => match us, hl with | [_, _, _], _ => rfl) (by
  intro cdv A outer s H E hr tk
  exact (b_one (s_for PassesOwn.leaving (by rfl) (i_seq (a_var 1)) (g_name (i := 3) sc_Maker_body.nd rfl (by first | exact Or.inl rfl | exact Or.inr rfl))
        (b_cons (s_expr (a_methS (c_Maker_statement hp h) hr tk (by decide) (a_var 0) (l_cons (a_var 3) (l_cons (a_var 2) l_nil))))
      (b_one (s_aug (i := 2) sc_Maker_body.nd rfl (by first | exact Or.inl rfl | exact Or.inr rfl) (a_callR (c_many_places hp h) hr tk (by decide) (by rfl) (l_cons (a_var 3) l_nil)) iop_add r_II0))))))
def r_plain_code : ASt → M AOut := (bSeq (bPar 1 2 (aCons (aLst aNil) (aCons (aLst aNil) aNil)))
    (bSeq (bFor (aIt (aBin gIx (aVar 0) (aC (.int 1)))) (agSeq 3 (agCons (agName 3) (agCons (agName 4) (agCons (agName 5) agNil))))
        (bSeq (bSet 6 (aMkS "Maker"))
    (bSeq (bDrop (aMethS "Maker" 3 f_Maker_body (aVar 6) (aCons (aVar 5) (aCons (aC (.int 0)) aNil))))
    (bSeq (bIf (aVal (aBin (gIB fun i j => decide (j < i)) (aCB gLen (aCons (aUn (gSlf "Maker" 1) (aVar 6)) aNil)) (aC (.int 160)))) (aRaise "TooLarge" ["what", "limit"] (aCons (aC (.str "rows")) (aCons (aC (.int 160)) aNil))) bNext)
    (bSeq (bIf (aVal (aBin (gIB fun i j => decide (j < i)) (aCB gLen (aCons (aCall 2 f_boxes_in (aCons (aVar 4) (aCons (aUn (gSlf "Maker" 1) (aVar 6)) aNil))) aNil)) (aC (.int 24)))) (aRaise "TooLarge" ["what", "limit"] (aCons (aC (.str "boxes")) (aCons (aC (.int 24)) aNil))) bNext)
    (bSeq (bDrop (aMt isLst gAppend (aVar 1) (aCons (aTup (aCons (aVar 3) (aCons (aVar 4) (aCons (aCB gTuple (aCons (aUn (gSlf "Maker" 1) (aVar 6)) aNil)) aNil)))) aNil)))
    (bDrop (aMt isLst gAppend (aVar 2) (aCons (aCB gTuple (aCons (aUn (gSlf "Maker" 0) (aVar 6)) aNil)) aNil)))))))))
    (bRet (aTup (aCons (aTup (aCons (aBin gIx (aVar 0) (aC (.int 0))) (aCons (aCB gTuple (aCons (aVar 1) aNil)) aNil))) (aCons (aCB gTuple (aCons (aVar 2) aNil)) aNil))))))
def f_plain_code : List AV → M AV := runB 7 r_plain_code
theorem c_plain_code (h : Hd K mg) : CalA P w K mg base 4 "plain_code" 1 f_plain_code := cal_mk h.f_plain_code h.g_plain_code sc_plain_code (fun _ _ _ _ _ _ us hl => match us, hl with | [_], _ => rfl) (by
  intro cdv A outer s H E hr tk
  exact (b_cons (s_par (by rfl) sc_plain_code.nd rfl rfl (by decide) rfl rfl (l_cons (a_lst l_nil) (l_cons (a_lst l_nil) l_nil)) (by rfl))
      (b_cons (s_for PassesOwn.leaving (by rfl) (i_seq (a_ix (hu_of hr) (a_var 0) a_int)) (g_seq (by rfl) (gs_cons (g_name (i := 3) sc_plain_code.nd rfl (by first | exact Or.inl rfl | exact Or.inr rfl)) (gs_cons (g_name (i := 4) sc_plain_code.nd rfl (by first | exact Or.inl rfl | exact Or.inr rfl)) (gs_cons (g_name (i := 5) sc_plain_code.nd rfl (by first | exact Or.inl rfl | exact Or.inr rfl)) gs_nil))))
        (b_cons (s_set (i := 6) sc_plain_code.nd rfl (by first | exact Or.inl rfl | exact Or.inr rfl) (a_makeS (k_Maker hp h) hr tk (by decide) (by rfl)))
      (b_cons (s_expr (a_methS (c_Maker_body hp h) hr tk (by decide) (a_var 6) (l_cons (a_var 5) (l_cons a_int l_nil))))
      (b_cons (s_if (t_cmp op_gt r_IB (a_cb r_len (pe_callB c_len (by rfl) h.b_len (by decide +kernel) (l_cons (a_slfE h.sc_Maker h.sl_rows (a_var 6)) l_nil))) (a_gc (by rfl) h.v_MOST_ROWS (fun _ _ => .int _)) (nomark _)) (b_one (s_raise (k_TooLarge hp h) (by decide) hr tk (by decide) (by rfl) (l_cons a_str (l_cons (a_gc (by rfl) h.v_MOST_ROWS (fun _ _ => .int _)) l_nil)))) b_nil)
      (b_cons (s_if (t_cmp op_gt r_IB (a_cb r_len (pe_callB c_len (by rfl) h.b_len (by decide +kernel) (l_cons (a_call (c_boxes_in hp h) hr tk (by decide) (by rfl) (l_cons (a_var 4) (l_cons (a_slfE h.sc_Maker h.sl_rows (a_var 6)) l_nil))) l_nil))) (a_gc (by rfl) h.v_MOST_BOXES (fun _ _ => .int _)) (nomark _)) (b_one (s_raise (k_TooLarge hp h) (by decide) hr tk (by decide) (by rfl) (l_cons a_str (l_cons (a_gc (by rfl) h.v_MOST_BOXES (fun _ _ => .int _)) l_nil)))) b_nil)
      (b_cons (s_expr (a_mt p_lst r_append (pe_bm PySem.F.plainAttrs_list PySem.F.slot_list_append PySem.F.type_list_append mt_append (a_var 1) (l_cons (a_tup (l_cons (a_var 3) (l_cons (a_var 4) (l_cons (a_cb r_tuple (pe_callTy c_tuple (by rfl) h.b_tuple (by decide +kernel) (l_cons (a_slfE h.sc_Maker h.sl_rows (a_var 6)) l_nil))) l_nil)))) l_nil))))
      (b_one (s_expr (a_mt p_lst r_append (pe_bm PySem.F.plainAttrs_list PySem.F.slot_list_append PySem.F.type_list_append mt_append (a_var 2) (l_cons (a_cb r_tuple (pe_callTy c_tuple (by rfl) h.b_tuple (by decide +kernel) (l_cons (a_slfE h.sc_Maker h.sl_places (a_var 6)) l_nil))) l_nil)))))))))))
      (b_one (s_ret (a_tup (l_cons (a_tup (l_cons (a_ix (hu_of hr) (a_var 0) a_int) (l_cons (a_cb r_tuple (pe_callTy c_tuple (by rfl) h.b_tuple (by decide +kernel) (l_cons (a_var 1) l_nil))) l_nil))) (l_cons (a_cb r_tuple (pe_callTy c_tuple (by rfl) h.b_tuple (by decide +kernel) (l_cons (a_var 2) l_nil))) l_nil))))))))
def r_own_build : ASt → M AOut := (bRet (aTup (aCons (aVar 0) (aCons (aVar 0) (aCons (aCallR 1 f_own_lines (aCons (aVar 0) aNil)) aNil)))))
def f_own_build : List AV → M AV := runB 1 r_own_build
theorem c_own_build (h : Hd K mg) : CalA P w K mg base 3 "own_build" 1 f_own_build := cal_mk h.f_own_build h.g_own_build sc_own_build (fun _ _ _ _ _ _ us hl => match us, hl with | [_], _ => rfl) (by
  intro cdv A outer s H E hr tk
  exact (b_one (s_ret (a_tup (l_cons (a_var 0) (l_cons (a_var 0) (l_cons (a_callR (c_own_lines hp h) hr tk (by decide) (by rfl) (l_cons (a_var 0) l_nil)) l_nil)))))))
theorem ask_x (h : Hd K mg) : AskX K := by
  have x1 := h.xk_TooLarge_init hp
  have x2 := h.xk_BadSight_init hp
  obtain ⟨b1, b2⟩ := He.ba h.exx
  exact ⟨xfB_ok b1, xfB_ok b2, x1.hn _ (by decide +kernel), x1.hn _ (by decide +kernel), x2.hn _ (by decide +kernel), h.x_TooLarge_TooLarge, h.x_BadSight_TooLarge, h.x_BadSight_BadSight⟩
omit hp in
theorem askB : AskB "act" "error" (defBody s__law_asked) := ⟨_, _, _, _, _, _, _, _, _, _, _, _, _, _, _, _, _, _, rfl⟩
def qLam : Str := ("law.<locals>.<lambda>" : Str)
def r__law_bag : ASt → M AOut := (bRet (aLst (aCons (aC (.int 0)) (aCons (aC (.int 1234567891)) (aCons (aC (.int 0)) (aCons (aLc (aIt (aSl (aVar 0) aNoPart (aPart (aC (.int 63))))) (cName 1) aYes (aCB gAbs (aCons (aVar 1) aNil)) [1]) aNil))))))
def f__law_bag : List AV → M AV := runB 2 r__law_bag
theorem c__law_bag (h : Hd K mg) : CalA P w K mg base 1 "_law_bag" 1 f__law_bag := cal_mk h.f__law_bag h.g__law_bag sc__law_bag (fun _ _ _ _ _ _ us hl => match us, hl with | [_], _ => rfl) (by
  intro cdv A outer s H E hr tk
  exact (b_one (s_ret (a_lst (l_cons a_int (l_cons a_int (l_cons a_int (l_cons (a_lc (by rfl) sc__law_bag.nd (i_seq (a_sl (a_var 0) q_none (q_some a_int))) (blkOk_by (N := n__law_bag) (sc := defScope s__law_bag) (own := [("cell", 1)]) (by decide +kernel)) (tg_name 1 (by decide)) (fun _ _ _ _ _ => (pg_name (i := 1) sc__law_bag.nd rfl (by first | exact Or.inl rfl | exact Or.inr rfl))) (fun _ _ _ _ _ => ts_nil) (fun _ _ _ _ _ => (a_cb r_abs (pe_callB c_abs (by rfl) h.b_abs (by decide +kernel) (l_cons (a_var 1) l_nil))))) l_nil))))))))
def r__law_take : ASt → M AOut := (bSeq (bIf (aVal (aBin gEq (aBin gIx (aVar 0) (aC (.int 0))) (aC (.int 0)))) (bSeq (bSet 2 (aBin gIx (aBin gAdd (aSl (aBin gIx (aVar 0) (aC (.int 3))) (aPart (aBin gIx (aVar 0) (aC (.int 2)))) aNoPart) (aLst (aCons (aC (.int 0)) aNil))) (aC (.int 0))))
    (bSeq (bAugS (aVar 0) (aC (.int 2)) (aC (.int 1)))
    (bSeq (bIf (aVal (aBin (gIB fun i j => decide (j ≤ i)) (aVar 2) (aBin gPow (aC (.int 10)) (aC (.int 18))))) (bAsg (aVar 2) (agSub (aVar 0) (aC (.int 0)) gSetI)) bNext)
    (bSeq (bSet 3 (aBin gAdd (aBin gAdd (aBin gMul (aBin gIx (aVar 0) (aC (.int 1))) (aC (.int 48271))) (aBin (gII cPos fun i j => i % j) (aCB gInt (aCons (aVar 2) aNil)) (aC (.int 2147483647)))) (aBin gMul (aC (.int 7919)) (aBin gIx (aVar 0) (aC (.int 2))))))
    (bAsg (aBin (gII cPos fun i j => i % j) (aCB gInt (aCons (aVar 3) aNil)) (aC (.int 2147483647))) (agSub (aVar 0) (aC (.int 1)) gSetI)))))) bNext)
    (bSeq (bIf (aVal (aBin (gIB fun i j => decide (j < i)) (aBin gIx (aVar 0) (aC (.int 0))) (aC (.int 0)))) (bSeq (bSet 4 (aBin (gII cPos fun i j => i % j) (aCB gInt (aCons (aBin gIx (aVar 0) (aC (.int 0))) aNil)) (aVar 1)))
    (bSeq (bAsg (aBin (gII cDiv fun i j => i / j) (aCB gInt (aCons (aBin gIx (aVar 0) (aC (.int 0))) aNil)) (aVar 1)) (agSub (aVar 0) (aC (.int 0)) gSetI))
    (bRet (aVar 4)))) bNext)
    (bSeq (bSet 5 (aBin (gII cPos fun i j => i % j) (aCB gInt (aCons (aBin gMul (aBin gAdd (aBin gIx (aVar 0) (aC (.int 1))) (aC (.int 1))) (aC (.int 39373))) aNil)) (aC (.int 1000000007))))
    (bSeq (bSet 6 (aBin (gII cPos fun i j => i % j) (aCB gInt (aCons (aBin gMul (aBin (gII cPos fun i j => i % j) (aCB gInt (aCons (aBin gMul (aVar 5) (aVar 5)) aNil)) (aC (.int 998244353))) (aC (.int 30011))) aNil)) (aC (.int 998244353))))
    (bRet (aBin (gII cPos fun i j => i % j) (aCB gInt (aCons (aBin (gII cDiv fun i j => i / j) (aVar 6) (aC (.int 7))) aNil)) (aVar 1)))))))
def f__law_take : List AV → M AV := runB 7 r__law_take
theorem c__law_take (h : Hd K mg) : CalA P w K mg base 1 "_law_take" 2 f__law_take := cal_mk h.f__law_take h.g__law_take sc__law_take (fun _ _ _ _ _ _ us hl => match us, hl with | [_, _], _ => rfl) (by
  intro cdv A outer s H E hr tk
  exact (b_cons (s_if (t_cmp (o_eq hr.units) r_eq (a_ix (hu_of hr) (a_var 0) a_int) a_int (nomark _)) (b_cons (s_set (i := 2) sc__law_take.nd rfl (by first | exact Or.inl rfl | exact Or.inr rfl) (a_ix (hu_of hr) (a_op o_add r_add (a_sl (a_ix (hu_of hr) (a_var 0) a_int) (q_some (a_ix (hu_of hr) (a_var 0) a_int)) q_none) (a_lst (l_cons a_int l_nil))) a_int))
      (b_cons (s_augS (hu_of hr) (a_var 0) a_int a_int)
      (b_cons (s_if (t_cmp op_ge r_IB (a_var 2) (a_op o_pow r_pow a_int a_int) (nomark _)) (b_one (s_asg (a_var 2) (g_sub (a_var 0) a_int (p_set (hu_of hr)) r_set))) b_nil)
      (b_cons (s_set (i := 3) sc__law_take.nd rfl (by first | exact Or.inl rfl | exact Or.inr rfl) (a_op o_add r_add (a_op o_add r_add (a_op o_mul r_mul (a_ix (hu_of hr) (a_var 0) a_int) a_int) (a_op op_mod (r_II fun _ _ => cPos_ok) (a_cb r_int (pe_callTy c_int (by rfl) h.b_int (by decide +kernel) (l_cons (a_var 2) l_nil))) a_int)) (a_op o_mul r_mul a_int (a_ix (hu_of hr) (a_var 0) a_int))))
      (b_one (s_asg (a_op op_mod (r_II fun _ _ => cPos_ok) (a_cb r_int (pe_callTy c_int (by rfl) h.b_int (by decide +kernel) (l_cons (a_var 3) l_nil))) a_int) (g_sub (a_var 0) a_int (p_set (hu_of hr)) r_set))))))) b_nil)
      (b_cons (s_if (t_cmp op_gt r_IB (a_ix (hu_of hr) (a_var 0) a_int) a_int (nomark _)) (b_cons (s_set (i := 4) sc__law_take.nd rfl (by first | exact Or.inl rfl | exact Or.inr rfl) (a_op op_mod (r_II fun _ _ => cPos_ok) (a_cb r_int (pe_callTy c_int (by rfl) h.b_int (by decide +kernel) (l_cons (a_ix (hu_of hr) (a_var 0) a_int) l_nil))) (a_var 1)))
      (b_cons (s_asg (a_op op_fdivW (r_II fun _ _ => cDiv_ok) (a_cb r_int (pe_callTy c_int (by rfl) h.b_int (by decide +kernel) (l_cons (a_ix (hu_of hr) (a_var 0) a_int) l_nil))) (a_var 1)) (g_sub (a_var 0) a_int (p_set (hu_of hr)) r_set))
      (b_one (s_ret (a_var 4))))) b_nil)
      (b_cons (s_set (i := 5) sc__law_take.nd rfl (by first | exact Or.inl rfl | exact Or.inr rfl) (a_op op_mod (r_II fun _ _ => cPos_ok) (a_cb r_int (pe_callTy c_int (by rfl) h.b_int (by decide +kernel) (l_cons (a_op o_mul r_mul (a_op o_add r_add (a_ix (hu_of hr) (a_var 0) a_int) a_int) a_int) l_nil))) a_int))
      (b_cons (s_set (i := 6) sc__law_take.nd rfl (by first | exact Or.inl rfl | exact Or.inr rfl) (a_op op_mod (r_II fun _ _ => cPos_ok) (a_cb r_int (pe_callTy c_int (by rfl) h.b_int (by decide +kernel) (l_cons (a_op o_mul r_mul (a_op op_mod (r_II fun _ _ => cPos_ok) (a_cb r_int (pe_callTy c_int (by rfl) h.b_int (by decide +kernel) (l_cons (a_op o_mul r_mul (a_var 5) (a_var 5)) l_nil))) a_int) a_int) l_nil))) a_int))
      (b_one (s_ret (a_op op_mod (r_II fun _ _ => cPos_ok) (a_cb r_int (pe_callTy c_int (by rfl) h.b_int (by decide +kernel) (l_cons (a_op op_fdivW (r_II fun _ _ => cDiv_ok) (a_var 6) a_int) l_nil))) (a_var 1)))))))))
def f__law_takeD : List AV → M AV := fun xs => M.drop (f__law_take xs)
theorem c__law_takeD (h : Hd K mg) : CalA P w K mg base 1 "_law_take" 2 f__law_takeD := (c__law_take hp h).drop
def r__law_some : ASt → M AOut := (bRet (aBin gIx (aVar 1) (aCall 2 f__law_takeD (aCons (aVar 0) (aCons (aCB gLen (aCons (aVar 1) aNil)) aNil)))))
def f__law_some : List AV → M AV := runB 2 r__law_some
theorem c__law_some (h : Hd K mg) : CalA P w K mg base 2 "_law_some" 2 f__law_some := cal_mk h.f__law_some h.g__law_some sc__law_some (fun _ _ _ _ _ _ us hl => match us, hl with | [_, _], _ => rfl) (by
  intro cdv A outer s H E hr tk
  exact (b_one (s_ret (a_ix (hu_of hr) (a_var 1) (a_call (c__law_takeD hp h) hr tk (by decide) (by rfl) (l_cons (a_var 0) (l_cons (a_cb r_len (pe_callB c_len (by rfl) h.b_len (by decide +kernel) (l_cons (a_var 1) l_nil))) l_nil)))))))
def r__law_mixed : ASt → M AOut := (bSeq (bSet 2 (aLst aNil))
    (bSeq (bFor (aIt (aVar 1)) (agName 3)
        (bDrop (aMt isLst gInsert (aVar 2) (aCons (aCall 2 f__law_takeD (aCons (aVar 0) (aCons (aBin gAdd (aCB gLen (aCons (aVar 2) aNil)) (aC (.int 1))) aNil))) (aCons (aVar 3) aNil)))))
    (bRet (aVar 2))))
def f__law_mixed : List AV → M AV := runB 4 r__law_mixed
theorem c__law_mixed (h : Hd K mg) : CalA P w K mg base 2 "_law_mixed" 2 f__law_mixed := cal_mk h.f__law_mixed h.g__law_mixed sc__law_mixed (fun _ _ _ _ _ _ us hl => match us, hl with | [_, _], _ => rfl) (by
  intro cdv A outer s H E hr tk
  exact (b_cons (s_set (i := 2) sc__law_mixed.nd rfl (by first | exact Or.inl rfl | exact Or.inr rfl) (a_lst l_nil))
      (b_cons (s_for PassesOwn.leaving (by rfl) (i_seq (a_var 1)) (g_name (i := 3) sc__law_mixed.nd rfl (by first | exact Or.inl rfl | exact Or.inr rfl))
        (b_one (s_expr (a_mt p_lst r_insert (pe_bm PySem.F.plainAttrs_list PySem.F.slot_list_insert PySem.F.type_list_insert mt_insert (a_var 2) (l_cons (a_call (c__law_takeD hp h) hr tk (by decide) (by rfl) (l_cons (a_var 0) (l_cons (a_op o_add r_add (a_cb r_len (pe_callB c_len (by rfl) h.b_len (by decide +kernel) (l_cons (a_var 2) l_nil))) a_int) l_nil))) (l_cons (a_var 3) l_nil)))))))
      (b_one (s_ret (a_var 2))))))
def f__law_someD : List AV → M AV := fun xs => M.drop (f__law_some xs)
theorem c__law_someD (h : Hd K mg) : CalA P w K mg base 2 "_law_some" 2 f__law_someD := (c__law_some hp h).drop
def r__law_alike : ASt → M AOut := (bRet (aAndV (aBin gEq (aCB gRepr (aCons (aVar 0) aNil)) (aCB gRepr (aCons (aVar 1) aNil))) (aBin gEq (aVar 0) (aVar 1))))
def f__law_alike : List AV → M AV := runB 2 r__law_alike
theorem c__law_alike (h : Hd K mg) : CalG P w K mg base 1 "_law_alike" 2 f__law_alike := cal_mkG h.f__law_alike h.g__law_alike sc__law_alike (fun _ _ _ _ _ _ us hl => match us, hl with | [_, _], _ => rfl) (by
  intro cdv A outer s H E hgd hr tk
  exact (b_one (s_ret (a_and (a_cmp (o_eq hr.units) r_eq (a_cb r_repr (pe_callB (cr_repr hgd hr.units) (by rfl) h.b_repr (by decide +kernel) (l_cons (a_var 0) l_nil))) (a_cb r_repr (pe_callB (cr_repr hgd hr.units) (by rfl) h.b_repr (by decide +kernel) (l_cons (a_var 1) l_nil))) (nomark _)) (a_one (a_cmp (o_eq hr.units) r_eq (a_var 0) (a_var 1) (nomark _)))))))
def r__law_is_numeral : ASt → M AOut := (bSeq (bIf (aOr (aNot (aVal (aCB gIsi (aCons (aVar 0) (aCons (aC (.ty .str)) aNil))))) (aOr (aNot (aVal (aChain gLtX gLtX (aC (.int 0)) (aCB gLen (aCons (aVar 0) aNil)) (aC (.int 4))))) (aVal (aBin gNe (aLc (aIt (aVar 0)) (cName 1) (aVal (aBin gNotIn (aVar 1) (aC (.str "0123456789")))) (aVar 1) [1]) (aLst aNil))))) (bRet (aC (.bl false))) bNext)
    (bRet (aOrV (aBin gEq (aVar 0) (aC (.str "0"))) (aBin gNe (aBin gIx (aVar 0) (aC (.int 0))) (aC (.str "0"))))))
def f__law_is_numeral : List AV → M AV := runB 2 r__law_is_numeral
theorem c__law_is_numeral (h : Hd K mg) : CalA P w K mg base 1 "_law_is_numeral" 1 f__law_is_numeral := cal_mk h.f__law_is_numeral h.g__law_is_numeral sc__law_is_numeral (fun _ _ _ _ _ _ us hl => match us, hl with | [_], _ => rfl) (by
  intro cdv A outer s H E hr tk
  exact (b_cons (s_if (PW.pt (w_or (t_not (t_val (a_cb r_isi (pe_callB call_isi (by rfl) h.b_isinstance (by decide +kernel) (l_cons (a_var 0) (l_cons (a_ty .str (by rfl) h.b_str rfl) l_nil)))))) (w_or (t_not (t_chain (o_lt hr.units) r_lt (o_lt hr.units) r_lt a_int (a_cb r_len (pe_callB c_len (by rfl) h.b_len (by decide +kernel) (l_cons (a_var 0) l_nil))) a_int)) (w_or1 (t_cmp (o_ne hr.units) r_ne (a_lc (by rfl) sc__law_is_numeral.nd (i_seq (a_var 0)) (blkOk_by (N := n__law_is_numeral) (sc := defScope s__law_is_numeral) (own := [("sign", 1)]) (by decide +kernel)) (tg_name 1 (by decide)) (fun _ _ _ _ _ => (pg_name (i := 1) sc__law_is_numeral.nd rfl (by first | exact Or.inl rfl | exact Or.inr rfl))) (fun _ _ _ _ _ => (ts_one (t_cmp (o_notin (hu65 hr)) r_notin (a_var 1) a_str (by rfl)))) (fun _ _ _ _ _ => (a_var 1))) (a_lst l_nil) (nomark _)))))) (b_one (s_ret a_bl)) b_nil)
      (b_one (s_ret (a_or (a_cmp (o_eq hr.units) r_eq (a_var 0) a_str (nomark _)) (a_one (a_cmp (o_ne hr.units) r_ne (a_ix (hu_of hr) (a_var 0) a_int) a_str (nomark _))))))))
def r__law_formula : ASt → M AOut := (bSeq (bSet 3 (aBin (gII cPos fun i j => i % j) (aCB gInt (aCons (aVar 0) aNil)) (aC (.int 1000003))))
    (bSeq (bFor (aIt (aVar 1)) (agName 4)
        (bSet 3 (aBin (gII cPos fun i j => i % j) (aCB gInt (aCons (aBin gAdd (aBin gAdd (aBin gMul (aC (.int 31)) (aVar 3)) (aC (.int 1))) (aMt isStr gIndex (aC (.str "0123456789abcdefghijklmnopqrstuvwxyz")) (aCons (aVar 4) aNil))) aNil)) (aC (.int 1000003)))))
    (bSeq (bFor (aIt (aVar 2)) (agName 5)
        (bSet 3 (aBin (gII cPos fun i j => i % j) (aCB gInt (aCons (aBin gAdd (aBin gAdd (aBin gMul (aC (.int 37)) (aVar 3)) (aVar 5)) (aC (.int 1))) aNil)) (aC (.int 1000003)))))
    (bRet (aBin (gII (fun _ _ => true) fun i j => i - j) (aVar 3) (aC (.int 500000)))))))
def f__law_formula : List AV → M AV := runB 6 r__law_formula
theorem c__law_formula (h : Hd K mg) : CalA P w K mg base 1 "_law_formula" 3 f__law_formula := cal_mk h.f__law_formula h.g__law_formula sc__law_formula (fun _ _ _ _ _ _ us hl => match us, hl with | [_, _, _], _ => rfl) (by
  intro cdv A outer s H E hr tk
  exact (b_cons (s_set (i := 3) sc__law_formula.nd rfl (by first | exact Or.inl rfl | exact Or.inr rfl) (a_op op_mod (r_II fun _ _ => cPos_ok) (a_cb r_int (pe_callTy c_int (by rfl) h.b_int (by decide +kernel) (l_cons (a_var 0) l_nil))) a_int))
      (b_cons (s_for PassesOwn.leaving (by rfl) (i_seq (a_var 1)) (g_name (i := 4) sc__law_formula.nd rfl (by first | exact Or.inl rfl | exact Or.inr rfl))
        (b_one (s_set (i := 3) sc__law_formula.nd rfl (by first | exact Or.inl rfl | exact Or.inr rfl) (a_op op_mod (r_II fun _ _ => cPos_ok) (a_cb r_int (pe_callTy c_int (by rfl) h.b_int (by decide +kernel) (l_cons (a_op o_add r_add (a_op o_add r_add (a_op o_mul r_mul a_int (a_var 3)) a_int) (a_mt p_str r_index (pe_bm PySem.F.plainAttrs_str PySem.F.slot_str_index PySem.F.type_str_index mt_sindex a_str (l_cons (a_var 4) l_nil)))) l_nil))) a_int))))
      (b_cons (s_for PassesOwn.leaving (by rfl) (i_seq (a_var 2)) (g_name (i := 5) sc__law_formula.nd rfl (by first | exact Or.inl rfl | exact Or.inr rfl))
        (b_one (s_set (i := 3) sc__law_formula.nd rfl (by first | exact Or.inl rfl | exact Or.inr rfl) (a_op op_mod (r_II fun _ _ => cPos_ok) (a_cb r_int (pe_callTy c_int (by rfl) h.b_int (by decide +kernel) (l_cons (a_op o_add r_add (a_op o_add r_add (a_op o_mul r_mul a_int (a_var 3)) (a_var 5)) a_int) l_nil))) a_int))))
      (b_one (s_ret (a_op op_sub r_II0 (a_var 3) a_int)))))))
def r__law_apply : ASt → M AOut := (bSeq (bIf (aVal (aBin gNe (aBin gIx (aVar 0) (aC (.int 0))) (aC (.str "table")))) (bSeq (bIf (aAnd (aVal (aCallR 1 f__law_is_numeral (aCons (aVar 1) aNil))) (aVal (aBin gEq (aVar 2) (aTup aNil)))) (bRet (aCB gInt (aCons (aVar 1) aNil))) bNext)
    (bSeq (bIf (aAnd (aVal (aBin gIn (aVar 1) (aTup (aCons (aC (.str "add")) (aCons (aC (.str "sub")) aNil))))) (aVal (aBin gEq (aCB gLen (aCons (aVar 2) aNil)) (aC (.int 2))))) (bRet (aIf (aVal (aBin gEq (aVar 1) (aC (.str "add")))) (aBin gAdd (aBin gIx (aVar 2) (aC (.int 0))) (aBin gIx (aVar 2) (aC (.int 1)))) (aBin (gII (fun _ _ => true) fun i j => i - j) (aBin gIx (aVar 2) (aC (.int 0))) (aBin gIx (aVar 2) (aC (.int 1)))))) bNext)
    (bSeq (bIf (aAnd (aVal (aBin gEq (aVar 1) (aC (.str "neg")))) (aVal (aBin gEq (aCB gLen (aCons (aVar 2) aNil)) (aC (.int 1))))) (bRet (aUn gNeg (aBin gIx (aVar 2) (aC (.int 0))))) bNext)
    (bIf (aVal (aBin gEq (aBin gIx (aVar 0) (aC (.int 0))) (aC (.str "numbers")))) (bRet (aCallR 3 f__law_formula (aCons (aBin gIx (aVar 0) (aC (.int 1))) (aCons (aVar 1) (aCons (aVar 2) aNil))))) bNext)))) bNext)
    (bRet (aBin gIx (aBin gAdd (aLc (aIt (aBin gIx (aVar 0) (aC (.int 1)))) (cName 3) (aVal (aBin gEq (aSl (aVar 3) aNoPart (aPart (aC (.int 2)))) (aTup (aCons (aVar 1) (aCons (aVar 2) aNil))))) (aBin gIx (aVar 3) (aC (.int 2))) [3]) (aLst (aCons (aBin gIx (aVar 0) (aC (.int 2))) aNil))) (aC (.int 0)))))
def f__law_apply : List AV → M AV := runB 4 r__law_apply
theorem c__law_apply (h : Hd K mg) : CalA P w K mg base 2 "_law_apply" 3 f__law_apply := cal_mk h.f__law_apply h.g__law_apply sc__law_apply (fun _ _ _ _ _ _ us hl => match us, hl with | [_, _, _], _ => rfl) (by
  intro cdv A outer s H E hr tk
  exact (b_cons (s_if (t_cmp (o_ne hr.units) r_ne (a_ix (hu_of hr) (a_var 0) a_int) a_str (nomark _)) (b_cons (s_if (PW.pt (w_and (t_val (a_callR (c__law_is_numeral hp h) hr tk (by decide) (by rfl) (l_cons (a_var 1) l_nil))) (w_and1 (t_cmp (o_eq hr.units) r_eq (a_var 2) (a_tup l_nil) (nomark _))))) (b_one (s_ret (a_cb r_int (pe_callTy c_int (by rfl) h.b_int (by decide +kernel) (l_cons (a_var 1) l_nil))))) b_nil)
      (b_cons (s_if (PW.pt (w_and (t_cmp (o_in (hu65 hr)) r_in (a_var 1) (a_tup (l_cons a_str (l_cons a_str l_nil))) (by rfl)) (w_and1 (t_cmp (o_eq hr.units) r_eq (a_cb r_len (pe_callB c_len (by rfl) h.b_len (by decide +kernel) (l_cons (a_var 2) l_nil))) a_int (nomark _))))) (b_one (s_ret (a_if (t_cmp (o_eq hr.units) r_eq (a_var 1) a_str (nomark _)) (a_op o_add r_add (a_ix (hu_of hr) (a_var 2) a_int) (a_ix (hu_of hr) (a_var 2) a_int)) (a_op op_sub r_II0 (a_ix (hu_of hr) (a_var 2) a_int) (a_ix (hu_of hr) (a_var 2) a_int))))) b_nil)
      (b_cons (s_if (PW.pt (w_and (t_cmp (o_eq hr.units) r_eq (a_var 1) a_str (nomark _)) (w_and1 (t_cmp (o_eq hr.units) r_eq (a_cb r_len (pe_callB c_len (by rfl) h.b_len (by decide +kernel) (l_cons (a_var 2) l_nil))) a_int (nomark _))))) (b_one (s_ret (a_un un_neg r_neg (a_ix (hu_of hr) (a_var 2) a_int)))) b_nil)
      (b_one (s_if (t_cmp (o_eq hr.units) r_eq (a_ix (hu_of hr) (a_var 0) a_int) a_str (nomark _)) (b_one (s_ret (a_callR (c__law_formula hp h) hr tk (by decide) (by rfl) (l_cons (a_ix (hu_of hr) (a_var 0) a_int) (l_cons (a_var 1) (l_cons (a_var 2) l_nil)))))) b_nil))))) b_nil)
      (b_one (s_ret (a_ix (hu_of hr) (a_op o_add r_add (a_lc (by rfl) sc__law_apply.nd (i_seq (a_ix (hu_of hr) (a_var 0) a_int)) (blkOk_by (N := n__law_apply) (sc := defScope s__law_apply) (own := [("row", 3)]) (by decide +kernel)) (tg_name 3 (by decide)) (fun _ _ _ _ _ => (pg_name (i := 3) sc__law_apply.nd rfl (by first | exact Or.inl rfl | exact Or.inr rfl))) (fun _ _ _ _ _ => (ts_one (t_cmp (o_eq hr.units) r_eq (a_sl (a_var 3) q_none (q_some a_int)) (a_tup (l_cons (a_var 1) (l_cons (a_var 2) l_nil))) (nomark _)))) (fun _ _ _ _ _ => (a_ix (hu_of hr) (a_var 3) a_int))) (a_lst (l_cons (a_ix (hu_of hr) (a_var 0) a_int) l_nil))) a_int)))))
end K95

set_option Elab.async false
set_option linter.all false
set_option maxRecDepth 100000
set_option maxHeartbeats 4000000
namespace K95
open PySem PySem.Spec PyProof.Rows L2 AX
variable {P : Program} {w : PySem.World} {K : PySem.W.Frag} {mg : Str → Option Value} {base : Heap}
variable (hp : PF P)
include hp
def v__law_alike : List AV → M AV := fun xs A => match xs with
  | [.ref i, .ref j] => match A[i]?, A[j]? with
    | some (.lst [.bl a, .bl b, .bl c]), some (.lst [.bl d, .bl e, .bl f]) => some ([a = d, b = e, c = f], A, .ok (.bl true))
    | _, _ => none
  | _ => none
omit hp in
theorem toD_lst {A : AH} {i : Nat} {a b c : Bool} (h : A[i]? = some (.lst [.bl a, .bl b, .bl c])) : toD A (.ref i) = some (.list [.bool a, .bool b, .bool c]) := by
  unfold toD
  dsimp only
  rw [h]
  rfl
omit hp in
theorem le_alike (xs : List AV) : Le (v__law_alike xs) (f__law_alike xs) := by
  intro A l A' r e hl
  unfold v__law_alike at e
  split at e
  · rename_i i j
    split at e
    · rename_i a b c d e' f h1 h2
      cases e
      have e1 : a = d := hl _ (by simp)
      have e2 : b = e' := hl _ (by simp)
      have e3 : c = f := hl _ (by simp)
      subst e1 e2 e3
      have t1 := toD_lst h1
      have t2 := toD_lst h2
      have ok : reprOk (.list [.bool a, .bool b, .bool c]) = true := by cases a <;> cases b <;> cases c <;> decide +kernel
      have sh : (SeqAt.shaped (.list [.bool a, .bool b, .bool c]) && SeqAt.shaped (.list [.bool a, .bool b, .bool c])) = true := by cases a <;> cases b <;> cases c <;> decide +kernel
      have ev : PyData.eqv (.list [.bool a, .bool b, .bool c]) (.list [.bool a, .bool b, .bool c]) = true := by cases a <;> cases b <;> cases c <;> decide +kernel
      have g1 : gRepr [.ref i] A = some (.str (PyData.shown (.list [.bool a, .bool b, .bool c])), A) := by
        unfold gRepr
        dsimp only
        rw [t1]
        dsimp only
        rw [ok]
      have g2 : gRepr [.ref j] A = some (.str (PyData.shown (.list [.bool a, .bool b, .bool c])), A) := by
        unfold gRepr
        dsimp only
        rw [t2]
        dsimp only
        rw [ok]
      have g3 : gEq (.ref i) (.ref j) A = some (.bl true, A) := by
        unfold gEq eqX
        dsimp only
        rw [t1, t2]
        dsimp only
        rw [sh]
        dsimp only
        rw [ev]
      have g4 : gEq (.str (PyData.shown (.list [.bool a, .bool b, .bool c]))) (.str (PyData.shown (.list [.bool a, .bool b, .bool c]))) A = some (.bl true, A) := by
        show some (AV.bl (strB _ _), A) = _
        rw [strB_eq, decide_eq_true rfl]
      have lf : ∀ {α : Type} {g : AH → Option (α × AH)} {z : α}, g A = some (z, A) → M.lift g A = some ([], A, .ok z) := fun h => by unfold M.lift; rw [h]
      have r1 : aCB gRepr (aCons (aVar 0) aNil) [some (.ref i), some (.ref j)] A = some (([] ++ ([] ++ [])) ++ [], A, .ok (.str (PyData.shown (.list [.bool a, .bool b, .bool c])))) := bind_ok rfl (lf g1)
      have r2 : aCB gRepr (aCons (aVar 1) aNil) [some (.ref i), some (.ref j)] A = some (([] ++ ([] ++ [])) ++ [], A, .ok (.str (PyData.shown (.list [.bool a, .bool b, .bool c])))) := bind_ok rfl (lf g2)
      have r3 : aBin gEq (aVar 0) (aVar 1) [some (.ref i), some (.ref j)] A = some ([] ++ ([] ++ []), A, .ok (.bl true)) := bind_ok rfl (bind_ok rfl (lf g3))
      have r4 := bind_ok r1 (f := fun x => (aCB gRepr (aCons (aVar 1) aNil) [some (.ref i), some (.ref j)]).bind fun y => M.lift (gEq x y)) (bind_ok r2 (f := fun y => M.lift (gEq (.str (PyData.shown (.list [.bool a, .bool b, .bool c]))) y)) (lf g4))
      obtain ⟨l5, r5, h5⟩ : ∃ l, aAndV (aBin gEq (aCB gRepr (aCons (aVar 0) aNil)) (aCB gRepr (aCons (aVar 1) aNil))) (aBin gEq (aVar 0) (aVar 1)) [some (.ref i), some (.ref j)] A = some (l, A, .ok (.bl true)) ∧ ∀ p ∈ l, p := ⟨_, bind_ok r4 (bind_ok (a := true) (l1 := []) rfl r3), by simp⟩
      have r6 : r__law_alike [some (.ref i), some (.ref j)] A = some (l5 ++ [], A, .ok (.rt (.bl true))) := by
        unfold r__law_alike bRet
        exact bind_ok (f := fun v => M.pure (AOut.rt v)) r5 rfl
      exact ⟨(l5 ++ []) ++ [], bind_ok (m := r__law_alike [some (.ref i), some (.ref j)]) r6 rfl, fun p hp => h5 p (by simpa using hp)⟩
    · cases e
  · cases e
def pairB (w : PySem.World) (xs : List AV) : Bool := match f_is_pairO w xs [] with
  | some (_, _, .ok (.bl b)) => b
  | _ => false
def pairG (w : PySem.World) : List AV → AV := fun xs => .bl (pairB w xs)
def applyI (xs : List AV) : Int := match f__law_apply xs [] with
  | some (_, _, .ok (.int b)) => b
  | _ => 0
def applyG : List AV → AV := fun xs => .int (applyI xs)
def zzE : AExc := ⟨"BadSight", ["fault"], [.str "unset"]⟩
def tx (s : Str) : AV := .str s
def progRows : AV := .tup [.tup [tx "read", tx "a"], .tup [tx "read", tx "b"], .tup [tx "read", tx "c"], .tup [tx "op", tx "s", tx "add", .tup [tx "a", tx "b"]], .tup [tx "tell", tx "s"], .tup [tx "op", tx "t", tx "f", .tup [tx "c"]], .tup [tx "must", tx "q", .tup [tx "t"]], .tup [tx "give", tx "a"]]
def theProg : AV := .tup [.tup [], .tup [.tup [tx "main", .tup [], progRows]]]
def codeT : AV := .tup [theProg, .tup [.tup [.int 0, .int 1, .int 2, .int 3, .int 4, .int 5, .int 6, .int 7]]]
def plc (i : Int) : AV := .tup [.tup [.tup [tx "main", .int i]]]
def buildT : AV := .tup [theProg, theProg, .tup [.tup [plc 0, plc 1, plc 2, plc 3, plc 4, plc 5, plc 6, plc 7]]]
end K95

set_option Elab.async false
set_option linter.all false
set_option maxRecDepth 100000
set_option maxHeartbeats 4000000
namespace K95
open PySem PySem.Spec PyProof.Rows L2 AX
variable {P : Program} {w : PySem.World} {K : PySem.W.Frag} {mg : Str → Option Value} {base : Heap}
variable (hp : PF P)
include hp

def r_law (w : PySem.World) (T : Addr) : ASt → M AOut := (bSeq (bSet 1 (aCall 1 f__law_bag (aCons (aVar 0) aNil)))
    (bSeq (bSet 2 (aTup (aCons (aTup (aCons (aC (.str "read")) (aCons (aC (.str "a")) aNil))) (aCons (aTup (aCons (aC (.str "read")) (aCons (aC (.str "b")) aNil))) (aCons (aTup (aCons (aC (.str "read")) (aCons (aC (.str "c")) aNil))) (aCons (aTup (aCons (aC (.str "op")) (aCons (aC (.str "s")) (aCons (aC (.str "add")) (aCons (aTup (aCons (aC (.str "a")) (aCons (aC (.str "b")) aNil))) aNil))))) (aCons (aTup (aCons (aC (.str "tell")) (aCons (aC (.str "s")) aNil))) aNil)))))))
    (bSeq (bSet 2 (aBin gAdd (aVar 2) (aTup (aCons (aTup (aCons (aC (.str "op")) (aCons (aC (.str "t")) (aCons (aC (.str "f")) (aCons (aTup (aCons (aC (.str "c")) aNil)) aNil))))) (aCons (aTup (aCons (aC (.str "must")) (aCons (aC (.str "q")) (aCons (aTup (aCons (aC (.str "t")) aNil)) aNil)))) (aCons (aTup (aCons (aC (.str "give")) (aCons (aC (.str "a")) aNil))) aNil))))))
    (bSeq (bAsg (aTup (aCons (aCallO 1 f_own_build (fun _ => buildT) (aCons (aBin gIx (aCallO 1 f_plain_code (fun _ => codeT) (aCons (aTup (aCons (aTup aNil) (aCons (aTup (aCons (aTup (aCons (aC (.str "main")) (aCons (aTup aNil) (aCons (aVar 2) aNil)))) aNil)) aNil))) aNil)) (aC (.int 0))) aNil)) (aCons (aCall 2 f__law_someD (aCons (aVar 1) (aCons (aLst (aCons (aC (.str "numbers")) (aCons (aC (.str "sums")) aNil))) aNil))) aNil))) (agSeq 2 (agCons (agName 3) (agCons (agName 4) agNil))))
    (bSeq (bSet 5 (aIf (aVal (aBin gEq (aVar 4) (aC (.str "numbers")))) (aTup (aCons (aC (.str "numbers")) (aCons (aCall 2 f__law_takeD (aCons (aVar 1) (aCons (aC (.int 50)) aNil))) aNil))) (aTup (aCons (aC (.str "sums")) (aCons (aTup (aCons (aTup (aCons (aC (.str "f")) (aCons (aTup (aCons (aC (.int 1)) aNil)) (aCons (aC (.int 5)) aNil)))) (aCons (aTup (aCons (aC (.str "f")) (aCons (aTup (aCons (aC (.int 2)) aNil)) (aCons (aC (.int 5)) aNil)))) aNil))) (aCons (aC (.int 8)) aNil))))))
    (bSeq (bPar 6 7 (aCons (aLc (aRng (aCons (aC (.int 3)) aNil)) (cName 26) aYes (aCall 2 f__law_takeD (aCons (aVar 1) (aCons (aC (.int 9)) aNil))) [26]) (aCons (aCall 2 f__law_someD (aCons (aVar 1) (aCons (aLst (aCons (aC (.int 0)) (aCons (aC (.int 1)) (aCons (aUn gNeg (aC (.int 4))) (aCons (aC (.int 0)) (aCons (aC (.int 2)) aNil)))))) aNil))) aNil)))
    (bSeq (bSet 8 (aLst (aCons (aBin gAdd (aBin gIx (aVar 6) (aC (.int 0))) (aVar 7)) (aCons (aBin gAdd (aBin (gII (fun _ _ => true) fun i j => i - j) (aBin gIx (aVar 6) (aC (.int 1))) (aVar 7)) (aCall 2 f__law_someD (aCons (aVar 1) (aCons (aLst (aCons (aC (.int 0)) (aCons (aC (.int 0)) (aCons (aC (.int 3)) aNil)))) aNil)))) (aCons (aBin gAdd (aBin gIx (aVar 6) (aC (.int 2))) (aCall 2 f__law_someD (aCons (aVar 1) (aCons (aLst (aCons (aC (.int 0)) (aCons (aC (.int 0)) (aCons (aC (.int 1)) aNil)))) aNil)))) aNil)))))
    (bSeq (bAsg (aTup (aCons (aTup (aCons (aVar 5) (aCons (aCB gTuple (aCons (aVar 6) aNil)) (aCons (aTup (aCons (aC (.int 1)) aNil)) aNil)))) (aCons (aTup (aCons (aVar 5) (aCons (aCB gTuple (aCons (aVar 8) aNil)) (aCons (aTup (aCons (aC (.int 1)) aNil)) aNil)))) aNil))) (agSeq 2 (agCons (agName 9) (agCons (agName 10) agNil))))
    (bSeq (bSet 11 (aCall 2 f__law_mixed (aCons (aVar 1) (aCons (aLst (aCons (aC (.str "a")) (aCons (aC (.str "b")) (aCons (aC (.str "c")) (aCons (aC (.str "s")) (aCons (aC (.str "t")) aNil)))))) aNil))))
    (bSeq (bPar3 12 13 14 (aCons (aSl (aVar 11) aNoPart (aPart (aCall 2 f__law_takeD (aCons (aVar 1) (aCons (aC (.int 3)) aNil))))) (aCons (aCall 2 f__law_takeD (aCons (aVar 1) (aCons (aC (.int 2)) aNil))) (aCons (aBin gIx (aVar 11) (aC (.int 4))) aNil))))
    (bSeq (bSet 15 (aLst aNil))
    (bSeq (bFor (aIt (aTup (aCons (aVar 6) (aCons (aVar 8) aNil)))) (agName 16)
        (bSeq (bSet 17 (aCallO 3 f__law_apply applyG (aCons (aVar 5) (aCons (aC (.str "f")) (aCons (aTup (aCons (aBin gIx (aVar 16) (aC (.int 2))) aNil)) aNil)))))
    (bDrop (aMt isLst gAppend (aVar 15) (aCons (aDisp (((aC (.str "a")), (aBin gIx (aVar 16) (aC (.int 0)))) :: (((aC (.str "b")), (aBin gIx (aVar 16) (aC (.int 1)))) :: (((aC (.str "c")), (aBin gIx (aVar 16) (aC (.int 2)))) :: (((aC (.str "s")), (aBin gAdd (aBin gIx (aVar 16) (aC (.int 0))) (aBin gIx (aVar 16) (aC (.int 1))))) :: (((aC (.str "t")), (aVar 17)) :: [])))))) aNil)))))
    (bSeq (bAsg (aTup (aCons (aTup (aCons (aCB gTuple (aCons (aLc (aIt (aVar 12)) (cName 27) aYes (aTup (aCons (aC (.str "box")) (aCons (aC (.int 0)) (aCons (aVar 27) aNil)))) [27]) aNil)) (aCons (aVar 13) (aCons (aC (.str "whole")) aNil)))) (aCons (aTup (aCons (aC (.str "name")) (aCons (aC (.int 0)) (aCons (aVar 14) aNil)))) aNil))) (agSeq 2 (agCons (agName 18) (agCons (agName 19) agNil))))
    (bSeq (bSet 20 (aBin gEq (aLc (aIt (aBin gAdd (aVar 12) (aBin gMul (aLst (aCons (aC (.str "s")) (aCons (aC (.str "t")) aNil))) (aVar 13)))) (cName 27) (aVal (aBin gNe (aBin gIx (aBin gIx (aVar 15) (aC (.int 0))) (aVar 27)) (aBin gIx (aBin gIx (aVar 15) (aC (.int 1))) (aVar 27)))) (aVar 27) [27]) (aLst aNil)))
    (bSeq (bSet 21 (aAndV (aVar 20) (aBin gNe (aBin gIx (aBin gIx (aVar 15) (aC (.int 0))) (aVar 14)) (aBin gIx (aBin gIx (aVar 15) (aC (.int 1))) (aVar 14)))))
    (bSeq (bSet 22 (aTup (aCons (aVar 5) (aCons (aBin gAdd (aCB gTuple (aCons (aVar 8) aNil)) (aTup (aCons (aC (.int 5)) aNil))) (aCons (aTup (aCons (aC (.int 1)) aNil)) aNil)))))
    (bSeq (bIf (aNot (aVal (aCall 2 v__law_alike (aCons (aLc (aIt (aTup (aCons (aTup (aCons (aVar 9) (aCons (aVar 10) aNil))) (aCons (aTup (aCons (aVar 10) (aCons (aVar 9) aNil))) (aCons (aTup (aCons (aVar 9) (aCons (aVar 22) aNil))) aNil))))) (cTup 2 (cCons (cName 28) (cCons (cName 16) cNil))) aYes (aCallO 7 (f_is_pairO w) (pairG w) (aCons (aVar 3) (aCons (aC (.int 7)) (aCons (aVar 18) (aCons (aC (.int 7)) (aCons (aVar 19) (aCons (aVar 28) (aCons (aVar 16) aNil)))))))) [28, 16]) (aCons (aBin gMul (aLst (aCons (aVar 21) aNil)) (aC (.int 3))) aNil))))) (bRet (aC (.bl false))) bNext)
    (bSeq (bSet 23 (aLst (aCons (aTup (aCons (aVar 9) (aCons (aTup (aCons (aVar 5) (aCons (aCB gTuple (aCons (aVar 8) aNil)) (aCons (aTup (aCons (aC (.int 0)) aNil)) aNil)))) aNil))) (aCons (aTup (aCons (aVar 9) (aCons (aTup (aCons (aVar 5) (aCons (aCB gTuple (aCons (aSl (aVar 8) aNoPart (aPart (aC (.int 2)))) aNil)) (aCons (aTup (aCons (aC (.int 1)) aNil)) aNil)))) aNil))) (aCons (aTup (aCons (aTup (aCons (aVar 5) (aCons (aCB gTuple (aCons (aVar 6) aNil)) (aCons (aTup aNil) aNil)))) (aCons (aVar 10) aNil))) (aCons (aTup (aCons (aVar 9) (aCons (aC .non) aNil))) aNil))))))
    (bSeq (bDrop (aMt isLst gExtend (aVar 23) (aCons (aLst (aCons (aTup (aCons (aVar 9) (aCons (aTup (aCons (aTup (aCons (aC (.str "numbers")) (aCons (aC (.int 99)) aNil))) (aCons (aCB gTuple (aCons (aVar 8) aNil)) (aCons (aTup (aCons (aC (.int 1)) aNil)) aNil)))) aNil))) (aCons (aTup (aCons (aCB gList (aCons (aVar 9) aNil)) (aCons (aVar 10) aNil))) (aCons (aTup (aCons (aVar 9) (aCons (aBin gAdd (aVar 10) (aTup (aCons (aC (.int 1)) aNil))) aNil))) (aCons (aTup (aCons (aVar 9) (aCons (aTup (aCons (aTup (aCons (aC (.str "table")) (aCons (aTup aNil) (aCons (aC (.int 0)) aNil)))) (aCons (aCB gTuple (aCons (aVar 8) aNil)) (aCons (aTup (aCons (aC (.int 1)) aNil)) aNil)))) aNil))) aNil))))) aNil)))
    (bSeq (bIf (aVal (aBin gNe (aLc (aIt (aVar 23)) (cName 29) (aVal (aBin gIsNot (aCallK 7 (f_is_pairO w) (.bl false) (aCons (aVar 3) (aCons (aC (.int 7)) (aCons (aVar 18) (aCons (aC (.int 7)) (aCons (aVar 19) (aCons (aBin gIx (aVar 29) (aC (.int 0))) (aCons (aBin gIx (aVar 29) (aC (.int 1))) aNil)))))))) (aC (.bl false)))) (aVar 29) [29]) (aLst aNil))) (bRet (aC (.bl false))) bNext)
    (bSeq (bIf (aVal (aBin gIsNot (aCallK 7 (f_is_pairO w) (.bl false) (aCons (aVar 3) (aCons (aC (.int 9)) (aCons (aVar 18) (aCons (aC (.int 7)) (aCons (aVar 19) (aCons (aVar 9) (aCons (aVar 10) aNil)))))))) (aC (.bl false)))) (bRet (aC (.bl false))) bNext)
    (bSeq (bIf (aOr (aVal (aBin gIsNot (aCallK 7 (f_is_pairO w) (.bl false) (aCons (aVar 3) (aCons (aC (.int 7)) (aCons (aVar 18) (aCons (aUn gNeg (aC (.int 1))) (aCons (aVar 19) (aCons (aVar 9) (aCons (aVar 10) aNil)))))))) (aC (.bl false)))) (aVal (aBin gIsNot (aCallK 7 (f_is_pairO w) (.bl false) (aCons (aVar 3) (aCons (aC (.bl true)) (aCons (aVar 18) (aCons (aC (.int 7)) (aCons (aVar 19) (aCons (aVar 9) (aCons (aVar 10) aNil)))))))) (aC (.bl false))))) (bRet (aC (.bl false))) bNext)
    (bSeq (bSet 24 (aLst (aCons (aTup (aCons (aC (.int 20001)) (aCons (aC (.int 7)) aNil))) (aCons (aTup (aCons (aC (.int 7)) (aCons (aC (.int 20001)) aNil))) (aCons (aTup (aCons (aC (.int 20000)) (aCons (aC (.int 7)) aNil))) (aCons (aTup (aCons (aUn gNeg (aC (.int 1))) (aCons (aC (.int 20001)) aNil))) (aCons (aTup (aCons (aC (.int 7)) (aCons (aUn gNeg (aC (.int 1))) aNil))) aNil)))))))
    (bSeq (bSet 25 (aLc (aIt (aVar 24)) (cTup 2 (cCons (cName 30) (cCons (cName 31) cNil))) aYes (aAsk T qLam 0 (aCallR 7 (f_is_pair w) (aCons (aVar 3) (aCons (aVar 30) (aCons (aVar 18) (aCons (aVar 31) (aCons (aVar 19) (aCons (aC .non) (aCons (aC .non) aNil))))))))) [30, 31]))
    (bSeq (bIf (aVal (aBin gNe (aVar 25) (aLst (aCons (aTup (aCons (aC (.str "moments")) (aCons (aC (.int 20000)) aNil))) (aCons (aTup (aCons (aC (.str "moments")) (aCons (aC (.int 20000)) aNil))) (aCons (aC (.bl false)) (aCons (aC (.bl false)) (aCons (aC (.bl false)) aNil)))))))) (bRet (aC (.bl false))) bNext)
    (bRet (aBin gEq (aAsk T qLam 0 (aCallOX 7 (f_is_pair w) zzE (aCons (aVar 3) (aCons (aC (.int 7)) (aCons (aTup (aCons (aTup (aCons (aTup (aCons (aC (.str "box")) (aCons (aC (.int 0)) (aCons (aC (.str "zz")) aNil)))) aNil)) (aCons (aC (.int 0)) (aCons (aC (.str "whole")) aNil)))) (aCons (aC (.int 7)) (aCons (aVar 19) (aCons (aVar 9) (aCons (aVar 10) aNil))))))))) (aC (.str "unset")))))))))))))))))))))))))))))
def f_law (w : PySem.World) (T : Addr) : List AV → M AV := runB 32 (r_law w T)
theorem b_law {c T : Addr} (TB : LamX.TabB base mg c T) (h : Hd K mg) {fd : FuncData} (hcd : fd.code = .ref c) (A : Around) (outer : List Env) (s : Shared) (H : Hp) (E : XK) (hgd : (A.deeper (envOfC "law" (defScope s_law) s.heap.objs.size (He.ga K "law") fd.code)).guards = some []) (hr : Room 12 (A.deeper (envOfC "law" (defScope s_law) s.heap.objs.size (He.ga K "law") fd.code)))
    (tk : TkE (cxOf (L2N.CX P w) P w K mg base n_law "law" (defScope s_law) (He.ga K "law") fd.code A outer s H E) E) : PSs (cxOf (L2N.CX P w) P w K mg base n_law "law" (defScope s_law) (He.ga K "law") fd.code A outer s H E) (defBody s_law) (SS K E (r_law w T)) := by
  have hcode : (envOfC "law" (defScope s_law) s.heap.objs.size (He.ga K "law") fd.code).code = .ref c := hcd
  exact (b_cons (s_set (i := 1) sc_law.nd rfl (by first | exact Or.inl rfl | exact Or.inr rfl) (a_call (c__law_bag hp h) hr tk (by decide) (by rfl) (l_cons (a_var 0) l_nil)))
      (b_cons (s_set (i := 2) sc_law.nd rfl (by first | exact Or.inl rfl | exact Or.inr rfl) (a_tup (l_cons (a_tup (l_cons a_str (l_cons a_str l_nil))) (l_cons (a_tup (l_cons a_str (l_cons a_str l_nil))) (l_cons (a_tup (l_cons a_str (l_cons a_str l_nil))) (l_cons (a_tup (l_cons a_str (l_cons a_str (l_cons a_str (l_cons (a_tup (l_cons a_str (l_cons a_str l_nil))) l_nil))))) (l_cons (a_tup (l_cons a_str (l_cons a_str l_nil))) l_nil)))))))
      (b_cons (s_set (i := 2) sc_law.nd rfl (by first | exact Or.inl rfl | exact Or.inr rfl) (a_op o_add r_add (a_var 2) (a_tup (l_cons (a_tup (l_cons a_str (l_cons a_str (l_cons a_str (l_cons (a_tup (l_cons a_str l_nil)) l_nil))))) (l_cons (a_tup (l_cons a_str (l_cons a_str (l_cons (a_tup (l_cons a_str l_nil)) l_nil)))) (l_cons (a_tup (l_cons a_str (l_cons a_str l_nil))) l_nil))))))
      (b_cons (s_asg (a_tup (l_cons (a_imp (a_callR (c_own_build hp h) hr tk (by decide) (by rfl) (l_cons (a_ix (hu_of hr) (a_imp (a_callR (c_plain_code hp h) hr tk (by decide) (by rfl) (l_cons (a_tup (l_cons (a_tup l_nil) (l_cons (a_tup (l_cons (a_tup (l_cons a_str (l_cons (a_tup l_nil) (l_cons (a_var 2) l_nil)))) l_nil)) l_nil))) l_nil)) le_callO) a_int) l_nil)) le_callO) (l_cons (a_call (c__law_someD hp h) hr tk (by decide) (by rfl) (l_cons (a_var 1) (l_cons (a_lst (l_cons a_str (l_cons a_str l_nil))) l_nil))) l_nil))) (g_seq (by rfl) (gs_cons (g_name (i := 3) sc_law.nd rfl (by first | exact Or.inl rfl | exact Or.inr rfl)) (gs_cons (g_name (i := 4) sc_law.nd rfl (by first | exact Or.inl rfl | exact Or.inr rfl)) gs_nil))))
      (b_cons (s_set (i := 5) sc_law.nd rfl (by first | exact Or.inl rfl | exact Or.inr rfl) (a_if (t_cmp (o_eq hr.units) r_eq (a_var 4) a_str (nomark _)) (a_tup (l_cons a_str (l_cons (a_call (c__law_takeD hp h) hr tk (by decide) (by rfl) (l_cons (a_var 1) (l_cons a_int l_nil))) l_nil))) (a_tup (l_cons a_str (l_cons (a_tup (l_cons (a_tup (l_cons a_str (l_cons (a_tup (l_cons a_int l_nil)) (l_cons a_int l_nil)))) (l_cons (a_tup (l_cons a_str (l_cons (a_tup (l_cons a_int l_nil)) (l_cons a_int l_nil)))) l_nil))) (l_cons a_int l_nil))))))
      (b_cons (s_par (by rfl) sc_law.nd rfl rfl (by decide) rfl rfl (l_cons (a_lc (by rfl) sc_law.nd (i_rng (by rfl) h.b_range (l_cons a_int l_nil)) (blkOk_by (N := n_law) (sc := defScope s_law) (own := [("k", 26)]) (by decide +kernel)) (tg_name 26 (by decide)) (fun _ _ _ _ _ => (pg_name (i := 26) sc_law.nd rfl (by first | exact Or.inl rfl | exact Or.inr rfl))) (fun _ _ _ _ _ => ts_nil) (fun _ _ _ _ _ => (a_call (c__law_takeD hp h) hr tkF (by decide) (by rfl) (l_cons (a_var 1) (l_cons a_int l_nil))))) (l_cons (a_call (c__law_someD hp h) hr tk (by decide) (by rfl) (l_cons (a_var 1) (l_cons (a_lst (l_cons a_int (l_cons a_int (l_cons (a_un un_neg r_neg a_int) (l_cons a_int (l_cons a_int l_nil)))))) l_nil))) l_nil)) (by rfl))
      (b_cons (s_set (i := 8) sc_law.nd rfl (by first | exact Or.inl rfl | exact Or.inr rfl) (a_lst (l_cons (a_op o_add r_add (a_ix (hu_of hr) (a_var 6) a_int) (a_var 7)) (l_cons (a_op o_add r_add (a_op op_sub r_II0 (a_ix (hu_of hr) (a_var 6) a_int) (a_var 7)) (a_call (c__law_someD hp h) hr tk (by decide) (by rfl) (l_cons (a_var 1) (l_cons (a_lst (l_cons a_int (l_cons a_int (l_cons a_int l_nil)))) l_nil)))) (l_cons (a_op o_add r_add (a_ix (hu_of hr) (a_var 6) a_int) (a_call (c__law_someD hp h) hr tk (by decide) (by rfl) (l_cons (a_var 1) (l_cons (a_lst (l_cons a_int (l_cons a_int (l_cons a_int l_nil)))) l_nil)))) l_nil)))))
      (b_cons (s_asg (a_tup (l_cons (a_tup (l_cons (a_var 5) (l_cons (a_cb r_tuple (pe_callTy c_tuple (by rfl) h.b_tuple (by decide +kernel) (l_cons (a_var 6) l_nil))) (l_cons (a_tup (l_cons a_int l_nil)) l_nil)))) (l_cons (a_tup (l_cons (a_var 5) (l_cons (a_cb r_tuple (pe_callTy c_tuple (by rfl) h.b_tuple (by decide +kernel) (l_cons (a_var 8) l_nil))) (l_cons (a_tup (l_cons a_int l_nil)) l_nil)))) l_nil))) (g_seq (by rfl) (gs_cons (g_name (i := 9) sc_law.nd rfl (by first | exact Or.inl rfl | exact Or.inr rfl)) (gs_cons (g_name (i := 10) sc_law.nd rfl (by first | exact Or.inl rfl | exact Or.inr rfl)) gs_nil))))
      (b_cons (s_set (i := 11) sc_law.nd rfl (by first | exact Or.inl rfl | exact Or.inr rfl) (a_call (c__law_mixed hp h) hr tk (by decide) (by rfl) (l_cons (a_var 1) (l_cons (a_lst (l_cons a_str (l_cons a_str (l_cons a_str (l_cons a_str (l_cons a_str l_nil)))))) l_nil))))
      (b_cons (s_par3 (by rfl) sc_law.nd rfl rfl rfl (by decide) (by decide) (by decide) rfl rfl rfl (l_cons (a_sl (a_var 11) q_none (q_some (a_call (c__law_takeD hp h) hr tk (by decide) (by rfl) (l_cons (a_var 1) (l_cons a_int l_nil))))) (l_cons (a_call (c__law_takeD hp h) hr tk (by decide) (by rfl) (l_cons (a_var 1) (l_cons a_int l_nil))) (l_cons (a_ix (hu_of hr) (a_var 11) a_int) l_nil))) (by rfl))
      (b_cons (s_set (i := 15) sc_law.nd rfl (by first | exact Or.inl rfl | exact Or.inr rfl) (a_lst l_nil))
      (b_cons (s_for PassesOwn.leaving (by rfl) (i_seq (a_tup (l_cons (a_var 6) (l_cons (a_var 8) l_nil)))) (g_name (i := 16) sc_law.nd rfl (by first | exact Or.inl rfl | exact Or.inr rfl))
        (b_cons (s_set (i := 17) sc_law.nd rfl (by first | exact Or.inl rfl | exact Or.inr rfl) (a_imp (a_callR (c__law_apply hp h) hr tk (by decide) (by rfl) (l_cons (a_var 5) (l_cons a_str (l_cons (a_tup (l_cons (a_ix (hu_of hr) (a_var 16) a_int) l_nil)) l_nil)))) le_callO))
      (b_one (s_expr (a_mt p_lst r_append (pe_bm PySem.F.plainAttrs_list PySem.F.slot_list_append PySem.F.type_list_append mt_append (a_var 15) (l_cons (a_disp (pe_pps a_str (a_ix (hu_of hr) (a_var 16) a_int) (pe_pps a_str (a_ix (hu_of hr) (a_var 16) a_int) (pe_pps a_str (a_ix (hu_of hr) (a_var 16) a_int) (pe_pps a_str (a_op o_add r_add (a_ix (hu_of hr) (a_var 16) a_int) (a_ix (hu_of hr) (a_var 16) a_int)) (pe_pps a_str (a_var 17) pps_nil)))))) l_nil)))))))
      (b_cons (s_asg (a_tup (l_cons (a_tup (l_cons (a_cb r_tuple (pe_callTy c_tuple (by rfl) h.b_tuple (by decide +kernel) (l_cons (a_lc (by rfl) sc_law.nd (i_seq (a_var 12)) (blkOk_by (N := n_law) (sc := defScope s_law) (own := [("box", 27)]) (by decide +kernel)) (tg_name 27 (by decide)) (fun _ _ _ _ _ => (pg_name (i := 27) sc_law.nd rfl (by first | exact Or.inl rfl | exact Or.inr rfl))) (fun _ _ _ _ _ => ts_nil) (fun _ _ _ _ _ => (a_tup (l_cons a_str (l_cons a_int (l_cons (a_var 27) l_nil)))))) l_nil))) (l_cons (a_var 13) (l_cons a_str l_nil)))) (l_cons (a_tup (l_cons a_str (l_cons a_int (l_cons (a_var 14) l_nil)))) l_nil))) (g_seq (by rfl) (gs_cons (g_name (i := 18) sc_law.nd rfl (by first | exact Or.inl rfl | exact Or.inr rfl)) (gs_cons (g_name (i := 19) sc_law.nd rfl (by first | exact Or.inl rfl | exact Or.inr rfl)) gs_nil))))
      (b_cons (s_set (i := 20) sc_law.nd rfl (by first | exact Or.inl rfl | exact Or.inr rfl) (a_cmp (o_eq hr.units) r_eq (a_lc (by rfl) sc_law.nd (i_seq (a_op o_add r_add (a_var 12) (a_op o_mul r_mul (a_lst (l_cons a_str (l_cons a_str l_nil))) (a_var 13)))) (blkOk_by (N := n_law) (sc := defScope s_law) (own := [("box", 27)]) (by decide +kernel)) (tg_name 27 (by decide)) (fun _ _ _ _ _ => (pg_name (i := 27) sc_law.nd rfl (by first | exact Or.inl rfl | exact Or.inr rfl))) (fun _ _ _ _ _ => (ts_one (t_cmp (o_ne hr.units) r_ne (a_ix (hu_of hr) (a_ix (hu_of hr) (a_var 15) a_int) (a_var 27)) (a_ix (hu_of hr) (a_ix (hu_of hr) (a_var 15) a_int) (a_var 27)) (nomark _)))) (fun _ _ _ _ _ => (a_var 27))) (a_lst l_nil) (nomark _)))
      (b_cons (s_set (i := 21) sc_law.nd rfl (by first | exact Or.inl rfl | exact Or.inr rfl) (a_and (a_var 20) (a_one (a_cmp (o_ne hr.units) r_ne (a_ix (hu_of hr) (a_ix (hu_of hr) (a_var 15) a_int) (a_var 14)) (a_ix (hu_of hr) (a_ix (hu_of hr) (a_var 15) a_int) (a_var 14)) (nomark _)))))
      (b_cons (s_set (i := 22) sc_law.nd rfl (by first | exact Or.inl rfl | exact Or.inr rfl) (a_tup (l_cons (a_var 5) (l_cons (a_op o_add r_add (a_cb r_tuple (pe_callTy c_tuple (by rfl) h.b_tuple (by decide +kernel) (l_cons (a_var 8) l_nil))) (a_tup (l_cons a_int l_nil))) (l_cons (a_tup (l_cons a_int l_nil)) l_nil)))))
      (b_cons (s_if (t_not (t_val (a_imp (a_callG (c__law_alike hp h) hgd hr tk (by decide) (by rfl) (l_cons (a_lc (by rfl) sc_law.nd (i_seq (a_tup (l_cons (a_tup (l_cons (a_var 9) (l_cons (a_var 10) l_nil))) (l_cons (a_tup (l_cons (a_var 10) (l_cons (a_var 9) l_nil))) (l_cons (a_tup (l_cons (a_var 9) (l_cons (a_var 22) l_nil))) l_nil))))) (blkOk_by (N := n_law) (sc := defScope s_law) (own := [("mine", 28), ("its", 16)]) (by decide +kernel)) (tg_tup (tgs_cons (tg_name 28 (by decide)) (tgs_cons (tg_name 16 (by decide)) tgs_nil))) (fun _ _ _ _ _ => (pg_tup (by rfl) (pgs_cons (pg_name (i := 28) sc_law.nd rfl (by first | exact Or.inl rfl | exact Or.inr rfl)) (pgs_cons (pg_name (i := 16) sc_law.nd rfl (by first | exact Or.inl rfl | exact Or.inr rfl)) pgs_nil)))) (fun _ _ _ _ _ => ts_nil) (fun _ _ _ _ _ => (a_imp (a_callE (c_is_pairO hp h) hr tkF (by decide) (by rfl) (l_cons (a_var 3) (l_cons a_int (l_cons (a_var 18) (l_cons a_int (l_cons (a_var 19) (l_cons (a_var 28) (l_cons (a_var 16) l_nil)))))))) le_callOE))) (l_cons (a_op o_mul r_mul (a_lst (l_cons (a_var 21) l_nil)) a_int) l_nil))) (le_call le_alike)))) (b_one (s_ret a_bl)) b_nil)
      (b_cons (s_set (i := 23) sc_law.nd rfl (by first | exact Or.inl rfl | exact Or.inr rfl) (a_lst (l_cons (a_tup (l_cons (a_var 9) (l_cons (a_tup (l_cons (a_var 5) (l_cons (a_cb r_tuple (pe_callTy c_tuple (by rfl) h.b_tuple (by decide +kernel) (l_cons (a_var 8) l_nil))) (l_cons (a_tup (l_cons a_int l_nil)) l_nil)))) l_nil))) (l_cons (a_tup (l_cons (a_var 9) (l_cons (a_tup (l_cons (a_var 5) (l_cons (a_cb r_tuple (pe_callTy c_tuple (by rfl) h.b_tuple (by decide +kernel) (l_cons (a_sl (a_var 8) q_none (q_some a_int)) l_nil))) (l_cons (a_tup (l_cons a_int l_nil)) l_nil)))) l_nil))) (l_cons (a_tup (l_cons (a_tup (l_cons (a_var 5) (l_cons (a_cb r_tuple (pe_callTy c_tuple (by rfl) h.b_tuple (by decide +kernel) (l_cons (a_var 6) l_nil))) (l_cons (a_tup l_nil) l_nil)))) (l_cons (a_var 10) l_nil))) (l_cons (a_tup (l_cons (a_var 9) (l_cons a_non l_nil))) l_nil))))))
      (b_cons (s_expr (a_mt p_lst r_extend (pe_bm PySem.F.plainAttrs_list PySem.F.slot_list_extend PySem.F.type_list_extend mt_extend (a_var 23) (l_cons (a_lst (l_cons (a_tup (l_cons (a_var 9) (l_cons (a_tup (l_cons (a_tup (l_cons a_str (l_cons a_int l_nil))) (l_cons (a_cb r_tuple (pe_callTy c_tuple (by rfl) h.b_tuple (by decide +kernel) (l_cons (a_var 8) l_nil))) (l_cons (a_tup (l_cons a_int l_nil)) l_nil)))) l_nil))) (l_cons (a_tup (l_cons (a_cb r_list (pe_callTy c_list (by rfl) h.b_list (by decide +kernel) (l_cons (a_var 9) l_nil))) (l_cons (a_var 10) l_nil))) (l_cons (a_tup (l_cons (a_var 9) (l_cons (a_op o_add r_add (a_var 10) (a_tup (l_cons a_int l_nil))) l_nil))) (l_cons (a_tup (l_cons (a_var 9) (l_cons (a_tup (l_cons (a_tup (l_cons a_str (l_cons (a_tup l_nil) (l_cons a_int l_nil)))) (l_cons (a_cb r_tuple (pe_callTy c_tuple (by rfl) h.b_tuple (by decide +kernel) (l_cons (a_var 8) l_nil))) (l_cons (a_tup (l_cons a_int l_nil)) l_nil)))) l_nil))) l_nil))))) l_nil))))
      (b_cons (s_if (t_cmp (o_ne hr.units) r_ne (a_lc (by rfl) sc_law.nd (i_seq (a_var 23)) (blkOk_by (N := n_law) (sc := defScope s_law) (own := [("couple", 29)]) (by decide +kernel)) (tg_name 29 (by decide)) (fun _ _ _ _ _ => (pg_name (i := 29) sc_law.nd rfl (by first | exact Or.inl rfl | exact Or.inr rfl))) (fun _ _ _ _ _ => (ts_one (t_cmp o_isnot r_isnot (a_imp (a_callE (c_is_pairO hp h) hr tkF (by decide) (by rfl) (l_cons (a_var 3) (l_cons a_int (l_cons (a_var 18) (l_cons a_int (l_cons (a_var 19) (l_cons (a_ix (hu_of hr) (a_var 29) a_int) (l_cons (a_ix (hu_of hr) (a_var 29) a_int) l_nil)))))))) le_callK) a_bl (nomark _)))) (fun _ _ _ _ _ => (a_var 29))) (a_lst l_nil) (nomark _)) (b_one (s_ret a_bl)) b_nil)
      (b_cons (s_if (t_cmp o_isnot r_isnot (a_imp (a_callE (c_is_pairO hp h) hr tk (by decide) (by rfl) (l_cons (a_var 3) (l_cons a_int (l_cons (a_var 18) (l_cons a_int (l_cons (a_var 19) (l_cons (a_var 9) (l_cons (a_var 10) l_nil)))))))) le_callK) a_bl (nomark _)) (b_one (s_ret a_bl)) b_nil)
      (b_cons (s_if (PW.pt (w_or (t_cmp o_isnot r_isnot (a_imp (a_callE (c_is_pairO hp h) hr tk (by decide) (by rfl) (l_cons (a_var 3) (l_cons a_int (l_cons (a_var 18) (l_cons (a_un un_neg r_neg a_int) (l_cons (a_var 19) (l_cons (a_var 9) (l_cons (a_var 10) l_nil)))))))) le_callK) a_bl (nomark _)) (w_or1 (t_cmp o_isnot r_isnot (a_imp (a_callE (c_is_pairO hp h) hr tk (by decide) (by rfl) (l_cons (a_var 3) (l_cons a_bl (l_cons (a_var 18) (l_cons a_int (l_cons (a_var 19) (l_cons (a_var 9) (l_cons (a_var 10) l_nil)))))))) le_callK) a_bl (nomark _))))) (b_one (s_ret a_bl)) b_nil)
      (b_cons (s_set (i := 24) sc_law.nd rfl (by first | exact Or.inl rfl | exact Or.inr rfl) (a_lst (l_cons (a_tup (l_cons a_int (l_cons a_int l_nil))) (l_cons (a_tup (l_cons a_int (l_cons a_int l_nil))) (l_cons (a_tup (l_cons a_int (l_cons a_int l_nil))) (l_cons (a_tup (l_cons (a_un un_neg r_neg a_int) (l_cons a_int l_nil))) (l_cons (a_tup (l_cons a_int (l_cons (a_un un_neg r_neg a_int) l_nil))) l_nil)))))))
      (b_cons (s_setLc (i := 25) (by rfl) sc_law.nd rfl rfl (by first | exact sw_true rfl rfl rfl (by decide +kernel) | rfl) (i_seq (a_var 24)) (blkOk_by (N := n_law) (sc := defScope s_law) (own := [("m", 30), ("j", 31)]) (by decide +kernel)) (tg_tup (tgs_cons (tg_name 30 (by decide)) (tgs_cons (tg_name 31 (by decide)) tgs_nil))) (fun _ _ _ _ _ => (pg_tup (by rfl) (pgs_cons (pg_name (i := 30) sc_law.nd rfl (by first | exact Or.inl rfl | exact Or.inr rfl)) (pgs_cons (pg_name (i := 31) sc_law.nd rfl (by first | exact Or.inl rfl | exact Or.inr rfl)) pgs_nil)))) (fun _ _ _ _ _ => ts_nil) (fun _ _ _ _ _ => (a_ask (j := 0) (k := 10) h.f__law_asked (fun _ _ _ _ _ _ us hl => match us, hl with | [_], _ => rfl) sc__law_asked askB (ask_x hp h) (by rfl) (by rfl) (by rfl) (by rfl) h.g_TooLarge h.g_BadSight (by rfl) h.g__law_asked TB hcode (by rfl) (hr.mono (by decide)) (LamX.lamS_by (by rfl)) (by rfl) (fun _ _ _ _ _ => rfl) (fun _ _ _ _ _ _ _ hr tk => (a_callR (c_is_pair hp h) hr tk (by decide) (by rfl) (l_cons (a_var 3) (l_cons (a_var 30) (l_cons (a_var 18) (l_cons (a_var 31) (l_cons (a_var 19) (l_cons a_non (l_cons a_non l_nil))))))))))))
      (b_cons (s_if (t_cmp (o_ne hr.units) r_ne (a_var 25) (a_lst (l_cons (a_tup (l_cons a_str (l_cons a_int l_nil))) (l_cons (a_tup (l_cons a_str (l_cons a_int l_nil))) (l_cons a_bl (l_cons a_bl (l_cons a_bl l_nil)))))) (nomark _)) (b_one (s_ret a_bl)) b_nil)
      (b_one (s_ret (a_cmp (o_eq hr.units) r_eq (a_ask (j := 0) (k := 10) h.f__law_asked (fun _ _ _ _ _ _ us hl => match us, hl with | [_], _ => rfl) sc__law_asked askB (ask_x hp h) (by rfl) (by rfl) (by rfl) (by rfl) h.g_TooLarge h.g_BadSight (by rfl) h.g__law_asked TB hcode (by rfl) (hr.mono (by decide)) (LamX.lamS_by (by rfl)) (by rfl) (fun _ _ _ _ _ => rfl) (fun _ _ _ _ _ _ _ hr tk => (a_imp (a_callR (c_is_pair hp h) hr tk (by decide) (by rfl) (l_cons (a_var 3) (l_cons a_int (l_cons (a_tup (l_cons (a_tup (l_cons (a_tup (l_cons a_str (l_cons a_int (l_cons a_str l_nil)))) l_nil)) (l_cons a_int (l_cons a_str l_nil)))) (l_cons a_int (l_cons (a_var 19) (l_cons (a_var 9) (l_cons (a_var 10) l_nil)))))))) le_callOX))) a_str (nomark _)))))))))))))))))))))))))))))
end K95

set_option Elab.async false
set_option linter.all false
set_option maxRecDepth 100000
set_option maxHeartbeats 0
/-! K95P: the runs of is_pair (printed by genp.py). -/
namespace K95
open PySem PySem.Spec PyProof.Rows L2 AX
def sightV (S : List AV) (d : Int) : AV := .tup [.tup S, .int d, tx "whole"]
def numM (n : Int) : AV := .tup [tx "numbers", .int n]
def sumM : AV := .tup [tx "sums", .tup [.tup [tx "f", .tup [.int 1], .int 5], .tup [tx "f", .tup [.int 2], .int 5]], .int 8]
def tabM : AV := .tup [tx "table", .tup [], .int 0]
def wld (m : AV) (rs : List AV) (as : List AV) : AV := .tup [m, .tup rs, .tup as]
def mom (row a b c s t : Int) : AV := .tup [.tup [.tup [tx "main", .int row, .tud [.tup [tx "a", .int a], .tup [tx "b", .int b], .tup [tx "c", .int c], .tup [tx "s", .int s], .tup [tx "t", .int t]]]], .tud [], .tup [], .int 5, .int 7, .int 7]
def evs (a b c s t q : Int) : AV := .tup [.tup [tx "read", .int a], .tup [tx "read", .int b], .tup [tx "read", .int c], .tup [tx "tell", .int s], .tup [tx "ask", tx "q", .tup [.int t], .int q]]
def OPr (n : Nat) (g : List AV → M AV) (gv : List AV → AV) (xs : List AV) : Prop := (AV.purs xs = true ∧ xs.length = n) ∧ (gv xs).pur = true ∧ Gives g xs (gv xs)
def mixT (n c : Int) : Int := (37 * ((31 * (n % 1000003) + 15 + 1) % 1000003) + c + 1) % 1000003 - 500000
def sumT (c : Int) : Int := lookN [.tup [.text "f", .tup [.num 1]], .tup [.text "f", .tup [.num 2]]] [5, 5] (.tup [.text "f", .tup [.num c]]) 8
def seenV (row a b c s t q : Int) (si : AV) : AV := valG f_seen_worths [mom row a b c s t, evs a b c s t q, si]
def thV (row a b c s t : Int) (nm : AV) : AV := valG f_thing_worth [mom row a b c s t, nm]
def obS (row a b c s t q : Int) (si nm : AV) : List Prop := [OPr 2 f_checked_sight sightG [mom row a b c s t, si], OPr 3 f_seen_worths (valG f_seen_worths) [mom row a b c s t, evs a b c s t q, si], OPr 2 f_thing_worth (valG f_thing_worth) [mom row a b c s t, nm]]
def ends {α : Type} (m : M α) : Option (List Prop × Except AExc α) := match m [] with
  | some (l, _, r) => some (l, r)
  | none => none
def Eq2 (x y : AV) : Prop := ∀ A, eqX A x y = some (eqV x y)

theorem p_n33 (w : PySem.World) (n n' a b c a' b' c' d : Int) (S : List AV) (nm : AV) : ends (f_is_pairO w [buildT, .int 7, sightV S d, .int (7), nm, (wld (numM n) [.int a, .int b, .int c] [.int 1]), (wld (numM n') [.int a', .int b', .int c'] [.int 1])]) = some ([Sm a, Sm b, Sm c, Sm n, Sm a', Sm b', Sm c', Sm n', Sm 0, Sm (a + b), Sm (a + b), Sm (mixT n c), Sm (mixT n c), Sm 0, Sm (a + b), Sm (a + b), Sm (mixT n c), Sm (mixT n c), Sm 0, Sm (a' + b'), Sm (a' + b'), Sm (mixT n' c'), Sm (mixT n' c'), Sm 0, Sm (a' + b'), Sm (a' + b'), Sm (mixT n' c'), Sm (mixT n' c')] ++ obS 7 a b c (a + b) (mixT n c) 1 (sightV S d) nm ++ obS 7 a' b' c' (a' + b') (mixT n' c') 1 (sightV S d) nm ++ [Eq2 (seenV 7 a b c (a + b) (mixT n c) 1 (sightV S d)) (seenV 7 a' b' c' (a' + b') (mixT n' c') 1 (sightV S d)), Eq2 (thV 7 a b c (a + b) (mixT n c) nm) (thV 7 a' b' c' (a' + b') (mixT n' c') nm)], .ok (.bl (!((!eqV (numM n) (numM n')) || (false || !eqV (.tup [.int 1]) (.tup [.int 1]))) && (eqV (seenV 7 a b c (a + b) (mixT n c) 1 (sightV S d)) (seenV 7 a' b' c' (a' + b') (mixT n' c') 1 (sightV S d)) && !eqV (thV 7 a b c (a + b) (mixT n c) nm) (thV 7 a' b' c' (a' + b') (mixT n' c') nm))))) := by kernel_rfl
theorem p_n34 (w : PySem.World) (n n' a b c a' b' c' d : Int) (S : List AV) (nm : AV) : ends (f_is_pairO w [buildT, .int 7, sightV S d, .int (7), nm, (wld (numM n) [.int a, .int b, .int c] [.int 1]), (wld (numM n') [.int a', .int b', .int c', .int 5] [.int 1])]) = some ([Sm a, Sm b, Sm c, Sm n, Sm a', Sm b', Sm c', Sm 5, Sm n', Sm 0, Sm (a + b), Sm (a + b), Sm (mixT n c), Sm (mixT n c), Sm 0, Sm (a + b), Sm (a + b), Sm (mixT n c), Sm (mixT n c), Sm 0, Sm (a' + b'), Sm (a' + b'), Sm (mixT n' c'), Sm (mixT n' c'), Sm 0, Sm (a' + b'), Sm (a' + b'), Sm (mixT n' c'), Sm (mixT n' c')] ++ obS 7 a b c (a + b) (mixT n c) 1 (sightV S d) nm ++ obS 7 a' b' c' (a' + b') (mixT n' c') 1 (sightV S d) nm ++ [Eq2 (seenV 7 a b c (a + b) (mixT n c) 1 (sightV S d)) (seenV 7 a' b' c' (a' + b') (mixT n' c') 1 (sightV S d)), Eq2 (thV 7 a b c (a + b) (mixT n c) nm) (thV 7 a' b' c' (a' + b') (mixT n' c') nm)], .ok (.bl (!((!eqV (numM n) (numM n')) || (false || !eqV (.tup [.int 1]) (.tup [.int 1]))) && (eqV (seenV 7 a b c (a + b) (mixT n c) 1 (sightV S d)) (seenV 7 a' b' c' (a' + b') (mixT n' c') 1 (sightV S d)) && !eqV (thV 7 a b c (a + b) (mixT n c) nm) (thV 7 a' b' c' (a' + b') (mixT n' c') nm))))) := by kernel_rfl
theorem p_n0 (w : PySem.World) (n n' a b c a' b' c' d : Int) (S : List AV) (nm : AV) : ends (f_is_pairO w [buildT, .int 7, sightV S d, .int (7), nm, (wld (numM n) [.int a, .int b, .int c] [.int 1]), (wld (numM n') [.int a', .int b', .int c'] [.int 0])]) = some ([Sm a, Sm b, Sm c, Sm n, Sm a', Sm b', Sm c', Sm n', Sm 0, Sm (a + b), Sm (a + b), Sm (mixT n c), Sm (mixT n c), Sm 0, Sm (a + b), Sm (a + b), Sm (mixT n c), Sm (mixT n c), Sm 0, Sm (a' + b'), Sm (a' + b'), Sm (mixT n' c'), Sm (mixT n' c'), Sm 0, Sm (a' + b'), Sm (a' + b'), Sm (mixT n' c'), Sm (mixT n' c')] ++ obS 7 a b c (a + b) (mixT n c) 1 (sightV S d) nm ++ obS 6 a' b' c' (a' + b') (mixT n' c') 0 (sightV S d) nm ++ [Eq2 (seenV 7 a b c (a + b) (mixT n c) 1 (sightV S d)) (seenV 6 a' b' c' (a' + b') (mixT n' c') 0 (sightV S d)), Eq2 (thV 7 a b c (a + b) (mixT n c) nm) (thV 6 a' b' c' (a' + b') (mixT n' c') nm)], .ok (.bl (!((!eqV (numM n) (numM n')) || (false || !eqV (.tup [.int 1]) (.tup [.int 0]))) && (eqV (seenV 7 a b c (a + b) (mixT n c) 1 (sightV S d)) (seenV 6 a' b' c' (a' + b') (mixT n' c') 0 (sightV S d)) && !eqV (thV 7 a b c (a + b) (mixT n c) nm) (thV 6 a' b' c' (a' + b') (mixT n' c') nm))))) := by kernel_rfl
theorem p_nt (w : PySem.World) (n n' a b c a' b' c' d : Int) (S : List AV) (nm : AV) : ends (f_is_pairO w [buildT, .int 7, sightV S d, .int (7), nm, (wld (numM n) [.int a, .int b, .int c] [.int 1]), (wld tabM [.int a', .int b', .int c'] [.int 1])]) = some ([Sm a, Sm b, Sm c, Sm n, Sm a', Sm b', Sm c', Sm 0, Sm 0, Sm (a + b), Sm (a + b), Sm (mixT n c), Sm (mixT n c), Sm 0, Sm (a + b), Sm (a + b), Sm (mixT n c), Sm (mixT n c), w = w, w = w, Sm 0, w = w, w = w, Sm 0, Sm 0, w = w, w = w, Sm 0, Sm 0, w = w, w = w, Sm 0, w = w, w = w, Sm 0, Sm 0, w = w, w = w, Sm 0, Sm 0] ++ obS 7 a b c (a + b) (mixT n c) 1 (sightV S d) nm ++ obS 7 a' b' c' 0 0 1 (sightV S d) nm ++ [Eq2 (seenV 7 a b c (a + b) (mixT n c) 1 (sightV S d)) (seenV 7 a' b' c' 0 0 1 (sightV S d)), Eq2 (thV 7 a b c (a + b) (mixT n c) nm) (thV 7 a' b' c' 0 0 nm)], .ok (.bl (!((!eqV (numM n) tabM) || (false || !eqV (.tup [.int 1]) (.tup [.int 1]))) && (eqV (seenV 7 a b c (a + b) (mixT n c) 1 (sightV S d)) (seenV 7 a' b' c' 0 0 1 (sightV S d)) && !eqV (thV 7 a b c (a + b) (mixT n c) nm) (thV 7 a' b' c' 0 0 nm))))) := by kernel_rfl
theorem p_ndry (w : PySem.World) (n n' a b c a' b' c' d : Int) (S : List AV) (nm : AV) : ends (f_is_pairO w [buildT, .int 7, sightV S d, .int (7), nm, (wld (numM n) [.int a, .int b, .int c] [.int 1]), (wld (numM n') [.int a', .int b'] [.int 1])]) = some ([Sm a, Sm b, Sm c, Sm n, Sm a', Sm b', Sm n', Sm 0, Sm (a + b), Sm (a + b), Sm (mixT n c), Sm (mixT n c), Sm 0, Sm (a + b), Sm (a + b), Sm (mixT n c), Sm (mixT n c), Sm 0, Sm 0], .ok (.bl false)) := by kernel_rfl
theorem p_nans (w : PySem.World) (n n' a b c a' b' c' d : Int) (S : List AV) (nm : AV) : ends (f_is_pairO w [buildT, .int 7, sightV S d, .int (7), nm, (wld (numM n) [.int a, .int b, .int c] []), (wld (numM n') [.int a', .int b', .int c'] [.int 1])]) = some ([Sm a, Sm b, Sm c, Sm n, Sm a', Sm b', Sm c', Sm n', Sm 0, Sm (a + b), Sm (a + b), Sm (mixT n c), Sm (mixT n c), Sm 0, Sm (a + b), Sm (a + b), Sm (mixT n c), Sm (mixT n c), Sm 0, Sm (a' + b'), Sm (a' + b'), Sm (mixT n' c'), Sm (mixT n' c'), Sm 0, Sm (a' + b'), Sm (a' + b'), Sm (mixT n' c'), Sm (mixT n' c')], .ok (.bl false)) := by kernel_rfl
theorem p_nnon (w : PySem.World) (n n' a b c a' b' c' d : Int) (S : List AV) (nm : AV) : ends (f_is_pairO w [buildT, .int 7, sightV S d, .int (7), nm, (wld (numM n) [.int a, .int b, .int c] [.int 1]), .non]) = some ([Sm a, Sm b, Sm c, Sm n], .ok (.bl false)) := by kernel_rfl
theorem p_nfour (w : PySem.World) (n n' a b c a' b' c' d : Int) (S : List AV) (nm : AV) : ends (f_is_pairO w [buildT, .int 7, sightV S d, .int (7), nm, (wld (numM n) [.int a, .int b, .int c] [.int 1]), (.tup [(numM n'), .tup [.int a', .int b', .int c'], .tup [.int 1], .int 1])]) = some ([Sm a, Sm b, Sm c, Sm n], .ok (.bl false)) := by kernel_rfl
theorem p_nnine (w : PySem.World) (n n' a b c a' b' c' d : Int) (S : List AV) (nm : AV) : ends (f_is_pairO w [buildT, .int 9, sightV S d, .int (7), nm, (wld (numM n) [.int a, .int b, .int c] [.int 1]), (wld (numM n') [.int a', .int b', .int c'] [.int 1])]) = some ([Sm a, Sm b, Sm c, Sm n, Sm a', Sm b', Sm c', Sm n', Sm 0, Sm (a + b), Sm (a + b), Sm (mixT n c), Sm (mixT n c), Sm 0, Sm (a + b), Sm (a + b), Sm (mixT n c), Sm (mixT n c), Sm 0, Sm (a' + b'), Sm (a' + b'), Sm (mixT n' c'), Sm (mixT n' c'), Sm 0, Sm (a' + b'), Sm (a' + b'), Sm (mixT n' c'), Sm (mixT n' c')], .ok (.bl false)) := by kernel_rfl
theorem p_nneg (w : PySem.World) (n n' a b c a' b' c' d : Int) (S : List AV) (nm : AV) : ends (f_is_pairO w [buildT, .int 7, sightV S d, .int (-1), nm, (wld (numM n) [.int a, .int b, .int c] [.int 1]), (wld (numM n') [.int a', .int b', .int c'] [.int 1])]) = some ([], .ok (.bl false)) := by kernel_rfl
theorem p_ntrue (w : PySem.World) (n n' a b c a' b' c' d : Int) (S : List AV) (nm : AV) : ends (f_is_pairO w [buildT, .bl true, sightV S d, .int (7), nm, (wld (numM n) [.int a, .int b, .int c] [.int 1]), (wld (numM n') [.int a', .int b', .int c'] [.int 1])]) = some ([], .ok (.bl false)) := by kernel_rfl
theorem p_nzz (w : PySem.World) (n n' a b c a' b' c' d : Int) (S : List AV) (nm : AV) : ends (f_is_pair w [buildT, .int 7, sightV [.tup [tx "box", .int 0, tx "zz"]] 0, .int (7), nm, (wld (numM n) [.int a, .int b, .int c] [.int 1]), (wld (numM n') [.int a', .int b', .int c'] [.int 1])]) = some ([Sm a, Sm b, Sm c, Sm n, Sm a', Sm b', Sm c', Sm n', Sm 0, Sm (a + b), Sm (a + b), Sm (mixT n c), Sm (mixT n c), Sm 0, Sm (a + b), Sm (a + b), Sm (mixT n c), Sm (mixT n c), Sm 0, Sm (a' + b'), Sm (a' + b'), Sm (mixT n' c'), Sm (mixT n' c'), Sm 0, Sm (a' + b'), Sm (a' + b'), Sm (mixT n' c'), Sm (mixT n' c')], .error zzE) := by kernel_rfl
theorem p_s33 (w : PySem.World) (n n' a b c a' b' c' d : Int) (S : List AV) (nm : AV) : ends (f_is_pairO w [buildT, .int 7, sightV S d, .int (7), nm, (wld sumM [.int a, .int b, .int c] [.int 1]), (wld sumM [.int a', .int b', .int c'] [.int 1])]) = some ([Sm a, Sm b, Sm c, Sm 1, Sm 5, Sm 2, Sm 5, Sm 8, Sm a', Sm b', Sm c', Sm 1, Sm 5, Sm 2, Sm 5, Sm 8, Sm 0, Sm (a + b), Sm (a + b), w = w, w = w, Sm (sumT c), Sm (sumT c), Sm 0, Sm (a + b), Sm (a + b), w = w, w = w, Sm (sumT c), Sm (sumT c), Sm 0, Sm (a' + b'), Sm (a' + b'), w = w, w = w, Sm (sumT c'), Sm (sumT c'), Sm 0, Sm (a' + b'), Sm (a' + b'), w = w, w = w, Sm (sumT c'), Sm (sumT c')] ++ obS 7 a b c (a + b) (sumT c) 1 (sightV S d) nm ++ obS 7 a' b' c' (a' + b') (sumT c') 1 (sightV S d) nm ++ [Eq2 (seenV 7 a b c (a + b) (sumT c) 1 (sightV S d)) (seenV 7 a' b' c' (a' + b') (sumT c') 1 (sightV S d)), Eq2 (thV 7 a b c (a + b) (sumT c) nm) (thV 7 a' b' c' (a' + b') (sumT c') nm)], .ok (.bl (!((!eqV sumM sumM) || (false || !eqV (.tup [.int 1]) (.tup [.int 1]))) && (eqV (seenV 7 a b c (a + b) (sumT c) 1 (sightV S d)) (seenV 7 a' b' c' (a' + b') (sumT c') 1 (sightV S d)) && !eqV (thV 7 a b c (a + b) (sumT c) nm) (thV 7 a' b' c' (a' + b') (sumT c') nm))))) := by kernel_rfl
theorem p_s34 (w : PySem.World) (n n' a b c a' b' c' d : Int) (S : List AV) (nm : AV) : ends (f_is_pairO w [buildT, .int 7, sightV S d, .int (7), nm, (wld sumM [.int a, .int b, .int c] [.int 1]), (wld sumM [.int a', .int b', .int c', .int 5] [.int 1])]) = some ([Sm a, Sm b, Sm c, Sm 1, Sm 5, Sm 2, Sm 5, Sm 8, Sm a', Sm b', Sm c', Sm 5, Sm 1, Sm 5, Sm 2, Sm 5, Sm 8, Sm 0, Sm (a + b), Sm (a + b), w = w, w = w, Sm (sumT c), Sm (sumT c), Sm 0, Sm (a + b), Sm (a + b), w = w, w = w, Sm (sumT c), Sm (sumT c), Sm 0, Sm (a' + b'), Sm (a' + b'), w = w, w = w, Sm (sumT c'), Sm (sumT c'), Sm 0, Sm (a' + b'), Sm (a' + b'), w = w, w = w, Sm (sumT c'), Sm (sumT c')] ++ obS 7 a b c (a + b) (sumT c) 1 (sightV S d) nm ++ obS 7 a' b' c' (a' + b') (sumT c') 1 (sightV S d) nm ++ [Eq2 (seenV 7 a b c (a + b) (sumT c) 1 (sightV S d)) (seenV 7 a' b' c' (a' + b') (sumT c') 1 (sightV S d)), Eq2 (thV 7 a b c (a + b) (sumT c) nm) (thV 7 a' b' c' (a' + b') (sumT c') nm)], .ok (.bl (!((!eqV sumM sumM) || (false || !eqV (.tup [.int 1]) (.tup [.int 1]))) && (eqV (seenV 7 a b c (a + b) (sumT c) 1 (sightV S d)) (seenV 7 a' b' c' (a' + b') (sumT c') 1 (sightV S d)) && !eqV (thV 7 a b c (a + b) (sumT c) nm) (thV 7 a' b' c' (a' + b') (sumT c') nm))))) := by kernel_rfl
theorem p_s0 (w : PySem.World) (n n' a b c a' b' c' d : Int) (S : List AV) (nm : AV) : ends (f_is_pairO w [buildT, .int 7, sightV S d, .int (7), nm, (wld sumM [.int a, .int b, .int c] [.int 1]), (wld sumM [.int a', .int b', .int c'] [.int 0])]) = some ([Sm a, Sm b, Sm c, Sm 1, Sm 5, Sm 2, Sm 5, Sm 8, Sm a', Sm b', Sm c', Sm 1, Sm 5, Sm 2, Sm 5, Sm 8, Sm 0, Sm (a + b), Sm (a + b), w = w, w = w, Sm (sumT c), Sm (sumT c), Sm 0, Sm (a + b), Sm (a + b), w = w, w = w, Sm (sumT c), Sm (sumT c), Sm 0, Sm (a' + b'), Sm (a' + b'), w = w, w = w, Sm (sumT c'), Sm (sumT c'), Sm 0, Sm (a' + b'), Sm (a' + b'), w = w, w = w, Sm (sumT c'), Sm (sumT c')] ++ obS 7 a b c (a + b) (sumT c) 1 (sightV S d) nm ++ obS 6 a' b' c' (a' + b') (sumT c') 0 (sightV S d) nm ++ [Eq2 (seenV 7 a b c (a + b) (sumT c) 1 (sightV S d)) (seenV 6 a' b' c' (a' + b') (sumT c') 0 (sightV S d)), Eq2 (thV 7 a b c (a + b) (sumT c) nm) (thV 6 a' b' c' (a' + b') (sumT c') nm)], .ok (.bl (!((!eqV sumM sumM) || (false || !eqV (.tup [.int 1]) (.tup [.int 0]))) && (eqV (seenV 7 a b c (a + b) (sumT c) 1 (sightV S d)) (seenV 6 a' b' c' (a' + b') (sumT c') 0 (sightV S d)) && !eqV (thV 7 a b c (a + b) (sumT c) nm) (thV 6 a' b' c' (a' + b') (sumT c') nm))))) := by kernel_rfl
theorem p_st (w : PySem.World) (n n' a b c a' b' c' d : Int) (S : List AV) (nm : AV) : ends (f_is_pairO w [buildT, .int 7, sightV S d, .int (7), nm, (wld sumM [.int a, .int b, .int c] [.int 1]), (wld tabM [.int a', .int b', .int c'] [.int 1])]) = some ([Sm a, Sm b, Sm c, Sm 1, Sm 5, Sm 2, Sm 5, Sm 8, Sm a', Sm b', Sm c', Sm 0, Sm 0, Sm (a + b), Sm (a + b), w = w, w = w, Sm (sumT c), Sm (sumT c), Sm 0, Sm (a + b), Sm (a + b), w = w, w = w, Sm (sumT c), Sm (sumT c), w = w, w = w, Sm 0, w = w, w = w, Sm 0, Sm 0, w = w, w = w, Sm 0, Sm 0, w = w, w = w, Sm 0, w = w, w = w, Sm 0, Sm 0, w = w, w = w, Sm 0, Sm 0] ++ obS 7 a b c (a + b) (sumT c) 1 (sightV S d) nm ++ obS 7 a' b' c' 0 0 1 (sightV S d) nm ++ [Eq2 (seenV 7 a b c (a + b) (sumT c) 1 (sightV S d)) (seenV 7 a' b' c' 0 0 1 (sightV S d)), Eq2 (thV 7 a b c (a + b) (sumT c) nm) (thV 7 a' b' c' 0 0 nm)], .ok (.bl (!((!eqV sumM tabM) || (false || !eqV (.tup [.int 1]) (.tup [.int 1]))) && (eqV (seenV 7 a b c (a + b) (sumT c) 1 (sightV S d)) (seenV 7 a' b' c' 0 0 1 (sightV S d)) && !eqV (thV 7 a b c (a + b) (sumT c) nm) (thV 7 a' b' c' 0 0 nm))))) := by kernel_rfl
theorem p_sn (w : PySem.World) (n n' a b c a' b' c' d : Int) (S : List AV) (nm : AV) : ends (f_is_pairO w [buildT, .int 7, sightV S d, .int (7), nm, (wld sumM [.int a, .int b, .int c] [.int 1]), (wld (numM n') [.int a', .int b', .int c'] [.int 1])]) = some ([Sm a, Sm b, Sm c, Sm 1, Sm 5, Sm 2, Sm 5, Sm 8, Sm a', Sm b', Sm c', Sm n', Sm 0, Sm (a + b), Sm (a + b), w = w, w = w, Sm (sumT c), Sm (sumT c), Sm 0, Sm (a + b), Sm (a + b), w = w, w = w, Sm (sumT c), Sm (sumT c), Sm 0, Sm (a' + b'), Sm (a' + b'), Sm (mixT n' c'), Sm (mixT n' c'), Sm 0, Sm (a' + b'), Sm (a' + b'), Sm (mixT n' c'), Sm (mixT n' c')] ++ obS 7 a b c (a + b) (sumT c) 1 (sightV S d) nm ++ obS 7 a' b' c' (a' + b') (mixT n' c') 1 (sightV S d) nm ++ [Eq2 (seenV 7 a b c (a + b) (sumT c) 1 (sightV S d)) (seenV 7 a' b' c' (a' + b') (mixT n' c') 1 (sightV S d)), Eq2 (thV 7 a b c (a + b) (sumT c) nm) (thV 7 a' b' c' (a' + b') (mixT n' c') nm)], .ok (.bl (!((!eqV sumM (numM n')) || (false || !eqV (.tup [.int 1]) (.tup [.int 1]))) && (eqV (seenV 7 a b c (a + b) (sumT c) 1 (sightV S d)) (seenV 7 a' b' c' (a' + b') (mixT n' c') 1 (sightV S d)) && !eqV (thV 7 a b c (a + b) (sumT c) nm) (thV 7 a' b' c' (a' + b') (mixT n' c') nm))))) := by kernel_rfl
theorem p_sdry (w : PySem.World) (n n' a b c a' b' c' d : Int) (S : List AV) (nm : AV) : ends (f_is_pairO w [buildT, .int 7, sightV S d, .int (7), nm, (wld sumM [.int a, .int b, .int c] [.int 1]), (wld sumM [.int a', .int b'] [.int 1])]) = some ([Sm a, Sm b, Sm c, Sm 1, Sm 5, Sm 2, Sm 5, Sm 8, Sm a', Sm b', Sm 1, Sm 5, Sm 2, Sm 5, Sm 8, Sm 0, Sm (a + b), Sm (a + b), w = w, w = w, Sm (sumT c), Sm (sumT c), Sm 0, Sm (a + b), Sm (a + b), w = w, w = w, Sm (sumT c), Sm (sumT c), Sm 0, Sm 0], .ok (.bl false)) := by kernel_rfl
theorem p_sans (w : PySem.World) (n n' a b c a' b' c' d : Int) (S : List AV) (nm : AV) : ends (f_is_pairO w [buildT, .int 7, sightV S d, .int (7), nm, (wld sumM [.int a, .int b, .int c] []), (wld sumM [.int a', .int b', .int c'] [.int 1])]) = some ([Sm a, Sm b, Sm c, Sm 1, Sm 5, Sm 2, Sm 5, Sm 8, Sm a', Sm b', Sm c', Sm 1, Sm 5, Sm 2, Sm 5, Sm 8, Sm 0, Sm (a + b), Sm (a + b), w = w, w = w, Sm (sumT c), Sm (sumT c), Sm 0, Sm (a + b), Sm (a + b), w = w, w = w, Sm (sumT c), Sm (sumT c), Sm 0, Sm (a' + b'), Sm (a' + b'), w = w, w = w, Sm (sumT c'), Sm (sumT c'), Sm 0, Sm (a' + b'), Sm (a' + b'), w = w, w = w, Sm (sumT c'), Sm (sumT c')], .ok (.bl false)) := by kernel_rfl
theorem p_snon (w : PySem.World) (n n' a b c a' b' c' d : Int) (S : List AV) (nm : AV) : ends (f_is_pairO w [buildT, .int 7, sightV S d, .int (7), nm, (wld sumM [.int a, .int b, .int c] [.int 1]), .non]) = some ([Sm a, Sm b, Sm c, Sm 1, Sm 5, Sm 2, Sm 5, Sm 8], .ok (.bl false)) := by kernel_rfl
theorem p_sfour (w : PySem.World) (n n' a b c a' b' c' d : Int) (S : List AV) (nm : AV) : ends (f_is_pairO w [buildT, .int 7, sightV S d, .int (7), nm, (wld sumM [.int a, .int b, .int c] [.int 1]), (.tup [sumM, .tup [.int a', .int b', .int c'], .tup [.int 1], .int 1])]) = some ([Sm a, Sm b, Sm c, Sm 1, Sm 5, Sm 2, Sm 5, Sm 8], .ok (.bl false)) := by kernel_rfl
theorem p_snine (w : PySem.World) (n n' a b c a' b' c' d : Int) (S : List AV) (nm : AV) : ends (f_is_pairO w [buildT, .int 9, sightV S d, .int (7), nm, (wld sumM [.int a, .int b, .int c] [.int 1]), (wld sumM [.int a', .int b', .int c'] [.int 1])]) = some ([Sm a, Sm b, Sm c, Sm 1, Sm 5, Sm 2, Sm 5, Sm 8, Sm a', Sm b', Sm c', Sm 1, Sm 5, Sm 2, Sm 5, Sm 8, Sm 0, Sm (a + b), Sm (a + b), w = w, w = w, Sm (sumT c), Sm (sumT c), Sm 0, Sm (a + b), Sm (a + b), w = w, w = w, Sm (sumT c), Sm (sumT c), Sm 0, Sm (a' + b'), Sm (a' + b'), w = w, w = w, Sm (sumT c'), Sm (sumT c'), Sm 0, Sm (a' + b'), Sm (a' + b'), w = w, w = w, Sm (sumT c'), Sm (sumT c')], .ok (.bl false)) := by kernel_rfl
theorem p_sneg (w : PySem.World) (n n' a b c a' b' c' d : Int) (S : List AV) (nm : AV) : ends (f_is_pairO w [buildT, .int 7, sightV S d, .int (-1), nm, (wld sumM [.int a, .int b, .int c] [.int 1]), (wld sumM [.int a', .int b', .int c'] [.int 1])]) = some ([], .ok (.bl false)) := by kernel_rfl
theorem p_strue (w : PySem.World) (n n' a b c a' b' c' d : Int) (S : List AV) (nm : AV) : ends (f_is_pairO w [buildT, .bl true, sightV S d, .int (7), nm, (wld sumM [.int a, .int b, .int c] [.int 1]), (wld sumM [.int a', .int b', .int c'] [.int 1])]) = some ([], .ok (.bl false)) := by kernel_rfl
theorem p_szz (w : PySem.World) (n n' a b c a' b' c' d : Int) (S : List AV) (nm : AV) : ends (f_is_pair w [buildT, .int 7, sightV [.tup [tx "box", .int 0, tx "zz"]] 0, .int (7), nm, (wld sumM [.int a, .int b, .int c] [.int 1]), (wld sumM [.int a', .int b', .int c'] [.int 1])]) = some ([Sm a, Sm b, Sm c, Sm 1, Sm 5, Sm 2, Sm 5, Sm 8, Sm a', Sm b', Sm c', Sm 1, Sm 5, Sm 2, Sm 5, Sm 8, Sm 0, Sm (a + b), Sm (a + b), w = w, w = w, Sm (sumT c), Sm (sumT c), Sm 0, Sm (a + b), Sm (a + b), w = w, w = w, Sm (sumT c), Sm (sumT c), Sm 0, Sm (a' + b'), Sm (a' + b'), w = w, w = w, Sm (sumT c'), Sm (sumT c'), Sm 0, Sm (a' + b'), Sm (a' + b'), w = w, w = w, Sm (sumT c'), Sm (sumT c')], .error zzE) := by kernel_rfl
end K95

set_option Elab.async false
set_option linter.all false
set_option maxRecDepth 100000
set_option maxHeartbeats 4000000
/-! K95E: the draws. -/
namespace K95
open PySem PySem.Spec PyProof.Rows L2 AX
/-- from A0: the bag at b has other numbers, what is new lies behind -/
structure BagH (b c : Nat) (A0 A : AH) (x y z : Int) : Prop where
  le : A0.length ≤ A.length
  bag : A[b]? = some (.lst [.int x, .int y, .int z, .ref c])
  same : ∀ i, i < A0.length → i ≠ b → A[i]? = A0[i]?
section
variable {b c : Nat} {A0 A : AH} {x y z : Int}
theorem BagH.app (h : BagH b c A0 A x y z) (t : AH) : BagH b c A0 (A ++ t) x y z := by
  refine ⟨by rw [List.length_append]; have := h.le; omega, ?_, fun i hi hn => ?_⟩
  · rw [List.getElem?_append_left (List.getElem?_eq_some_iff.mp h.bag).1]; exact h.bag
  · rw [List.getElem?_append_left (by have := h.le; omega)]; exact h.same i hi hn
theorem BagH.put (h : BagH b c A0 A x y z) (x' y' z' : Int) : BagH b c A0 (A.set b (.lst [.int x', .int y', .int z', .ref c])) x' y' z' := by
  refine ⟨by rw [List.length_set]; exact h.le, ?_, fun i hi hn => ?_⟩
  · exact List.getElem?_set_self (List.getElem?_eq_some_iff.mp h.bag).1
  · rw [List.getElem?_set_ne (Ne.symm hn)]; exact h.same i hi hn
theorem BagH.fin (h : BagH b c A0 A x y z) (hb : b < A0.length) : A.take A0.length = A0.set b (.lst [.int x, .int y, .int z, .ref c]) := by
  apply List.ext_getElem?
  intro i
  rw [List.getElem?_take]
  by_cases hi : i < A0.length
  · rw [if_pos hi]
    by_cases e : i = b
    · subst e
      rw [h.bag, List.getElem?_set_self hb]
    · rw [h.same i hi e, List.getElem?_set_ne (Ne.symm e)]
  · rw [if_neg hi, List.getElem?_eq_none (by rw [List.length_set]; omega)]
theorem BagH.i0 (h : BagH b c A0 A x y z) : gIx (.ref b) (.int 0) A = some (.int x, A) := by unfold gIx; dsimp only; rw [h.bag]; rfl
theorem BagH.i1 (h : BagH b c A0 A x y z) : gIx (.ref b) (.int 1) A = some (.int y, A) := by unfold gIx; dsimp only; rw [h.bag]; rfl
theorem BagH.i2 (h : BagH b c A0 A x y z) : gIx (.ref b) (.int 2) A = some (.int z, A) := by unfold gIx; dsimp only; rw [h.bag]; rfl
theorem BagH.i3 (h : BagH b c A0 A x y z) : gIx (.ref b) (.int 3) A = some (.ref c, A) := by unfold gIx; dsimp only; rw [h.bag]; rfl
theorem BagH.s0 (h : BagH b c A0 A x y z) (v : Int) : gSetI (.ref b) (.int 0) (.int v) A = some (A.set b (.lst [.int v, .int y, .int z, .ref c])) := by unfold gSetI; dsimp only; rw [h.bag]; rfl
theorem BagH.s1 (h : BagH b c A0 A x y z) (v : Int) : gSetI (.ref b) (.int 1) (.int v) A = some (A.set b (.lst [.int x, .int v, .int z, .ref c])) := by unfold gSetI; dsimp only; rw [h.bag]; rfl
theorem BagH.s2 (h : BagH b c A0 A x y z) (v : Int) : gSetI (.ref b) (.int 2) (.int v) A = some (A.set b (.lst [.int x, .int y, .int v, .ref c])) := by unfold gSetI; dsimp only; rw [h.bag]; rfl
theorem BagH.isl (h : BagH b c A0 A x y z) : isLst (.ref b) A = true := by unfold isLst; dsimp only; rw [h.bag]
end
/-- the cells from z on, and nought: a list whose first is a number -/
theorem cut_int (cs : List Int) (lo hi : Option Int) : ∃ ds : List Int, cutX (cs.map AV.int) lo hi = ds.map AV.int := by
  unfold cutX
  exact ⟨(cs.drop (sIxX (cs.map AV.int).length 0 lo)).take (sIxX (cs.map AV.int).length (cs.map AV.int).length hi - sIxX (cs.map AV.int).length 0 lo), by rw [List.map_take, List.map_drop]⟩
theorem cMul_r {i j : Int} (h : (decide (-(2 ^ 64) < j) && decide (j < 2 ^ 64)) = true) : cMul i j = true := by unfold cMul; rw [h, Bool.or_true]
theorem cMul_l {i j : Int} (h : (decide (-(2 ^ 64) < i) && decide (i < 2 ^ 64)) = true) : cMul i j = true := by unfold cMul; rw [h, Bool.true_or]
theorem gMul_i {i j : Int} {A : AH} (h : cMul i j = true) : gMul (.int i) (.int j) A = some (.int (i * j), A) := by unfold gMul; dsimp only; rw [h]
theorem gII_i {q : Int → Int → Bool} {f : Int → Int → Int} {i j : Int} {A : AH} (h : q i j = true) : gII q f (.int i) (.int j) A = some (.int (f i j), A) := by unfold gII; dsimp only; rw [h]
def takeA : ASt → M AOut := (bSeq (bSet 2 (aBin gIx (aBin gAdd (aSl (aBin gIx (aVar 0) (aC (.int 3))) (aPart (aBin gIx (aVar 0) (aC (.int 2)))) aNoPart) (aLst (aCons (aC (.int 0)) aNil))) (aC (.int 0))))
    (bSeq (bAugS (aVar 0) (aC (.int 2)) (aC (.int 1)))
    (bSeq (bIf (aVal (aBin (gIB fun i j => decide (j ≤ i)) (aVar 2) (aBin gPow (aC (.int 10)) (aC (.int 18))))) (bAsg (aVar 2) (agSub (aVar 0) (aC (.int 0)) gSetI)) bNext)
    (bSeq (bSet 3 (aBin gAdd (aBin gAdd (aBin gMul (aBin gIx (aVar 0) (aC (.int 1))) (aC (.int 48271))) (aBin (gII cPos fun i j => i % j) (aCB gInt (aCons (aVar 2) aNil)) (aC (.int 2147483647)))) (aBin gMul (aC (.int 7919)) (aBin gIx (aVar 0) (aC (.int 2))))))
    (bAsg (aBin (gII cPos fun i j => i % j) (aCB gInt (aCons (aVar 3) aNil)) (aC (.int 2147483647))) (agSub (aVar 0) (aC (.int 1)) gSetI))))))
def takeB : ASt → M AOut := (bSeq (bIf (aVal (aBin (gIB fun i j => decide (j < i)) (aBin gIx (aVar 0) (aC (.int 0))) (aC (.int 0)))) (bSeq (bSet 4 (aBin (gII cPos fun i j => i % j) (aCB gInt (aCons (aBin gIx (aVar 0) (aC (.int 0))) aNil)) (aVar 1)))
    (bSeq (bAsg (aBin (gII cDiv fun i j => i / j) (aCB gInt (aCons (aBin gIx (aVar 0) (aC (.int 0))) aNil)) (aVar 1)) (agSub (aVar 0) (aC (.int 0)) gSetI))
    (bRet (aVar 4)))) bNext)
    (bSeq (bSet 5 (aBin (gII cPos fun i j => i % j) (aCB gInt (aCons (aBin gMul (aBin gAdd (aBin gIx (aVar 0) (aC (.int 1))) (aC (.int 1))) (aC (.int 39373))) aNil)) (aC (.int 1000000007))))
    (bSeq (bSet 6 (aBin (gII cPos fun i j => i % j) (aCB gInt (aCons (aBin gMul (aBin (gII cPos fun i j => i % j) (aCB gInt (aCons (aBin gMul (aVar 5) (aVar 5)) aNil)) (aC (.int 998244353))) (aC (.int 30011))) aNil)) (aC (.int 998244353))))
    (bRet (aBin (gII cPos fun i j => i % j) (aCB gInt (aCons (aBin (gII cDiv fun i j => i / j) (aVar 6) (aC (.int 7))) aNil)) (aVar 1))))))
/-- the ends of a draw -/
def TakeK (b c : Nat) (A0 : AH) (m : Nat) : AOut → AH → Prop := fun o A => ∃ (x y z : Int) (v : Nat), o = .rt (.int (Int.ofNat v)) ∧ v < m ∧ BagH b c A0 A x y z
theorem mod_nat {i : Int} {m : Nat} (h : 0 < m) : ∃ v : Nat, i % (Int.ofNat m) = Int.ofNat v ∧ v < m := by
  have h1 : 0 ≤ i % (Int.ofNat m) := Int.emod_nonneg _ (by simp; omega)
  have h2 : i % (Int.ofNat m) < Int.ofNat m := Int.emod_lt_of_pos _ (by simp; omega)
  refine ⟨(i % (Int.ofNat m)).toNat, (Int.toNat_of_nonneg h1).symm, ?_⟩
  have := Int.toNat_of_nonneg h1
  have h3 : Int.ofNat m = (m : Int) := rfl
  omega
theorem log_small {m : Nat} (h : m ≤ 1000) : Nat.blt m.log2 9000 = true := by
  rw [Nat.blt_eq]
  have := Nat.log2_le_self m
  omega
theorem cPos_nat {i : Int} {m : Nat} (h : 0 < m) : cPos i (Int.ofNat m) = true := by
  unfold cPos
  rw [decide_eq_true_eq]
  show (0 : Int) < (m : Int)
  omega
theorem cDiv_nat {i : Int} {m : Nat} (h : 0 < m) (h2 : m ≤ 1000) : cDiv i (Int.ofNat m) = true := by
  unfold cDiv
  rw [Bool.and_eq_true, decide_eq_true_eq]
  refine ⟨?_, log_small h2⟩
  show (0 : Int) < (m : Int)
  omega
theorem takeB_yes {b c m : Nat} {A0 A : AH} {x y z : Int} {o2 o3 : Option AV} (h1 : 0 < m) (h2 : m ≤ 1000) (B : BagH b c A0 A x y z) : Yes (takeB [some (.ref b), some (.int (Int.ofNat m)), o2, o3, none, none, none]) A (TakeK b c A0 m) (fun _ _ => False) := by
  unfold takeB
  refine y_seq (y_if (y_val (y_bin (y_bin (y_var rfl (y_c ⟨_, _, B.i0, y_c ⟨_, _, rfl, _, rfl, ?_⟩⟩))))))
  by_cases hx : 0 < x
  · simp only [decide_eq_true hx]
    obtain ⟨v, hv, lv⟩ := mod_nat (i := x) h1
    refine y_seq (y_set (y_bin (y_cb (y_one (y_bin (y_var rfl (y_c ⟨_, _, B.i0, _, _, rfl, y_var rfl ⟨_, _, gII_i (cPos_nat h1), ?_⟩⟩)))))))
    refine y_seq (y_asgSub (y_bin (y_cb (y_one (y_bin (y_var rfl (y_c ⟨_, _, B.i0, _, _, rfl, y_var rfl ⟨_, _, gII_i (cDiv_nat h1 h2), y_var rfl (y_c ⟨_, B.s0 _, ?_⟩)⟩⟩)))))))
    refine y_ret (y_var rfl ?_)
    exact ⟨_, _, _, v, by rw [← hv], lv, B.put _ _ _⟩
  · simp only [decide_eq_false hx]
    refine y_next ?_
    have r1 : ∀ i : Int, 0 ≤ i % 1000000007 ∧ i % 1000000007 < 1000000007 := fun i => ⟨Int.emod_nonneg _ (by decide), Int.emod_lt_of_pos _ (by decide)⟩
    refine y_seq (y_set (y_bin (y_cb (y_one (y_bin (y_bin (y_bin (y_var rfl (y_c ⟨_, _, B.i1, y_c ⟨_, _, rfl, y_c ⟨_, _, gMul_i (cMul_r rfl), _, _, rfl, y_c ⟨_, _, gII_i rfl, ?_⟩⟩⟩⟩)))))))))
    have hb := r1 ((y + 1) * 39373)
    refine y_seq (y_set (y_bin (y_cb (y_one (y_bin (y_bin (y_cb (y_one (y_bin (y_var rfl (y_var rfl ⟨_, _, gMul_i (cMul_r ?_), _, _, rfl, y_c ⟨_, _, gII_i rfl, y_c ⟨_, _, gMul_i (cMul_r rfl), _, _, rfl, y_c ⟨_, _, gII_i rfl, ?_⟩⟩⟩⟩)))))))))))
    · rw [Bool.and_eq_true, decide_eq_true_eq, decide_eq_true_eq]
      omega
    · obtain ⟨v, hv, lv⟩ := mod_nat (i := (((y + 1) * 39373 % 1000000007 * ((y + 1) * 39373 % 1000000007) % 998244353 * 30011 % 998244353) / 7)) h1
      refine y_ret (y_bin (y_cb (y_one (y_bin (y_var rfl (y_c ⟨_, _, gII_i rfl, _, _, rfl, y_var rfl ⟨_, _, gII_i (cPos_nat h1), ?_⟩⟩))))))
      exact ⟨_, _, _, v, by rw [← hv], lv, B⟩
theorem gInt_i (i : Int) (A : AH) : gInt [.int i] A = some (.int i, A) := rfl
theorem at_app {A t : AH} {i : Nat} {o : AO} (h : A[i]? = some o) : (A ++ t)[i]? = some o := by
  rw [List.getElem?_append_left (List.getElem?_eq_some_iff.mp h).1]; exact h
theorem at_new {A : AH} {o : AO} : (A ++ [o])[A.length]? = some o := by simp
theorem takeA_yes {b c m : Nat} {A0 A : AH} {x y z : Int} {cs : List Int} {k : AOut → AH → Prop} {xx : AExc → AH → Prop} (len : cs.length ≤ 1000) (cells : A[c]? = some (.lst (cs.map AV.int))) (B : BagH b c A0 A x y z)
    (q : ∀ A1 x' y' z' o2 o3, BagH b c A0 A1 x' y' z' → k (.nx [some (.ref b), some (.int (Int.ofNat m)), o2, o3, none, none, none]) A1) : Yes (takeA [some (.ref b), some (.int (Int.ofNat m)), none, none, none, none, none]) A k xx := by
  unfold takeA
  obtain ⟨ds, hd⟩ := cut_int cs (some z) none
  have hlen : ds.length ≤ 1000 := by
    have e : ds.length = (cutX (cs.map AV.int) (some z) none).length := by rw [hd, List.length_map]
    rw [e]
    unfold cutX
    rw [List.length_take, List.length_drop, List.length_map]
    omega
  obtain ⟨cell, hcell⟩ : ∃ cell : Int, atX (cutX (cs.map AV.int) (some z) none ++ [AV.int 0]) 0 = some (.int cell) := by
    rw [hd]
    cases ds with
    | nil => exact ⟨0, rfl⟩
    | cons d ds => exact ⟨d, rfl⟩
  have e1 : gSl (some z) none (.ref c) A = some (.ref A.length, A ++ [.lst (cutX (cs.map AV.int) (some z) none)]) := by unfold gSl; dsimp only; rw [cells]
  have e2 : ∀ (A1 : AH) (i j : Nat), A1[i]? = some (.lst (cutX (cs.map AV.int) (some z) none)) → A1[j]? = some (.lst [.int 0]) → gAdd (.ref i) (.ref j) A1 = some (.ref A1.length, A1 ++ [.lst (cutX (cs.map AV.int) (some z) none ++ [.int 0])]) := fun A1 i j h1 h2 => by
    unfold gAdd
    dsimp only
    rw [h1, h2]
    dsimp only
    rw [show szOk ((cutX (cs.map AV.int) (some z) none).length + [AV.int 0].length) = true from by
      rw [hd, List.length_map]
      exact Nat.ble_eq_true_of_le (by show ds.length + 1 ≤ 100000; omega)]
  have e3 : ∀ (A1 : AH) (i : Nat), A1[i]? = some (.lst (cutX (cs.map AV.int) (some z) none ++ [.int 0])) → gIx (.ref i) (.int 0) A1 = some (.int cell, A1) := fun A1 i h1 => by
    unfold gIx
    dsimp only
    rw [h1]
    dsimp only
    rw [hcell]
  refine y_seq (y_set (y_bin (y_bin (y_sl (y_bin (y_var rfl (y_c ⟨_, _, B.i3, y_part (y_bin (y_var rfl (y_c ⟨_, _, B.i2, _, rfl, y_noPart ⟨_, _, e1, y_lst (y_one (y_c ⟨rfl, _, _, e2 _ _ _ (at_app at_new) at_new, y_c ⟨_, _, e3 _ _ at_new, ?_⟩⟩))⟩⟩)))⟩)))))))
  have B1 := ((B.app [.lst (cutX (cs.map AV.int) (some z) none)]).app [.lst [.int 0]]).app [.lst (cutX (cs.map AV.int) (some z) none ++ [.int 0])]
  refine y_seq (y_augS (y_var rfl (y_c ⟨B1.isl, _, _, B1.i2, y_c ⟨_, _, gII_i rfl, _, B1.s2 _, ?_⟩⟩)))
  have B2 := B1.put x y (z + 1)
  have rest : ∀ A2 x2, BagH b c A0 A2 x2 y (z + 1) → Yes (bSeq (bSet 3 (aBin gAdd (aBin gAdd (aBin gMul (aBin gIx (aVar 0) (aC (.int 1))) (aC (.int 48271))) (aBin (gII cPos fun i j => i % j) (aCB gInt (aCons (aVar 2) aNil)) (aC (.int 2147483647)))) (aBin gMul (aC (.int 7919)) (aBin gIx (aVar 0) (aC (.int 2)))))) (bAsg (aBin (gII cPos fun i j => i % j) (aCB gInt (aCons (aVar 3) aNil)) (aC (.int 2147483647))) (agSub (aVar 0) (aC (.int 1)) gSetI)) [some (.ref b), some (.int (Int.ofNat m)), some (.int cell), none, none, none, none]) A2 k xx := by
    intro A2 x2 B2
    refine y_seq (y_set (y_bin (y_bin (y_bin (y_bin (y_var rfl (y_c ⟨_, _, B2.i1, y_c ⟨_, _, gMul_i (cMul_r rfl), y_bin (y_cb (y_one (y_var rfl ⟨_, _, rfl, y_c ⟨_, _, gII_i rfl, _, _, rfl, y_bin (y_c (y_bin (y_var rfl (y_c ⟨_, _, B2.i2, _, _, gMul_i (cMul_l rfl), _, _, rfl, ?_⟩))))⟩⟩)))⟩⟩)))))))
    refine y_asgSub (y_bin (y_cb (y_one (y_var rfl ⟨_, _, rfl, y_c ⟨_, _, gII_i rfl, y_var rfl (y_c ⟨_, B2.s1 _, ?_⟩)⟩⟩))))
    exact q _ _ _ _ _ _ (B2.put _ _ _)
  refine y_seq (y_if (y_val (y_bin (y_var rfl (y_bin (y_c (y_c ⟨_, _, gII_i (by decide +kernel), _, _, rfl, _, rfl, ?_⟩)))))))
  by_cases hx : (10 : Int) ^ (18 : Int).toNat ≤ cell
  · simp only [decide_eq_true hx]
    refine y_asgSub (y_var rfl (y_var rfl (y_c ⟨_, B2.s0 _, ?_⟩)))
    exact rest _ _ (B2.put _ _ _)
  · simp only [decide_eq_false hx]
    exact y_next (rest _ _ B2)
end K95

set_option Elab.async false
set_option linter.all false
set_option maxRecDepth 100000
set_option maxHeartbeats 4000000
/-! K95F: draws as calls. -/
namespace K95
open PySem PySem.Spec PyProof.Rows L2 AX
theorem all_set {A : AH} {p : AO → Bool} (h : A.all p = true) (i : Nat) {o : AO} (ho : p o = true) : (A.set i o).all p = true := by
  rw [List.all_eq_true] at h ⊢
  intro x hx
  rcases List.mem_or_eq_of_mem_set hx with q | q
  · exact h x q
  · rw [q]; exact ho
mutual
theorem lies_up {n m : Nat} (le : n ≤ m) : ∀ {x : AV}, x.lies n = true → x.lies m = true
  | .ref i, h => by
    unfold AV.lies at h ⊢
    rw [Nat.blt_eq] at h ⊢
    omega
  | .tup xs, h => by unfold AV.lies at h ⊢; exact liesA_up le h
  | .tud xs, h => by unfold AV.lies at h ⊢; exact liesA_up le h
  | .lsf xs, h => by unfold AV.lies at h ⊢; exact liesA_up le h
  | .non, _ => rfl
  | .bl _, _ => rfl
  | .int _, _ => rfl
  | .str _, _ => rfl
  | .fn _, _ => rfl
  | .ty _, _ => rfl
theorem liesA_up {n m : Nat} (le : n ≤ m) : ∀ {xs : List AV}, AV.liesA n xs = true → AV.liesA m xs = true
  | [], _ => rfl
  | x :: xs, h => by
    unfold AV.liesA at h ⊢
    obtain ⟨h1, h2⟩ := He.ba h
    rw [lies_up le h1, liesA_up le h2]
    rfl
end
theorem liesO_up {n m : Nat} (le : n ≤ m) {o : AO} (h : o.lies n = true) : o.lies m = true := by
  cases o with
  | lst xs => exact liesA_up le h
  | dK ks xs => exact liesA_up le h
  | ins c ns xs => exact liesA_up le h
  | dT w ks xs => exact liesA_up le h
  | slt c xs => exact liesA_up le h
  | tab P q => rfl
def Good (A : AH) : Prop := A.all (AO.lies A.length) = true
theorem good_set {A : AH} (h : Good A) (i : Nat) {o : AO} (ho : o.lies A.length = true) : Good (A.set i o) := by
  unfold Good
  rw [List.length_set]
  exact all_set h i ho
theorem good_push {A : AH} (h : Good A) {o : AO} (ho : o.lies A.length = true) : Good (A ++ [o]) := by
  unfold Good at h ⊢
  rw [List.all_eq_true] at h ⊢
  intro x hx
  refine liesO_up (n := A.length) (by simp) ?_
  rcases List.mem_append.mp hx with q | q
  · exact h x q
  · rw [List.mem_singleton.mp q]; exact ho
/-- a bag at b, its cells at c -/
structure Bag (b c : Nat) (A : AH) : Prop where
  bag : ∃ x y z : Int, A[b]? = some (.lst [.int x, .int y, .int z, .ref c])
  cells : ∃ cs : List Int, A[c]? = some (.lst (cs.map AV.int)) ∧ cs.length ≤ 1000
  ne : c ≠ b
  good : Good A
def bagO (c : Nat) (x y z : Int) : AO := .lst [.int x, .int y, .int z, .ref c]
section
variable {b c m : Nat} {A : AH} {k : AV → AH → Prop} {xx : AExc → AH → Prop}
theorem Bag.lb (h : Bag b c A) : b < A.length := let ⟨_, _, _, e⟩ := h.bag; (List.getElem?_eq_some_iff.mp e).1
theorem Bag.lc (h : Bag b c A) : c < A.length := let ⟨_, e, _⟩ := h.cells; (List.getElem?_eq_some_iff.mp e).1
theorem bagO_lies {n : Nat} (h : c < n) (x y z : Int) : (bagO c x y z).lies n = true := by
  show ((true && (true && (true && (Nat.blt c n && true)))) : Bool) = true
  rw [Nat.blt_eq.mpr h]
  rfl
theorem Bag.put (h : Bag b c A) (x y z : Int) : Bag b c (A.set b (bagO c x y z)) := by
  refine ⟨⟨x, y, z, List.getElem?_set_self h.lb⟩, ?_, h.ne, good_set h.good b (bagO_lies h.lc x y z)⟩
  obtain ⟨cs, e, l⟩ := h.cells
  exact ⟨cs, by rw [List.getElem?_set_ne (Ne.symm h.ne)]; exact e, l⟩
theorem Bag.push (h : Bag b c A) {o : AO} (ho : o.lies A.length = true) : Bag b c (A ++ [o]) := by
  refine ⟨?_, ?_, h.ne, good_push h.good ho⟩
  · obtain ⟨x, y, z, e⟩ := h.bag
    exact ⟨x, y, z, at_app e⟩
  · obtain ⟨cs, e, l⟩ := h.cells
    exact ⟨cs, at_app e, l⟩
/-- a draw -/
theorem take_yes (B : Bag b c A) (h1 : 0 < m) (h2 : m ≤ 1000) (q : ∀ (x y z : Int) (v : Nat), v < m → k (.int (Int.ofNat v)) (A.set b (bagO c x y z))) : Yes (f__law_takeD [.ref b, .int (Int.ofNat m)]) A k xx := by
  obtain ⟨x, y, z, bag⟩ := B.bag
  obtain ⟨cs, cells, len⟩ := B.cells
  have B0 : BagH b c A A x y z := ⟨Nat.le_refl _, bag, fun _ _ _ => rfl⟩
  unfold f__law_takeD
  refine y_forget ?_
  unfold f__law_take
  refine y_run ?_
  have fin : ∀ A1 x y z o2 o3, BagH b c A A1 x y z → Yes (takeB [some (.ref b), some (.int (Int.ofNat m)), o2, o3, none, none, none]) A1 (fun o A1 => match o with
      | .rt v => Nat.ble A.length A1.length = true ∧ (A1.take A.length).all (AO.lies A.length) = true ∧ v.lies A.length = true ∧ k v (A1.take A.length)
      | .nx _ => Nat.ble A.length A1.length = true ∧ (A1.take A.length).all (AO.lies A.length) = true ∧ AV.non.lies A.length = true ∧ k .non (A1.take A.length)
      | _ => False) (fun _ _ => False) := fun A1 x y z o2 o3 B1 => (takeB_yes h1 h2 B1).mono (fun o A2 ⟨x', y', z', v, e, lv, B2⟩ => by
    subst e
    have e2 := B2.fin B.lb
    refine ⟨Nat.ble_eq_true_of_le B2.le, ?_, rfl, ?_⟩
    · rw [e2]
      exact all_set B.good b (bagO_lies B.lc x' y' z')
    · rw [e2]
      exact q x' y' z' v lv) fun _ _ q => q
  show Yes (bSeq (bIf _ takeA bNext) takeB _) _ _ _
  refine y_seq (y_if (y_val (y_bin (y_bin (y_var rfl (y_c ⟨_, _, B0.i0, y_c ⟨_, _, rfl, _, rfl, ?_⟩⟩))))))
  by_cases hx : x = 0
  · simp only [decide_eq_true hx]
    exact takeA_yes len cells B0 fun A1 x' y' z' o2 o3 B1 => fin _ _ _ _ _ _ B1
  · simp only [decide_eq_false hx]
    exact y_next (fin _ _ _ _ _ _ B0)
/-- one of a list -/
theorem some_yes {n : Nat} {xs : List AV} (B : Bag b c A) (hn : n ≠ b) (hA : A[n]? = some (.lst xs)) (h1 : 0 < xs.length) (h2 : xs.length ≤ 1000) (q : ∀ (x y z : Int) (v : AV), v ∈ xs → k v (A.set b (bagO c x y z))) : Yes (f__law_someD [.ref b, .ref n]) A k xx := by
  unfold f__law_someD
  refine y_forget ?_
  unfold f__law_some
  refine y_run ?_
  unfold r__law_some
  have e1 : gLen [.ref n] A = some (.int (Int.ofNat xs.length), A) := by
    unfold gLen lenX
    dsimp only
    rw [hA]
    rfl
  refine y_ret (y_bin (y_var rfl (y_call (y_cons (y_var rfl (y_one (y_cb (y_one (y_var rfl ⟨_, _, e1, rfl, take_yes B h1 h2 fun x y z v lv => ?_⟩)))))))))
  have e2 : gIx (.ref n) (.int (Int.ofNat v)) (A.set b (bagO c x y z)) = some (xs[v], A.set b (bagO c x y z)) := by
    unfold gIx
    dsimp only
    rw [List.getElem?_set_ne (Ne.symm hn), hA]
    dsimp only
    show (match xs[v]? with
      | some z => some (z, _)
      | none => none) = _
    rw [List.getElem?_eq_getElem lv]
  refine ⟨_, _, e2, ?_⟩
  have hl : AV.lies A.length xs[v] = true := by
    have g := (List.all_eq_true.mp B.good) _ (List.mem_of_getElem? hA)
    have g2 : AV.liesA A.length xs = true := g
    have aux : ∀ (ys : List AV), AV.liesA A.length ys = true → ∀ y ∈ ys, y.lies A.length = true := by
      intro ys
      induction ys with
      | nil => exact fun _ _ h => nomatch h
      | cons a as ih =>
        intro h y hy
        unfold AV.liesA at h
        obtain ⟨h1, h2⟩ := He.ba h
        rcases List.mem_cons.mp hy with e | e
        · rw [e]; exact h1
        · exact ih h2 y e
    exact aux xs g2 _ (List.getElem_mem lv)
  have ll : (A.set b (bagO c x y z)).length = A.length := List.length_set ..
  have lt : (A.set b (bagO c x y z)).take A.length = A.set b (bagO c x y z) := List.take_of_length_le (by rw [ll]; exact Nat.le_refl _)
  refine ⟨by rw [ll]; exact Nat.ble_eq_true_of_le (Nat.le_refl _), ?_, hl, ?_⟩
  · rw [lt]
    exact all_set B.good b (bagO_lies B.lc x y z)
  · rw [lt]
    exact q x y z _ (List.getElem_mem lv)
end
end K95

set_option Elab.async false
set_option linter.all false
set_option maxRecDepth 100000
set_option maxHeartbeats 4000000
/-! K95G: the bag, a mixed list. -/
namespace K95
open PySem PySem.Spec PyProof.Rows L2 AX
def mixB : ASt → M AOut := bDrop (aMt isLst gInsert (aVar 2) (aCons (aCall 2 f__law_takeD (aCons (aVar 0) (aCons (aBin gAdd (aCB gLen (aCons (aVar 2) aNil)) (aC (.int 1))) aNil))) (aCons (aVar 3) aNil)))
section
variable {b c : Nat} {k : AV → AH → Prop} {xx : AExc → AH → Prop}
theorem liesA_perm {n : Nat} {xs ys : List AV} (h : AV.liesA n xs = true) (p : ∀ y ∈ ys, y ∈ xs) : AV.liesA n ys = true := by
  have aux : ∀ (ys : List AV), AV.liesA n ys = true → ∀ y ∈ ys, y.lies n = true := by
    intro ys
    induction ys with
    | nil => exact fun _ _ h => nomatch h
    | cons a as ih =>
      intro h y hy
      unfold AV.liesA at h
      obtain ⟨h1, h2⟩ := He.ba h
      rcases List.mem_cons.mp hy with e | e
      · rw [e]; exact h1
      · exact ih h2 y e
  induction ys with
  | nil => rfl
  | cons y ys ih =>
    unfold AV.liesA
    rw [aux xs h y (p y List.mem_cons_self), ih fun z hz => p z (List.mem_cons_of_mem _ hz)]
    rfl
theorem perm_insert {α : Type} (ys : List α) (a : α) (v : Nat) : (ys.take v ++ [a] ++ ys.drop v).Perm (a :: ys) := by
  rw [List.append_assoc]
  refine List.perm_middle.trans ?_
  show (a :: (ys.take v ++ ys.drop v)).Perm _
  rw [List.take_append_drop]
/-- the walk of `_law_mixed`'s loop -/
theorem mix_loop {A0 : AH} (B0 : Bag b c A0) {n : Nat} {xs : List AV} (hx : xs.length ≤ 500) (hA : A0[n]? = some (.lst xs)) (hn : n ≠ b) (lx : AV.liesA A0.length xs = true) (kk : AOut → AH → Prop)
    (q : ∀ x y z (ys : List AV) o3, ys.Perm xs → kk (.nx [some (.ref b), some (.ref n), some (.ref A0.length), o3]) (A0.set b (bagO c x y z) ++ [.lst ys])) :
    ∀ (r i fuel : Nat) (o3 : Option AV) (ys : List AV) (x y z : Int), i + r = xs.length → r < fuel → ys.Perm (xs.take i) →
      Yes (loopF (fun i A => match A[n]? with
        | some (.lst ys) => some ys[i]?
        | _ => none) (agName 3) mixB fuel i [some (.ref b), some (.ref n), some (.ref A0.length), o3]) (A0.set b (bagO c x y z) ++ [.lst ys]) kk xx := by
  have ln : n < A0.length := (List.getElem?_eq_some_iff.mp hA).1
  have hN : ∀ (x y z : Int) (t : AH), (A0.set b (bagO c x y z) ++ t)[n]? = some (.lst xs) := fun x y z t => at_app (by rw [List.getElem?_set_ne (Ne.symm hn)]; exact hA)
  intro r
  induction r with
  | zero =>
    intro i fuel o3 ys x y z hi hf hp
    cases fuel with
    | zero => omega
    | succ fuel =>
      refine y_bind (y_get (z := none) ?_ (y_pure ?_))
      · dsimp only
        rw [hN]
        dsimp only
        rw [List.getElem?_eq_none (by omega)]
      · rw [List.take_of_length_le (by omega)] at hp
        exact q _ _ _ _ _ hp
  | succ r ih =>
    intro i fuel o3 ys x y z hi hf hp
    cases fuel with
    | zero => omega
    | succ fuel =>
      have il : i < xs.length := by omega
      have ly : ys.length = i := by rw [hp.length_eq, List.length_take]; omega
      have ll : (A0.set b (bagO c x y z)).length = A0.length := List.length_set ..
      have B : Bag b c (A0.set b (bagO c x y z) ++ [AO.lst ys]) := (B0.put x y z).push (by
        show AV.liesA _ ys = true
        rw [ll]
        exact liesA_perm lx fun w hw => List.mem_of_mem_take (hp.mem_iff.mp hw))
      have new : (A0.set b (bagO c x y z) ++ [AO.lst ys])[A0.length]? = some (.lst ys) := by rw [← ll]; exact at_new
      refine y_bind (y_get (z := some xs[i]) ?_ ?_)
      · dsimp only
        rw [hN]
        dsimp only
        rw [List.getElem?_eq_getElem il]
      · refine y_bind (y_pure (y_bind ?_))
        have e1 : gLen [.ref A0.length] (A0.set b (bagO c x y z) ++ [AO.lst ys]) = some (.int (Int.ofNat i), A0.set b (bagO c x y z) ++ [AO.lst ys]) := by
          unfold gLen lenX
          dsimp only
          rw [new]
          dsimp only
          rw [ly]
          rfl
        unfold mixB
        refine y_drop (y_mt (y_var rfl ⟨?_, y_cons (y_call (y_cons (y_var rfl (y_one (y_bin (y_cb (y_one (y_var rfl ⟨_, _, e1, y_c ⟨_, _, rfl, rfl, take_yes (m := i + 1) B (by omega) (by omega) fun x' y' z' v lv => ?_⟩⟩))))))))⟩))
        · unfold isLst
          dsimp only
          rw [new]
        · have lb : b < (A0.set b (bagO c x y z)).length := by
            rw [ll]
            exact B0.lb
          have eS : (A0.set b (bagO c x y z) ++ [AO.lst ys]).set b (bagO c x' y' z') = A0.set b (bagO c x' y' z') ++ [AO.lst ys] := by
            rw [List.set_append_left _ _ lb, List.set_set]
          rw [eS]
          have ll' : (A0.set b (bagO c x' y' z')).length = A0.length := List.length_set ..
          have new' : (A0.set b (bagO c x' y' z') ++ [AO.lst ys])[A0.length]? = some (.lst ys) := by rw [← ll']; exact at_new
          refine y_one (y_var rfl ?_)
          refine ⟨.non, A0.set b (bagO c x' y' z') ++ [.lst (ys.take v ++ [xs[i]] ++ ys.drop v)], ?_, ?_⟩
          · unfold gInsert
            dsimp only
            rw [new']
            dsimp only
            rw [show (szOk (ys.length + 1) && Nat.ble v 100000) = true from by
              rw [Bool.and_eq_true]
              exact ⟨Nat.ble_eq_true_of_le (by omega), Nat.ble_eq_true_of_le (by omega)⟩]
            dsimp only
            rw [List.set_append_right _ _ (by rw [ll']; exact Nat.le_refl _), ll', Nat.sub_self]
            rfl
          · refine ih (i + 1) fuel _ _ x' y' z' (by omega) (by omega) ?_
            refine (perm_insert ys xs[i] v).trans ?_
            rw [List.take_succ, List.getElem?_eq_getElem il]
            refine (hp.cons _).trans ?_
            exact (List.perm_append_singleton _ _).symm
theorem mixed_yes {A0 : AH} (B0 : Bag b c A0) {n : Nat} {xs : List AV} (hx : xs.length ≤ 500) (hA : A0[n]? = some (.lst xs)) (hn : n ≠ b) (lx : AV.liesA A0.length xs = true)
    (q : ∀ x y z (ys : List AV), ys.Perm xs → k (.ref A0.length) (A0.set b (bagO c x y z) ++ [.lst ys])) : Yes (f__law_mixed [.ref b, .ref n]) A0 k xx := by
  unfold f__law_mixed
  refine y_run ?_
  unfold r__law_mixed
  refine y_seq (y_set (y_lst (y_nil ⟨rfl, ?_⟩)))
  refine y_seq (y_bind (y_bind (y_var rfl ?_)))
  have hA' : (A0 ++ [AO.lst []])[n]? = some (.lst xs) := at_app hA
  refine y_lift (z := (xs.length + 1, fun i A => match A[n]? with
      | some (.lst ys) => some ys[i]?
      | _ => none)) (A' := A0 ++ [AO.lst []]) (by
    show (match (A0 ++ [AO.lst []])[n]? with
      | some (.lst xs) => some (((xs.length + 1, fun i A => match A[n]? with
        | some (.lst ys) => some ys[i]?
        | _ => none) : AIt), A0 ++ [AO.lst []])
      | _ => none) = _
    rw [hA']) ?_
  obtain ⟨x, y, z, bag⟩ := B0.bag
  have e0 : A0 = A0.set b (bagO c x y z) := by
    apply List.ext_getElem?
    intro i
    by_cases e : i = b
    · rw [e, List.getElem?_set_self B0.lb]; exact bag
    · rw [List.getElem?_set_ne (Ne.symm e)]
  have main := mix_loop (xx := xx) B0 hx hA hn lx (fun o A1 => match o with
    | .nx s1 => Yes (bRet (aVar 2) s1) A1 (fun o A1 => match o with
      | .rt v => k v A1
      | .nx _ => k .non A1
      | _ => False) xx
    | .rt v => k v A1
    | _ => False) (fun x y z ys o3 hp => y_ret (y_var rfl (q x y z ys hp))) xs.length 0 (xs.length + 1) none [] x y z (by omega) (by omega) (List.Perm.refl _)
  rw [← e0] at main
  refine main.mono (fun o A1 q1 => ?_) fun _ _ q => q
  cases o with
  | nx s1 => exact q1
  | rt v => exact q1
  | bk s1 => exact q1.elim
  | ct s1 => exact q1.elim
/-! ### the bag -/
theorem bag_loop {A : AH} {n : Nat} {cs : List Int} (hx : cs.length ≤ 500) (hA : A[n]? = some (.lst (cs.map AV.int))) (s : ASt) (hs : 1 < s.length) (kk : List AV → AH → Prop)
    (q : kk (cs.map fun i => AV.int (if i < 0 then -i else i)) A) :
    ∀ (r i fuel : Nat), i + r = cs.length → r < fuel → 
      Yes (loopC (fun i A => match A[n]? with
        | some (.lst ys) => some ys[i]?
        | _ => none) (cName 1) aYes (aCB gAbs (aCons (aVar 1) aNil)) s fuel i ((cs.take i).map fun i => AV.int (if i < 0 then -i else i))) A kk xx := by
  intro r
  induction r with
  | zero =>
    intro i fuel hi hf
    cases fuel with
    | zero => omega
    | succ fuel =>
      refine y_bind (y_get (z := none) ?_ (y_pure ?_))
      · dsimp only
        rw [hA]
        dsimp only
        rw [List.getElem?_eq_none (by rw [List.length_map]; omega)]
      · rw [List.take_of_length_le (by omega)]
        exact q
  | succ r ih =>
    intro i fuel hi hf
    cases fuel with
    | zero => omega
    | succ fuel =>
      have il : i < cs.length := by omega
      refine y_bind (y_get (z := some (.int cs[i])) ?_ ?_)
      · dsimp only
        rw [hA]
        dsimp only
        rw [List.getElem?_map, List.getElem?_eq_getElem il]
        rfl
      · refine y_bind (y_get (z := s.set 1 (some (.int cs[i]))) rfl (y_bind (y_nox (y_pure (y_bind (y_nox (y_cb (y_one (y_var (List.getElem?_set_self hs) ⟨_, _, rfl, y_bind (y_chk ?_ ?_)⟩)))))))))
        · rw [List.length_map, List.length_take]
          exact Nat.ble_eq_true_of_le (by omega)
        · have e : (cs.take i).map (fun i => AV.int (if i < 0 then -i else i)) ++ [AV.int (if cs[i] < 0 then -cs[i] else cs[i])] = (cs.take (i + 1)).map fun i => AV.int (if i < 0 then -i else i) := by
            rw [List.take_succ, List.getElem?_eq_getElem il, List.map_append]
            rfl
          rw [e]
          exact ih (i + 1) fuel (by omega) (by omega)
theorem bag_yes {t : AO} {ns : List Int} (hx : ns.length ≤ 63) (q : ∀ (ds cs : List Int), cs.length ≤ 63 → k (.ref 3) [t, .lst (ds.map AV.int), .lst (cs.map AV.int), bagO 2 0 1234567891 0]) : Yes (f__law_bag [.lsf (ns.map AV.int)]) [t] k xx := by
  unfold f__law_bag
  refine y_run ?_
  unfold r__law_bag
  obtain ⟨ds, hd⟩ := cut_int ns none (some 63)
  have hl : ds.length ≤ 63 := by
    have e : ds.length = (cutX (ns.map AV.int) none (some 63)).length := by rw [hd, List.length_map]
    rw [e]
    unfold cutX
    rw [List.length_take, List.length_drop, List.length_map]
    omega
  refine y_ret (y_lst (y_cons (y_c (y_cons (y_c (y_cons (y_c (y_one (y_bind (y_bind (y_sl (y_var rfl (y_noPart (y_part (y_c ⟨_, rfl, _, _, rfl, ?_⟩)))))))))))))))
  rw [hd]
  refine y_lift (z := (((ds.map AV.int).length + 1, fun (i : Nat) (A : AH) => match (A[1]? : Option AO) with
      | some (.lst ys) => some ys[i]?
      | _ => none) : AIt)) (A' := [t, .lst (ds.map AV.int)]) rfl ?_
  rw [List.length_map]
  refine y_bind (bag_loop (by omega) rfl _ (by show (1 : Nat) < 2; omega) _ ?_ ds.length 0 (ds.length + 1) (by omega) (by omega))
  refine y_lift rfl ?_
  refine ⟨rfl, ?_⟩
  have e : (ds.map fun i => AV.int (if i < 0 then -i else i)) = (ds.map fun i => if i < 0 then -i else i).map AV.int := by
    rw [List.map_map]
    rfl
  show k (.ref 3) [t, .lst (ds.map AV.int), .lst (ds.map fun i => AV.int (if i < 0 then -i else i)), bagO 2 0 1234567891 0]
  rw [e]
  exact q _ _ (by rw [List.length_map]; omega)
end
end K95

set_option Elab.async false
set_option linter.all false
set_option maxRecDepth 100000
set_option maxHeartbeats 0
/-! K95Q: what is seen. -/
namespace K95
open PySem PySem.Spec PyProof.Rows L2 AX
/-- a box's worth -/
def wo (a b c s t : Int) (x : Str) : Int := if strB x "a" then a else if strB x "b" then b else if strB x "c" then c else if strB x "s" then s else t
def five : List Str := ["a", "b", "c", "s", "t"]
def boxV (x : Str) : AV := .tup [tx "box", .int 0, .str x]
theorem ends_of {α : Type} {m : M α} {l : List Prop} {r : Except AExc α} (h : ends m = some (l, r)) : ∃ A', m [] = some (l, A', r) := by
  unfold ends at h
  split at h
  · rename_i l1 A1 r1 e
    cases h
    exact ⟨A1, e⟩
  · cases h
theorem gives_of {g : List AV → M AV} {xs : List AV} {v : AV} {l : List Prop} (h : ends (g xs) = some (l, .ok v)) (hl : ∀ p ∈ l, p) : Gives g xs v := by
  obtain ⟨A', e⟩ := ends_of h
  exact ⟨l, A', e, hl⟩
/-! what is seen -/
theorem ck0 (row a b c s t : Int) : ends (f_checked_sight [mom row a b c s t, sightV [] 0]) = some ([], .ok (sightV [] 0)) := by kernel_rfl
theorem ck0t (row a b c s t : Int) : ends (f_checked_sight [mom row a b c s t, sightV [] 1]) = some ([], .ok (sightV [] 1)) := by kernel_rfl
theorem ck1 (row a b c s t : Int) : ∀ x ∈ five, ends (f_checked_sight [mom row a b c s t, sightV [boxV x] 0]) = some ([], .ok (sightV [boxV x] 0)) := by
  intro x hx
  simp only [five, List.mem_cons, List.not_mem_nil, or_false] at hx
  rcases hx with rfl | rfl | rfl | rfl | rfl <;> kernel_rfl
theorem ck1t (row a b c s t : Int) : ∀ x ∈ five, ends (f_checked_sight [mom row a b c s t, sightV [boxV x] 1]) = some ([], .ok (sightV [boxV x] 1)) := by
  intro x hx
  simp only [five, List.mem_cons, List.not_mem_nil, or_false] at hx
  rcases hx with rfl | rfl | rfl | rfl | rfl <;> kernel_rfl
theorem ck2 (row a b c s t : Int) : ∀ x ∈ five, ∀ y ∈ five, x ≠ y → ends (f_checked_sight [mom row a b c s t, sightV [boxV x, boxV y] 0]) = some ([], .ok (sightV [boxV x, boxV y] 0)) := by
  intro x hx y hy ne
  simp only [five, List.mem_cons, List.not_mem_nil, or_false] at hx hy
  rcases hx with rfl | rfl | rfl | rfl | rfl <;> rcases hy with rfl | rfl | rfl | rfl | rfl <;> first | exact absurd rfl ne | kernel_rfl
theorem ck2t (row a b c s t : Int) : ∀ x ∈ five, ∀ y ∈ five, x ≠ y → ends (f_checked_sight [mom row a b c s t, sightV [boxV x, boxV y] 1]) = some ([], .ok (sightV [boxV x, boxV y] 1)) := by
  intro x hx y hy ne
  simp only [five, List.mem_cons, List.not_mem_nil, or_false] at hx hy
  rcases hx with rfl | rfl | rfl | rfl | rfl <;> rcases hy with rfl | rfl | rfl | rfl | rfl <;> first | exact absurd rfl ne | kernel_rfl
theorem sn0 (row a b c s t q : Int) : ends (f_seen_worths [mom row a b c s t, evs a b c s t q, sightV [] 0]) = some ([], .ok (.tup [])) := by kernel_rfl
theorem sn0t (row a b c s t q : Int) : ends (f_seen_worths [mom row a b c s t, evs a b c s t q, sightV [] 1]) = some ([], .ok (.tup [.int s, .int t])) := by kernel_rfl
theorem sn1 (row a b c s t q : Int) : ∀ x ∈ five, ends (f_seen_worths [mom row a b c s t, evs a b c s t q, sightV [boxV x] 0]) = some ([], .ok (.tup [.int (wo a b c s t x)])) := by
  intro x hx
  simp only [five, List.mem_cons, List.not_mem_nil, or_false] at hx
  rcases hx with rfl | rfl | rfl | rfl | rfl <;> kernel_rfl
theorem sn1t (row a b c s t q : Int) : ∀ x ∈ five, ends (f_seen_worths [mom row a b c s t, evs a b c s t q, sightV [boxV x] 1]) = some ([], .ok (.tup [.int (wo a b c s t x), .int s, .int t])) := by
  intro x hx
  simp only [five, List.mem_cons, List.not_mem_nil, or_false] at hx
  rcases hx with rfl | rfl | rfl | rfl | rfl <;> kernel_rfl
theorem sn2 (row a b c s t q : Int) : ∀ x ∈ five, ∀ y ∈ five, ends (f_seen_worths [mom row a b c s t, evs a b c s t q, sightV [boxV x, boxV y] 0]) = some ([], .ok (.tup [.int (wo a b c s t x), .int (wo a b c s t y)])) := by
  intro x hx y hy
  simp only [five, List.mem_cons, List.not_mem_nil, or_false] at hx hy
  rcases hx with rfl | rfl | rfl | rfl | rfl <;> rcases hy with rfl | rfl | rfl | rfl | rfl <;> kernel_rfl
theorem sn2t (row a b c s t q : Int) : ∀ x ∈ five, ∀ y ∈ five, ends (f_seen_worths [mom row a b c s t, evs a b c s t q, sightV [boxV x, boxV y] 1]) = some ([], .ok (.tup [.int (wo a b c s t x), .int (wo a b c s t y), .int s, .int t])) := by
  intro x hx y hy
  simp only [five, List.mem_cons, List.not_mem_nil, or_false] at hx hy
  rcases hx with rfl | rfl | rfl | rfl | rfl <;> rcases hy with rfl | rfl | rfl | rfl | rfl <;> kernel_rfl
theorem th_1 (row a b c s t : Int) : ∀ x ∈ five, ends (f_thing_worth [mom row a b c s t, .tup [tx "name", .int 0, .str x]]) = some ([], .ok (.int (wo a b c s t x))) := by
  intro x hx
  simp only [five, List.mem_cons, List.not_mem_nil, or_false] at hx
  rcases hx with rfl | rfl | rfl | rfl | rfl <;> kernel_rfl
end K95

set_option Elab.async false
set_option linter.all false
set_option maxRecDepth 100000
set_option maxHeartbeats 0
/-! K95R: what is_pair tells (printed by genr.py). -/
namespace K95
open PySem PySem.Spec PyProof.Rows L2 AX
theorem all_nil : ∀ p ∈ ([] : List Prop), p := nofun
theorem all_cons {p : Prop} {l : List Prop} (h : p) (t : ∀ q ∈ l, q) : ∀ q ∈ p :: l, q := fun q hq => by
  rcases List.mem_cons.mp hq with e | e
  · rw [e]; exact h
  · exact t q e
theorem all_app {l m : List Prop} (h : ∀ q ∈ l, q) (t : ∀ q ∈ m, q) : ∀ q ∈ l ++ m, q := fun q hq => (List.mem_append.mp hq).elim (h q) (t q)
theorem sm_of {x : Int} (h : -10000000 ≤ x ∧ x ≤ 10000000) : Sm x := by
  unfold Sm
  have h1 : x.natAbs ≤ 10000000 := by omega
  exact Nat.lt_of_le_of_lt h1 (by decide +kernel)
theorem sm_mix (n c : Int) : Sm (mixT n c) := by
  apply sm_of
  unfold mixT
  have h1 : 0 ≤ (37 * ((31 * (n % 1000003) + 15 + 1) % 1000003) + c + 1) % 1000003 := Int.emod_nonneg _ (by decide)
  have h2 : (37 * ((31 * (n % 1000003) + 15 + 1) % 1000003) + c + 1) % 1000003 < 1000003 := Int.emod_lt_of_pos _ (by decide)
  omega
theorem sm_sum (c : Int) : Sm (sumT c) := by
  apply sm_of
  unfold sumT lookN
  split
  · decide
  · unfold lookN
    split
    · decide
    · show (-10000000 : Int) ≤ 8 ∧ (8 : Int) ≤ 10000000
      decide
theorem eqX_ints (A : AH) (is js : List Int) (h1 : is.length ≤ 4) (h2 : js.length ≤ 4) : eqX A (.tup (is.map .int)) (.tup (js.map .int)) = some (decide (is = js)) := by
  have hd : ∀ ks : List Int, AV.ds (ks.map AV.int) = some (ks.map PyData.int) := by
    intro ks
    induction ks with
    | nil => rfl
    | cons k ks ih =>
      show (match AV.d (.int k), AV.ds (ks.map AV.int) with
        | some a, some b => some (a :: b)
        | _, _ => none) = _
      rw [ih]
      rfl
  have ht : ∀ ks : List Int, toD A (.tup (ks.map AV.int)) = some (.tuple (ks.map PyData.int)) := by
    intro ks
    show (AV.ds (ks.map AV.int)).map PyData.tuple = _
    rw [hd]
    rfl
  have hs : ∀ ks : List Int, ks.length ≤ 4 → SeqAt.shaped (.tuple (ks.map PyData.int)) = true := by
    intro ks hk
    match ks, hk with
    | [], _ => rfl
    | [a], _ => rfl
    | [a, b], _ => rfl
    | [a, b, c], _ => rfl
    | [a, b, c, d], _ => rfl
    | _ :: _ :: _ :: _ :: _ :: _, h => simp at h
  show (match toD A (.tup (is.map AV.int)), toD A (.tup (js.map AV.int)) with
    | some d, some e => match SeqAt.shaped d && SeqAt.shaped e with
      | true => some (PyData.eqv d e)
      | false => none
    | _, _ => none) = _
  rw [ht, ht]
  dsimp only
  rw [hs is h1, hs js h2]
  show some (PyData.eqv (.tuple (is.map PyData.int)) (.tuple (js.map PyData.int))) = _
  rw [PyData.eqv, PySem.W.ked_eqvAll]
theorem eqV_ints (is js : List Int) (h1 : is.length ≤ 4) (h2 : js.length ≤ 4) : eqV (.tup (is.map .int)) (.tup (js.map .int)) = decide (is = js) := by unfold AX.eqV; rw [eqX_ints [] is js h1 h2]
theorem eq2_ints (is js : List Int) (h1 : is.length ≤ 4) (h2 : js.length ≤ 4) : Eq2 (.tup (is.map .int)) (.tup (js.map .int)) := fun A => by rw [eqX_ints A is js h1 h2, eqV_ints is js h1 h2]
theorem eqV_int (i j : Int) : AX.eqV (.int i) (.int j) = decide (i = j) := rfl
theorem eq2_int (i j : Int) : Eq2 (.int i) (.int j) := fun A => rfl
theorem eqV_num (n n' : Int) : eqV (numM n) (numM n') = decide (n = n') := by
  have h : eqV (numM n) (numM n') = (("numbers" : Str) == "numbers" && (n == n' && true)) := by kernel_rfl
  rw [h, Bool.and_true, beq_self_eq_true, Bool.true_and]
  exact Bool.beq_eq_decide_eq n n'
theorem eqV_sum : eqV sumM sumM = true := by kernel_rfl
theorem eqV_sn (n : Int) : eqV sumM (numM n) = false := by kernel_rfl
theorem eqV_nt (n : Int) : eqV (numM n) tabM = false := by kernel_rfl
theorem eqV_st : eqV sumM tabM = false := by kernel_rfl
theorem eqV_11 : eqV (.tup [.int 1]) (.tup [.int 1]) = true := by kernel_rfl
theorem eqV_10 : eqV (.tup [.int 1]) (.tup [.int 0]) = false := by kernel_rfl
theorem valG_of {g : List AV → M AV} {xs : List AV} {v : AV} {l : List Prop} (h : ends (g xs) = some (l, .ok v)) : valG g xs = v := by
  obtain ⟨A', e⟩ := ends_of h
  unfold valG
  rw [e]
theorem purs2 {x y : AV} (h1 : x.pur = true) (h2 : y.pur = true) : AV.purs [x, y] = true := by
  unfold AV.purs; rw [h1]; unfold AV.purs; rw [h2]; rfl
theorem purs3 {x y z : AV} (h1 : x.pur = true) (h2 : y.pur = true) (h3 : z.pur = true) : AV.purs [x, y, z] = true := by
  unfold AV.purs; rw [h1]; exact purs2 h2 h3
theorem pur_ints : ∀ is : List Int, AV.pur (.tup (is.map AV.int)) = true := by
  intro is
  show AV.purs (is.map AV.int) = true
  induction is with
  | nil => rfl
  | cons k ks ih => exact ih
/-- a sight that can be seen, and what of -/
structure SeenOK (S : List AV) (d : Int) (L : List Str) : Prop where
  pur : (sightV S d).pur = true
  len : L.length ≤ 4
  ck : ∀ row a b c s t, ends (f_checked_sight [mom row a b c s t, sightV S d]) = some ([], .ok (sightV S d))
  sn : ∀ row a b c s t q, ends (f_seen_worths [mom row a b c s t, evs a b c s t q, sightV S d]) = some ([], .ok (.tup ((L.map (wo a b c s t)).map AV.int)))
def nameV (x : Str) : AV := .tup [tx "name", .int 0, .str x]
section
variable {S : List AV} {d : Int} {L : List Str} {x : Str} (O : SeenOK S d L) (hx : x ∈ five)
theorem SeenOK.ob (row a b c s t q : Int) (O : SeenOK S d L) (hx : x ∈ five) : ∀ p ∈ obS row a b c s t q (sightV S d) (nameV x), p := by
  unfold obS
  refine all_cons ⟨⟨purs2 rfl O.pur, rfl⟩, O.pur, gives_of (O.ck ..) nofun⟩ (all_cons ⟨⟨purs3 rfl rfl O.pur, rfl⟩, ?_, ?_⟩ (all_cons ⟨⟨purs2 rfl rfl, rfl⟩, ?_, ?_⟩ all_nil))
  · rw [valG_of (O.sn ..)]; exact pur_ints _
  · rw [valG_of (O.sn ..)]; exact gives_of (O.sn ..) nofun
  · rw [show valG f_thing_worth [mom row a b c s t, nameV x] = .int (wo a b c s t x) from valG_of (th_1 row a b c s t x hx)]; rfl
  · rw [show valG f_thing_worth [mom row a b c s t, nameV x] = .int (wo a b c s t x) from valG_of (th_1 row a b c s t x hx)]; exact gives_of (th_1 row a b c s t x hx) nofun
theorem SeenOK.sv (row a b c s t q : Int) (O : SeenOK S d L) : seenV row a b c s t q (sightV S d) = .tup ((L.map (wo a b c s t)).map AV.int) := valG_of (O.sn ..)
theorem tv_eq (row a b c s t : Int) (hx : x ∈ five) : thV row a b c s t (nameV x) = .int (wo a b c s t x) := valG_of (th_1 row a b c s t x hx)
end
/-- as the law's formula tells -/
def dueB (L : List Str) (x : Str) (f g : Str → Int) : Bool := decide (L.map f = L.map g) && !decide (f x = g x)
theorem dueB_comm (L : List Str) (x : Str) (f g : Str → Int) : dueB L x f g = dueB L x g f := by
  unfold dueB
  have e1 : decide (L.map f = L.map g) = decide (L.map g = L.map f) := decide_eq_decide.mpr eq_comm
  have e2 : decide (f x = g x) = decide (g x = f x) := decide_eq_decide.mpr eq_comm
  rw [e1, e2]
theorem pairB_of {w : PySem.World} {xs : List AV} {b : Bool} {l : List Prop} (h : ends (f_is_pairO w xs) = some (l, .ok (.bl b))) : pairB w xs = b := by
  obtain ⟨A', e⟩ := ends_of h
  unfold pairB
  rw [e]
theorem lenM {L : List Str} {f : Str → Int} (h : L.length ≤ 4) : (L.map f).length ≤ 4 := by rw [List.length_map]; exact h
section
variable (w : PySem.World) {n n' a b c a' b' c' d : Int} {S : List AV} {L : List Str} {x : Str}
  (ha : -1000 ≤ a ∧ a ≤ 1000) (hb : -1000 ≤ b ∧ b ≤ 1000) (hc : -1000 ≤ c ∧ c ≤ 1000) (ha' : -1000 ≤ a' ∧ a' ≤ 1000) (hb' : -1000 ≤ b' ∧ b' ≤ 1000) (hc' : -1000 ≤ c' ∧ c' ≤ 1000) (hn : -1000 ≤ n ∧ n ≤ 1000) (hn' : -1000 ≤ n' ∧ n' ≤ 1000)
  (O : SeenOK S d L) (hx : x ∈ five)

include ha hb hc ha' hb' hc' hn hn' O hx
theorem q_n33 : ∃ l, ends (f_is_pairO w [buildT, .int 7, sightV S d, .int 7, nameV x, wld (numM n) [.int a, .int b, .int c] [.int 1], (wld (numM n') [.int a', .int b', .int c'] [.int 1])]) = some (l, .ok (.bl ((!((!eqV (numM n) (numM n')) || (false || !eqV (.tup [.int 1]) (.tup [.int 1])))) && (decide (L.map (wo a b c (a + b) (mixT n c)) = L.map (wo a' b' c' (a' + b') (mixT n' c'))) && !decide ((wo a b c (a + b) (mixT n c)) x = (wo a' b' c' (a' + b') (mixT n' c')) x))))) ∧ ∀ p ∈ l, p := by
  have h := p_n33 w n n' a b c a' b' c' d S (nameV x)
  have s1 := O.sv 7 a b c (a + b) (mixT n c) 1
  have s2 := O.sv 7 a' b' c' (a' + b') (mixT n' c') 1
  have t1 := tv_eq 7 a b c (a + b) (mixT n c) hx
  have t2 := tv_eq 7 a' b' c' (a' + b') (mixT n' c') hx
  rw [s1, s2, t1, t2, eqV_ints _ _ (lenM O.len) (lenM O.len), eqV_int] at h
  refine ⟨_, h, all_app (all_app (all_app ?_ (O.ob _ _ _ _ _ _ _ hx)) (O.ob _ _ _ _ _ _ _ hx)) (all_cons (eq2_ints _ _ (lenM O.len) (lenM O.len)) (all_cons (eq2_int _ _) all_nil))⟩
  repeat (first | exact all_nil | (refine all_cons (by first | exact rfl | exact sm_mix _ _ | exact sm_sum _ | exact sm_of (by omega)) ?_))
theorem q_n34 : ∃ l, ends (f_is_pairO w [buildT, .int 7, sightV S d, .int 7, nameV x, wld (numM n) [.int a, .int b, .int c] [.int 1], (wld (numM n') [.int a', .int b', .int c', .int 5] [.int 1])]) = some (l, .ok (.bl ((!((!eqV (numM n) (numM n')) || (false || !eqV (.tup [.int 1]) (.tup [.int 1])))) && (decide (L.map (wo a b c (a + b) (mixT n c)) = L.map (wo a' b' c' (a' + b') (mixT n' c'))) && !decide ((wo a b c (a + b) (mixT n c)) x = (wo a' b' c' (a' + b') (mixT n' c')) x))))) ∧ ∀ p ∈ l, p := by
  have h := p_n34 w n n' a b c a' b' c' d S (nameV x)
  have s1 := O.sv 7 a b c (a + b) (mixT n c) 1
  have s2 := O.sv 7 a' b' c' (a' + b') (mixT n' c') 1
  have t1 := tv_eq 7 a b c (a + b) (mixT n c) hx
  have t2 := tv_eq 7 a' b' c' (a' + b') (mixT n' c') hx
  rw [s1, s2, t1, t2, eqV_ints _ _ (lenM O.len) (lenM O.len), eqV_int] at h
  refine ⟨_, h, all_app (all_app (all_app ?_ (O.ob _ _ _ _ _ _ _ hx)) (O.ob _ _ _ _ _ _ _ hx)) (all_cons (eq2_ints _ _ (lenM O.len) (lenM O.len)) (all_cons (eq2_int _ _) all_nil))⟩
  repeat (first | exact all_nil | (refine all_cons (by first | exact rfl | exact sm_mix _ _ | exact sm_sum _ | exact sm_of (by omega)) ?_))
theorem q_n0 : ∃ l, ends (f_is_pairO w [buildT, .int 7, sightV S d, .int 7, nameV x, wld (numM n) [.int a, .int b, .int c] [.int 1], (wld (numM n') [.int a', .int b', .int c'] [.int 0])]) = some (l, .ok (.bl ((!((!eqV (numM n) (numM n')) || (false || !eqV (.tup [.int 1]) (.tup [.int 0])))) && (decide (L.map (wo a b c (a + b) (mixT n c)) = L.map (wo a' b' c' (a' + b') (mixT n' c'))) && !decide ((wo a b c (a + b) (mixT n c)) x = (wo a' b' c' (a' + b') (mixT n' c')) x))))) ∧ ∀ p ∈ l, p := by
  have h := p_n0 w n n' a b c a' b' c' d S (nameV x)
  have s1 := O.sv 7 a b c (a + b) (mixT n c) 1
  have s2 := O.sv 6 a' b' c' (a' + b') (mixT n' c') 0
  have t1 := tv_eq 7 a b c (a + b) (mixT n c) hx
  have t2 := tv_eq 6 a' b' c' (a' + b') (mixT n' c') hx
  rw [s1, s2, t1, t2, eqV_ints _ _ (lenM O.len) (lenM O.len), eqV_int] at h
  refine ⟨_, h, all_app (all_app (all_app ?_ (O.ob _ _ _ _ _ _ _ hx)) (O.ob _ _ _ _ _ _ _ hx)) (all_cons (eq2_ints _ _ (lenM O.len) (lenM O.len)) (all_cons (eq2_int _ _) all_nil))⟩
  repeat (first | exact all_nil | (refine all_cons (by first | exact rfl | exact sm_mix _ _ | exact sm_sum _ | exact sm_of (by omega)) ?_))
theorem q_nt : ∃ l, ends (f_is_pairO w [buildT, .int 7, sightV S d, .int 7, nameV x, wld (numM n) [.int a, .int b, .int c] [.int 1], (wld tabM [.int a', .int b', .int c'] [.int 1])]) = some (l, .ok (.bl ((!((!eqV (numM n) tabM) || (false || !eqV (.tup [.int 1]) (.tup [.int 1])))) && (decide (L.map (wo a b c (a + b) (mixT n c)) = L.map (wo a' b' c' 0 0)) && !decide ((wo a b c (a + b) (mixT n c)) x = (wo a' b' c' 0 0) x))))) ∧ ∀ p ∈ l, p := by
  have h := p_nt w n n' a b c a' b' c' d S (nameV x)
  have s1 := O.sv 7 a b c (a + b) (mixT n c) 1
  have s2 := O.sv 7 a' b' c' 0 0 1
  have t1 := tv_eq 7 a b c (a + b) (mixT n c) hx
  have t2 := tv_eq 7 a' b' c' 0 0 hx
  rw [s1, s2, t1, t2, eqV_ints _ _ (lenM O.len) (lenM O.len), eqV_int] at h
  refine ⟨_, h, all_app (all_app (all_app ?_ (O.ob _ _ _ _ _ _ _ hx)) (O.ob _ _ _ _ _ _ _ hx)) (all_cons (eq2_ints _ _ (lenM O.len) (lenM O.len)) (all_cons (eq2_int _ _) all_nil))⟩
  repeat (first | exact all_nil | (refine all_cons (by first | exact rfl | exact sm_mix _ _ | exact sm_sum _ | exact sm_of (by omega)) ?_))
theorem q_ndry : ∃ l, ends (f_is_pairO w [buildT, .int 7, sightV S d, .int 7, nameV x, wld (numM n) [.int a, .int b, .int c] [.int 1], wld (numM n') [.int a', .int b'] [.int 1]]) = some (l, .ok (.bl false)) ∧ ∀ p ∈ l, p := by
  refine ⟨_, p_ndry w n n' a b c a' b' c' d S (nameV x), ?_⟩
  repeat (first | exact all_nil | (refine all_cons (by first | exact rfl | exact sm_mix _ _ | exact sm_sum _ | exact sm_of (by omega)) ?_))
theorem q_nans : ∃ l, ends (f_is_pairO w [buildT, .int 7, sightV S d, .int 7, nameV x, wld (numM n) [.int a, .int b, .int c] [], wld (numM n') [.int a', .int b', .int c'] [.int 1]]) = some (l, .ok (.bl false)) ∧ ∀ p ∈ l, p := by
  refine ⟨_, p_nans w n n' a b c a' b' c' d S (nameV x), ?_⟩
  repeat (first | exact all_nil | (refine all_cons (by first | exact rfl | exact sm_mix _ _ | exact sm_sum _ | exact sm_of (by omega)) ?_))
theorem q_nnon : ∃ l, ends (f_is_pairO w [buildT, .int 7, sightV S d, .int 7, nameV x, wld (numM n) [.int a, .int b, .int c] [.int 1], .non]) = some (l, .ok (.bl false)) ∧ ∀ p ∈ l, p := by
  refine ⟨_, p_nnon w n n' a b c a' b' c' d S (nameV x), ?_⟩
  repeat (first | exact all_nil | (refine all_cons (by first | exact rfl | exact sm_mix _ _ | exact sm_sum _ | exact sm_of (by omega)) ?_))
theorem q_nfour : ∃ l, ends (f_is_pairO w [buildT, .int 7, sightV S d, .int 7, nameV x, wld (numM n) [.int a, .int b, .int c] [.int 1], .tup [(numM n'), .tup [.int a', .int b', .int c'], .tup [.int 1], .int 1]]) = some (l, .ok (.bl false)) ∧ ∀ p ∈ l, p := by
  refine ⟨_, p_nfour w n n' a b c a' b' c' d S (nameV x), ?_⟩
  repeat (first | exact all_nil | (refine all_cons (by first | exact rfl | exact sm_mix _ _ | exact sm_sum _ | exact sm_of (by omega)) ?_))
theorem q_nnine : ∃ l, ends (f_is_pairO w [buildT, .int 9, sightV S d, .int 7, nameV x, wld (numM n) [.int a, .int b, .int c] [.int 1], wld (numM n') [.int a', .int b', .int c'] [.int 1]]) = some (l, .ok (.bl false)) ∧ ∀ p ∈ l, p := by
  refine ⟨_, p_nnine w n n' a b c a' b' c' d S (nameV x), ?_⟩
  repeat (first | exact all_nil | (refine all_cons (by first | exact rfl | exact sm_mix _ _ | exact sm_sum _ | exact sm_of (by omega)) ?_))
theorem q_nneg : ∃ l, ends (f_is_pairO w [buildT, .int 7, sightV S d, .int (-1), nameV x, wld (numM n) [.int a, .int b, .int c] [.int 1], wld (numM n') [.int a', .int b', .int c'] [.int 1]]) = some (l, .ok (.bl false)) ∧ ∀ p ∈ l, p := by
  refine ⟨_, p_nneg w n n' a b c a' b' c' d S (nameV x), ?_⟩
  repeat (first | exact all_nil | (refine all_cons (by first | exact rfl | exact sm_mix _ _ | exact sm_sum _ | exact sm_of (by omega)) ?_))
theorem q_ntrue : ∃ l, ends (f_is_pairO w [buildT, .bl true, sightV S d, .int 7, nameV x, wld (numM n) [.int a, .int b, .int c] [.int 1], wld (numM n') [.int a', .int b', .int c'] [.int 1]]) = some (l, .ok (.bl false)) ∧ ∀ p ∈ l, p := by
  refine ⟨_, p_ntrue w n n' a b c a' b' c' d S (nameV x), ?_⟩
  repeat (first | exact all_nil | (refine all_cons (by first | exact rfl | exact sm_mix _ _ | exact sm_sum _ | exact sm_of (by omega)) ?_))
theorem q_nzz : ∃ l, ends (f_is_pair w [buildT, .int 7, sightV [.tup [tx "box", .int 0, tx "zz"]] 0, .int 7, nameV x, wld (numM n) [.int a, .int b, .int c] [.int 1], wld (numM n') [.int a', .int b', .int c'] [.int 1]]) = some (l, .error zzE) ∧ ∀ p ∈ l, p := by
  refine ⟨_, p_nzz w n n' a b c a' b' c' d S (nameV x), ?_⟩
  repeat (first | exact all_nil | (refine all_cons (by first | exact rfl | exact sm_mix _ _ | exact sm_sum _ | exact sm_of (by omega)) ?_))
theorem q_s33 : ∃ l, ends (f_is_pairO w [buildT, .int 7, sightV S d, .int 7, nameV x, wld sumM [.int a, .int b, .int c] [.int 1], (wld sumM [.int a', .int b', .int c'] [.int 1])]) = some (l, .ok (.bl ((!((!eqV sumM sumM) || (false || !eqV (.tup [.int 1]) (.tup [.int 1])))) && (decide (L.map (wo a b c (a + b) (sumT c)) = L.map (wo a' b' c' (a' + b') (sumT c'))) && !decide ((wo a b c (a + b) (sumT c)) x = (wo a' b' c' (a' + b') (sumT c')) x))))) ∧ ∀ p ∈ l, p := by
  have h := p_s33 w n n' a b c a' b' c' d S (nameV x)
  have s1 := O.sv 7 a b c (a + b) (sumT c) 1
  have s2 := O.sv 7 a' b' c' (a' + b') (sumT c') 1
  have t1 := tv_eq 7 a b c (a + b) (sumT c) hx
  have t2 := tv_eq 7 a' b' c' (a' + b') (sumT c') hx
  rw [s1, s2, t1, t2, eqV_ints _ _ (lenM O.len) (lenM O.len), eqV_int] at h
  refine ⟨_, h, all_app (all_app (all_app ?_ (O.ob _ _ _ _ _ _ _ hx)) (O.ob _ _ _ _ _ _ _ hx)) (all_cons (eq2_ints _ _ (lenM O.len) (lenM O.len)) (all_cons (eq2_int _ _) all_nil))⟩
  repeat (first | exact all_nil | (refine all_cons (by first | exact rfl | exact sm_mix _ _ | exact sm_sum _ | exact sm_of (by omega)) ?_))
theorem q_s34 : ∃ l, ends (f_is_pairO w [buildT, .int 7, sightV S d, .int 7, nameV x, wld sumM [.int a, .int b, .int c] [.int 1], (wld sumM [.int a', .int b', .int c', .int 5] [.int 1])]) = some (l, .ok (.bl ((!((!eqV sumM sumM) || (false || !eqV (.tup [.int 1]) (.tup [.int 1])))) && (decide (L.map (wo a b c (a + b) (sumT c)) = L.map (wo a' b' c' (a' + b') (sumT c'))) && !decide ((wo a b c (a + b) (sumT c)) x = (wo a' b' c' (a' + b') (sumT c')) x))))) ∧ ∀ p ∈ l, p := by
  have h := p_s34 w n n' a b c a' b' c' d S (nameV x)
  have s1 := O.sv 7 a b c (a + b) (sumT c) 1
  have s2 := O.sv 7 a' b' c' (a' + b') (sumT c') 1
  have t1 := tv_eq 7 a b c (a + b) (sumT c) hx
  have t2 := tv_eq 7 a' b' c' (a' + b') (sumT c') hx
  rw [s1, s2, t1, t2, eqV_ints _ _ (lenM O.len) (lenM O.len), eqV_int] at h
  refine ⟨_, h, all_app (all_app (all_app ?_ (O.ob _ _ _ _ _ _ _ hx)) (O.ob _ _ _ _ _ _ _ hx)) (all_cons (eq2_ints _ _ (lenM O.len) (lenM O.len)) (all_cons (eq2_int _ _) all_nil))⟩
  repeat (first | exact all_nil | (refine all_cons (by first | exact rfl | exact sm_mix _ _ | exact sm_sum _ | exact sm_of (by omega)) ?_))
theorem q_s0 : ∃ l, ends (f_is_pairO w [buildT, .int 7, sightV S d, .int 7, nameV x, wld sumM [.int a, .int b, .int c] [.int 1], (wld sumM [.int a', .int b', .int c'] [.int 0])]) = some (l, .ok (.bl ((!((!eqV sumM sumM) || (false || !eqV (.tup [.int 1]) (.tup [.int 0])))) && (decide (L.map (wo a b c (a + b) (sumT c)) = L.map (wo a' b' c' (a' + b') (sumT c'))) && !decide ((wo a b c (a + b) (sumT c)) x = (wo a' b' c' (a' + b') (sumT c')) x))))) ∧ ∀ p ∈ l, p := by
  have h := p_s0 w n n' a b c a' b' c' d S (nameV x)
  have s1 := O.sv 7 a b c (a + b) (sumT c) 1
  have s2 := O.sv 6 a' b' c' (a' + b') (sumT c') 0
  have t1 := tv_eq 7 a b c (a + b) (sumT c) hx
  have t2 := tv_eq 6 a' b' c' (a' + b') (sumT c') hx
  rw [s1, s2, t1, t2, eqV_ints _ _ (lenM O.len) (lenM O.len), eqV_int] at h
  refine ⟨_, h, all_app (all_app (all_app ?_ (O.ob _ _ _ _ _ _ _ hx)) (O.ob _ _ _ _ _ _ _ hx)) (all_cons (eq2_ints _ _ (lenM O.len) (lenM O.len)) (all_cons (eq2_int _ _) all_nil))⟩
  repeat (first | exact all_nil | (refine all_cons (by first | exact rfl | exact sm_mix _ _ | exact sm_sum _ | exact sm_of (by omega)) ?_))
theorem q_st : ∃ l, ends (f_is_pairO w [buildT, .int 7, sightV S d, .int 7, nameV x, wld sumM [.int a, .int b, .int c] [.int 1], (wld tabM [.int a', .int b', .int c'] [.int 1])]) = some (l, .ok (.bl ((!((!eqV sumM tabM) || (false || !eqV (.tup [.int 1]) (.tup [.int 1])))) && (decide (L.map (wo a b c (a + b) (sumT c)) = L.map (wo a' b' c' 0 0)) && !decide ((wo a b c (a + b) (sumT c)) x = (wo a' b' c' 0 0) x))))) ∧ ∀ p ∈ l, p := by
  have h := p_st w n n' a b c a' b' c' d S (nameV x)
  have s1 := O.sv 7 a b c (a + b) (sumT c) 1
  have s2 := O.sv 7 a' b' c' 0 0 1
  have t1 := tv_eq 7 a b c (a + b) (sumT c) hx
  have t2 := tv_eq 7 a' b' c' 0 0 hx
  rw [s1, s2, t1, t2, eqV_ints _ _ (lenM O.len) (lenM O.len), eqV_int] at h
  refine ⟨_, h, all_app (all_app (all_app ?_ (O.ob _ _ _ _ _ _ _ hx)) (O.ob _ _ _ _ _ _ _ hx)) (all_cons (eq2_ints _ _ (lenM O.len) (lenM O.len)) (all_cons (eq2_int _ _) all_nil))⟩
  repeat (first | exact all_nil | (refine all_cons (by first | exact rfl | exact sm_mix _ _ | exact sm_sum _ | exact sm_of (by omega)) ?_))
theorem q_sn : ∃ l, ends (f_is_pairO w [buildT, .int 7, sightV S d, .int 7, nameV x, wld sumM [.int a, .int b, .int c] [.int 1], (wld (numM n') [.int a', .int b', .int c'] [.int 1])]) = some (l, .ok (.bl ((!((!eqV sumM (numM n')) || (false || !eqV (.tup [.int 1]) (.tup [.int 1])))) && (decide (L.map (wo a b c (a + b) (sumT c)) = L.map (wo a' b' c' (a' + b') (mixT n' c'))) && !decide ((wo a b c (a + b) (sumT c)) x = (wo a' b' c' (a' + b') (mixT n' c')) x))))) ∧ ∀ p ∈ l, p := by
  have h := p_sn w n n' a b c a' b' c' d S (nameV x)
  have s1 := O.sv 7 a b c (a + b) (sumT c) 1
  have s2 := O.sv 7 a' b' c' (a' + b') (mixT n' c') 1
  have t1 := tv_eq 7 a b c (a + b) (sumT c) hx
  have t2 := tv_eq 7 a' b' c' (a' + b') (mixT n' c') hx
  rw [s1, s2, t1, t2, eqV_ints _ _ (lenM O.len) (lenM O.len), eqV_int] at h
  refine ⟨_, h, all_app (all_app (all_app ?_ (O.ob _ _ _ _ _ _ _ hx)) (O.ob _ _ _ _ _ _ _ hx)) (all_cons (eq2_ints _ _ (lenM O.len) (lenM O.len)) (all_cons (eq2_int _ _) all_nil))⟩
  repeat (first | exact all_nil | (refine all_cons (by first | exact rfl | exact sm_mix _ _ | exact sm_sum _ | exact sm_of (by omega)) ?_))
theorem q_sdry : ∃ l, ends (f_is_pairO w [buildT, .int 7, sightV S d, .int 7, nameV x, wld sumM [.int a, .int b, .int c] [.int 1], wld sumM [.int a', .int b'] [.int 1]]) = some (l, .ok (.bl false)) ∧ ∀ p ∈ l, p := by
  refine ⟨_, p_sdry w n n' a b c a' b' c' d S (nameV x), ?_⟩
  repeat (first | exact all_nil | (refine all_cons (by first | exact rfl | exact sm_mix _ _ | exact sm_sum _ | exact sm_of (by omega)) ?_))
theorem q_sans : ∃ l, ends (f_is_pairO w [buildT, .int 7, sightV S d, .int 7, nameV x, wld sumM [.int a, .int b, .int c] [], wld sumM [.int a', .int b', .int c'] [.int 1]]) = some (l, .ok (.bl false)) ∧ ∀ p ∈ l, p := by
  refine ⟨_, p_sans w n n' a b c a' b' c' d S (nameV x), ?_⟩
  repeat (first | exact all_nil | (refine all_cons (by first | exact rfl | exact sm_mix _ _ | exact sm_sum _ | exact sm_of (by omega)) ?_))
theorem q_snon : ∃ l, ends (f_is_pairO w [buildT, .int 7, sightV S d, .int 7, nameV x, wld sumM [.int a, .int b, .int c] [.int 1], .non]) = some (l, .ok (.bl false)) ∧ ∀ p ∈ l, p := by
  refine ⟨_, p_snon w n n' a b c a' b' c' d S (nameV x), ?_⟩
  repeat (first | exact all_nil | (refine all_cons (by first | exact rfl | exact sm_mix _ _ | exact sm_sum _ | exact sm_of (by omega)) ?_))
theorem q_sfour : ∃ l, ends (f_is_pairO w [buildT, .int 7, sightV S d, .int 7, nameV x, wld sumM [.int a, .int b, .int c] [.int 1], .tup [sumM, .tup [.int a', .int b', .int c'], .tup [.int 1], .int 1]]) = some (l, .ok (.bl false)) ∧ ∀ p ∈ l, p := by
  refine ⟨_, p_sfour w n n' a b c a' b' c' d S (nameV x), ?_⟩
  repeat (first | exact all_nil | (refine all_cons (by first | exact rfl | exact sm_mix _ _ | exact sm_sum _ | exact sm_of (by omega)) ?_))
theorem q_snine : ∃ l, ends (f_is_pairO w [buildT, .int 9, sightV S d, .int 7, nameV x, wld sumM [.int a, .int b, .int c] [.int 1], wld sumM [.int a', .int b', .int c'] [.int 1]]) = some (l, .ok (.bl false)) ∧ ∀ p ∈ l, p := by
  refine ⟨_, p_snine w n n' a b c a' b' c' d S (nameV x), ?_⟩
  repeat (first | exact all_nil | (refine all_cons (by first | exact rfl | exact sm_mix _ _ | exact sm_sum _ | exact sm_of (by omega)) ?_))
theorem q_sneg : ∃ l, ends (f_is_pairO w [buildT, .int 7, sightV S d, .int (-1), nameV x, wld sumM [.int a, .int b, .int c] [.int 1], wld sumM [.int a', .int b', .int c'] [.int 1]]) = some (l, .ok (.bl false)) ∧ ∀ p ∈ l, p := by
  refine ⟨_, p_sneg w n n' a b c a' b' c' d S (nameV x), ?_⟩
  repeat (first | exact all_nil | (refine all_cons (by first | exact rfl | exact sm_mix _ _ | exact sm_sum _ | exact sm_of (by omega)) ?_))
theorem q_strue : ∃ l, ends (f_is_pairO w [buildT, .bl true, sightV S d, .int 7, nameV x, wld sumM [.int a, .int b, .int c] [.int 1], wld sumM [.int a', .int b', .int c'] [.int 1]]) = some (l, .ok (.bl false)) ∧ ∀ p ∈ l, p := by
  refine ⟨_, p_strue w n n' a b c a' b' c' d S (nameV x), ?_⟩
  repeat (first | exact all_nil | (refine all_cons (by first | exact rfl | exact sm_mix _ _ | exact sm_sum _ | exact sm_of (by omega)) ?_))
theorem q_szz : ∃ l, ends (f_is_pair w [buildT, .int 7, sightV [.tup [tx "box", .int 0, tx "zz"]] 0, .int 7, nameV x, wld sumM [.int a, .int b, .int c] [.int 1], wld sumM [.int a', .int b', .int c'] [.int 1]]) = some (l, .error zzE) ∧ ∀ p ∈ l, p := by
  refine ⟨_, p_szz w n n' a b c a' b' c' d S (nameV x), ?_⟩
  repeat (first | exact all_nil | (refine all_cons (by first | exact rfl | exact sm_mix _ _ | exact sm_sum _ | exact sm_of (by omega)) ?_))
end
end K95

set_option Elab.async false
set_option linter.all false
set_option maxRecDepth 100000
set_option maxHeartbeats 0
/-! K95L: the law's own run (printed by genl.py). -/
namespace K95
open PySem PySem.Spec PyProof.Rows L2 AX

def lw26 (w : PySem.World) (T : Addr) : ASt → M AOut := (bRet (aBin gEq (aAsk T qLam 0 (aCallOX 7 (f_is_pair w) zzE (aCons (aVar 3) (aCons (aC (.int 7)) (aCons (aTup (aCons (aTup (aCons (aTup (aCons (aC (.str "box")) (aCons (aC (.int 0)) (aCons (aC (.str "zz")) aNil)))) aNil)) (aCons (aC (.int 0)) (aCons (aC (.str "whole")) aNil)))) (aCons (aC (.int 7)) (aCons (aVar 19) (aCons (aVar 9) (aCons (aVar 10) aNil))))))))) (aC (.str "unset"))))
def lw25 (w : PySem.World) (T : Addr) : ASt → M AOut := bSeq (bIf (aVal (aBin gNe (aVar 25) (aLst (aCons (aTup (aCons (aC (.str "moments")) (aCons (aC (.int 20000)) aNil))) (aCons (aTup (aCons (aC (.str "moments")) (aCons (aC (.int 20000)) aNil))) (aCons (aC (.bl false)) (aCons (aC (.bl false)) (aCons (aC (.bl false)) aNil)))))))) (bRet (aC (.bl false))) bNext) (lw26 w T)
def lw24 (w : PySem.World) (T : Addr) : ASt → M AOut := bSeq (bSet 25 (aLc (aIt (aVar 24)) (cTup 2 (cCons (cName 30) (cCons (cName 31) cNil))) aYes (aAsk T qLam 0 (aCallR 7 (f_is_pair w) (aCons (aVar 3) (aCons (aVar 30) (aCons (aVar 18) (aCons (aVar 31) (aCons (aVar 19) (aCons (aC .non) (aCons (aC .non) aNil))))))))) [30, 31])) (lw25 w T)
def lw23 (w : PySem.World) (T : Addr) : ASt → M AOut := bSeq (bSet 24 (aLst (aCons (aTup (aCons (aC (.int 20001)) (aCons (aC (.int 7)) aNil))) (aCons (aTup (aCons (aC (.int 7)) (aCons (aC (.int 20001)) aNil))) (aCons (aTup (aCons (aC (.int 20000)) (aCons (aC (.int 7)) aNil))) (aCons (aTup (aCons (aUn gNeg (aC (.int 1))) (aCons (aC (.int 20001)) aNil))) (aCons (aTup (aCons (aC (.int 7)) (aCons (aUn gNeg (aC (.int 1))) aNil))) aNil))))))) (lw24 w T)
def lw22 (w : PySem.World) (T : Addr) : ASt → M AOut := bSeq (bIf (aOr (aVal (aBin gIsNot (aCallK 7 (f_is_pairO w) (.bl false) (aCons (aVar 3) (aCons (aC (.int 7)) (aCons (aVar 18) (aCons (aUn gNeg (aC (.int 1))) (aCons (aVar 19) (aCons (aVar 9) (aCons (aVar 10) aNil)))))))) (aC (.bl false)))) (aVal (aBin gIsNot (aCallK 7 (f_is_pairO w) (.bl false) (aCons (aVar 3) (aCons (aC (.bl true)) (aCons (aVar 18) (aCons (aC (.int 7)) (aCons (aVar 19) (aCons (aVar 9) (aCons (aVar 10) aNil)))))))) (aC (.bl false))))) (bRet (aC (.bl false))) bNext) (lw23 w T)
def lw21 (w : PySem.World) (T : Addr) : ASt → M AOut := bSeq (bIf (aVal (aBin gIsNot (aCallK 7 (f_is_pairO w) (.bl false) (aCons (aVar 3) (aCons (aC (.int 9)) (aCons (aVar 18) (aCons (aC (.int 7)) (aCons (aVar 19) (aCons (aVar 9) (aCons (aVar 10) aNil)))))))) (aC (.bl false)))) (bRet (aC (.bl false))) bNext) (lw22 w T)
def lw20 (w : PySem.World) (T : Addr) : ASt → M AOut := bSeq (bIf (aVal (aBin gNe (aLc (aIt (aVar 23)) (cName 29) (aVal (aBin gIsNot (aCallK 7 (f_is_pairO w) (.bl false) (aCons (aVar 3) (aCons (aC (.int 7)) (aCons (aVar 18) (aCons (aC (.int 7)) (aCons (aVar 19) (aCons (aBin gIx (aVar 29) (aC (.int 0))) (aCons (aBin gIx (aVar 29) (aC (.int 1))) aNil)))))))) (aC (.bl false)))) (aVar 29) [29]) (aLst aNil))) (bRet (aC (.bl false))) bNext) (lw21 w T)
def lw19 (w : PySem.World) (T : Addr) : ASt → M AOut := bSeq (bDrop (aMt isLst gExtend (aVar 23) (aCons (aLst (aCons (aTup (aCons (aVar 9) (aCons (aTup (aCons (aTup (aCons (aC (.str "numbers")) (aCons (aC (.int 99)) aNil))) (aCons (aCB gTuple (aCons (aVar 8) aNil)) (aCons (aTup (aCons (aC (.int 1)) aNil)) aNil)))) aNil))) (aCons (aTup (aCons (aCB gList (aCons (aVar 9) aNil)) (aCons (aVar 10) aNil))) (aCons (aTup (aCons (aVar 9) (aCons (aBin gAdd (aVar 10) (aTup (aCons (aC (.int 1)) aNil))) aNil))) (aCons (aTup (aCons (aVar 9) (aCons (aTup (aCons (aTup (aCons (aC (.str "table")) (aCons (aTup aNil) (aCons (aC (.int 0)) aNil)))) (aCons (aCB gTuple (aCons (aVar 8) aNil)) (aCons (aTup (aCons (aC (.int 1)) aNil)) aNil)))) aNil))) aNil))))) aNil))) (lw20 w T)
def lw18 (w : PySem.World) (T : Addr) : ASt → M AOut := bSeq (bSet 23 (aLst (aCons (aTup (aCons (aVar 9) (aCons (aTup (aCons (aVar 5) (aCons (aCB gTuple (aCons (aVar 8) aNil)) (aCons (aTup (aCons (aC (.int 0)) aNil)) aNil)))) aNil))) (aCons (aTup (aCons (aVar 9) (aCons (aTup (aCons (aVar 5) (aCons (aCB gTuple (aCons (aSl (aVar 8) aNoPart (aPart (aC (.int 2)))) aNil)) (aCons (aTup (aCons (aC (.int 1)) aNil)) aNil)))) aNil))) (aCons (aTup (aCons (aTup (aCons (aVar 5) (aCons (aCB gTuple (aCons (aVar 6) aNil)) (aCons (aTup aNil) aNil)))) (aCons (aVar 10) aNil))) (aCons (aTup (aCons (aVar 9) (aCons (aC .non) aNil))) aNil)))))) (lw19 w T)
def lw17 (w : PySem.World) (T : Addr) : ASt → M AOut := bSeq (bIf (aNot (aVal (aCall 2 v__law_alike (aCons (aLc (aIt (aTup (aCons (aTup (aCons (aVar 9) (aCons (aVar 10) aNil))) (aCons (aTup (aCons (aVar 10) (aCons (aVar 9) aNil))) (aCons (aTup (aCons (aVar 9) (aCons (aVar 22) aNil))) aNil))))) (cTup 2 (cCons (cName 28) (cCons (cName 16) cNil))) aYes (aCallO 7 (f_is_pairO w) (pairG w) (aCons (aVar 3) (aCons (aC (.int 7)) (aCons (aVar 18) (aCons (aC (.int 7)) (aCons (aVar 19) (aCons (aVar 28) (aCons (aVar 16) aNil)))))))) [28, 16]) (aCons (aBin gMul (aLst (aCons (aVar 21) aNil)) (aC (.int 3))) aNil))))) (bRet (aC (.bl false))) bNext) (lw18 w T)
def lw16 (w : PySem.World) (T : Addr) : ASt → M AOut := bSeq (bSet 22 (aTup (aCons (aVar 5) (aCons (aBin gAdd (aCB gTuple (aCons (aVar 8) aNil)) (aTup (aCons (aC (.int 5)) aNil))) (aCons (aTup (aCons (aC (.int 1)) aNil)) aNil))))) (lw17 w T)
def lw15 (w : PySem.World) (T : Addr) : ASt → M AOut := bSeq (bSet 21 (aAndV (aVar 20) (aBin gNe (aBin gIx (aBin gIx (aVar 15) (aC (.int 0))) (aVar 14)) (aBin gIx (aBin gIx (aVar 15) (aC (.int 1))) (aVar 14))))) (lw16 w T)
def lw14 (w : PySem.World) (T : Addr) : ASt → M AOut := bSeq (bSet 20 (aBin gEq (aLc (aIt (aBin gAdd (aVar 12) (aBin gMul (aLst (aCons (aC (.str "s")) (aCons (aC (.str "t")) aNil))) (aVar 13)))) (cName 27) (aVal (aBin gNe (aBin gIx (aBin gIx (aVar 15) (aC (.int 0))) (aVar 27)) (aBin gIx (aBin gIx (aVar 15) (aC (.int 1))) (aVar 27)))) (aVar 27) [27]) (aLst aNil))) (lw15 w T)
def lw13 (w : PySem.World) (T : Addr) : ASt → M AOut := bSeq (bAsg (aTup (aCons (aTup (aCons (aCB gTuple (aCons (aLc (aIt (aVar 12)) (cName 27) aYes (aTup (aCons (aC (.str "box")) (aCons (aC (.int 0)) (aCons (aVar 27) aNil)))) [27]) aNil)) (aCons (aVar 13) (aCons (aC (.str "whole")) aNil)))) (aCons (aTup (aCons (aC (.str "name")) (aCons (aC (.int 0)) (aCons (aVar 14) aNil)))) aNil))) (agSeq 2 (agCons (agName 18) (agCons (agName 19) agNil)))) (lw14 w T)
def lw12 (w : PySem.World) (T : Addr) : ASt → M AOut := bSeq (bFor (aIt (aTup (aCons (aVar 6) (aCons (aVar 8) aNil)))) (agName 16)
        (bSeq (bSet 17 (aCallO 3 f__law_apply applyG (aCons (aVar 5) (aCons (aC (.str "f")) (aCons (aTup (aCons (aBin gIx (aVar 16) (aC (.int 2))) aNil)) aNil)))))
    (bDrop (aMt isLst gAppend (aVar 15) (aCons (aDisp (((aC (.str "a")), (aBin gIx (aVar 16) (aC (.int 0)))) :: (((aC (.str "b")), (aBin gIx (aVar 16) (aC (.int 1)))) :: (((aC (.str "c")), (aBin gIx (aVar 16) (aC (.int 2)))) :: (((aC (.str "s")), (aBin gAdd (aBin gIx (aVar 16) (aC (.int 0))) (aBin gIx (aVar 16) (aC (.int 1))))) :: (((aC (.str "t")), (aVar 17)) :: [])))))) aNil))))) (lw13 w T)
def lw11 (w : PySem.World) (T : Addr) : ASt → M AOut := bSeq (bSet 15 (aLst aNil)) (lw12 w T)
def lw10 (w : PySem.World) (T : Addr) : ASt → M AOut := bSeq (bPar3 12 13 14 (aCons (aSl (aVar 11) aNoPart (aPart (aCall 2 f__law_takeD (aCons (aVar 1) (aCons (aC (.int 3)) aNil))))) (aCons (aCall 2 f__law_takeD (aCons (aVar 1) (aCons (aC (.int 2)) aNil))) (aCons (aBin gIx (aVar 11) (aC (.int 4))) aNil)))) (lw11 w T)
def lw9 (w : PySem.World) (T : Addr) : ASt → M AOut := bSeq (bSet 11 (aCall 2 f__law_mixed (aCons (aVar 1) (aCons (aLst (aCons (aC (.str "a")) (aCons (aC (.str "b")) (aCons (aC (.str "c")) (aCons (aC (.str "s")) (aCons (aC (.str "t")) aNil)))))) aNil)))) (lw10 w T)
def lw8 (w : PySem.World) (T : Addr) : ASt → M AOut := bSeq (bAsg (aTup (aCons (aTup (aCons (aVar 5) (aCons (aCB gTuple (aCons (aVar 6) aNil)) (aCons (aTup (aCons (aC (.int 1)) aNil)) aNil)))) (aCons (aTup (aCons (aVar 5) (aCons (aCB gTuple (aCons (aVar 8) aNil)) (aCons (aTup (aCons (aC (.int 1)) aNil)) aNil)))) aNil))) (agSeq 2 (agCons (agName 9) (agCons (agName 10) agNil)))) (lw9 w T)
def lw7 (w : PySem.World) (T : Addr) : ASt → M AOut := bSeq (bSet 8 (aLst (aCons (aBin gAdd (aBin gIx (aVar 6) (aC (.int 0))) (aVar 7)) (aCons (aBin gAdd (aBin (gII (fun _ _ => true) fun i j => i - j) (aBin gIx (aVar 6) (aC (.int 1))) (aVar 7)) (aCall 2 f__law_someD (aCons (aVar 1) (aCons (aLst (aCons (aC (.int 0)) (aCons (aC (.int 0)) (aCons (aC (.int 3)) aNil)))) aNil)))) (aCons (aBin gAdd (aBin gIx (aVar 6) (aC (.int 2))) (aCall 2 f__law_someD (aCons (aVar 1) (aCons (aLst (aCons (aC (.int 0)) (aCons (aC (.int 0)) (aCons (aC (.int 1)) aNil)))) aNil)))) aNil))))) (lw8 w T)
def lw6 (w : PySem.World) (T : Addr) : ASt → M AOut := bSeq (bPar 6 7 (aCons (aLc (aRng (aCons (aC (.int 3)) aNil)) (cName 26) aYes (aCall 2 f__law_takeD (aCons (aVar 1) (aCons (aC (.int 9)) aNil))) [26]) (aCons (aCall 2 f__law_someD (aCons (aVar 1) (aCons (aLst (aCons (aC (.int 0)) (aCons (aC (.int 1)) (aCons (aUn gNeg (aC (.int 4))) (aCons (aC (.int 0)) (aCons (aC (.int 2)) aNil)))))) aNil))) aNil))) (lw7 w T)
def lw5 (w : PySem.World) (T : Addr) : ASt → M AOut := bSeq (bSet 5 (aIf (aVal (aBin gEq (aVar 4) (aC (.str "numbers")))) (aTup (aCons (aC (.str "numbers")) (aCons (aCall 2 f__law_takeD (aCons (aVar 1) (aCons (aC (.int 50)) aNil))) aNil))) (aTup (aCons (aC (.str "sums")) (aCons (aTup (aCons (aTup (aCons (aC (.str "f")) (aCons (aTup (aCons (aC (.int 1)) aNil)) (aCons (aC (.int 5)) aNil)))) (aCons (aTup (aCons (aC (.str "f")) (aCons (aTup (aCons (aC (.int 2)) aNil)) (aCons (aC (.int 5)) aNil)))) aNil))) (aCons (aC (.int 8)) aNil)))))) (lw6 w T)
def lw4 (w : PySem.World) (T : Addr) : ASt → M AOut := bSeq (bAsg (aTup (aCons (aCallO 1 f_own_build (fun _ => buildT) (aCons (aBin gIx (aCallO 1 f_plain_code (fun _ => codeT) (aCons (aTup (aCons (aTup aNil) (aCons (aTup (aCons (aTup (aCons (aC (.str "main")) (aCons (aTup aNil) (aCons (aVar 2) aNil)))) aNil)) aNil))) aNil)) (aC (.int 0))) aNil)) (aCons (aCall 2 f__law_someD (aCons (aVar 1) (aCons (aLst (aCons (aC (.str "numbers")) (aCons (aC (.str "sums")) aNil))) aNil))) aNil))) (agSeq 2 (agCons (agName 3) (agCons (agName 4) agNil)))) (lw5 w T)
def lw3 (w : PySem.World) (T : Addr) : ASt → M AOut := bSeq (bSet 2 (aBin gAdd (aVar 2) (aTup (aCons (aTup (aCons (aC (.str "op")) (aCons (aC (.str "t")) (aCons (aC (.str "f")) (aCons (aTup (aCons (aC (.str "c")) aNil)) aNil))))) (aCons (aTup (aCons (aC (.str "must")) (aCons (aC (.str "q")) (aCons (aTup (aCons (aC (.str "t")) aNil)) aNil)))) (aCons (aTup (aCons (aC (.str "give")) (aCons (aC (.str "a")) aNil))) aNil)))))) (lw4 w T)
def lw2 (w : PySem.World) (T : Addr) : ASt → M AOut := bSeq (bSet 2 (aTup (aCons (aTup (aCons (aC (.str "read")) (aCons (aC (.str "a")) aNil))) (aCons (aTup (aCons (aC (.str "read")) (aCons (aC (.str "b")) aNil))) (aCons (aTup (aCons (aC (.str "read")) (aCons (aC (.str "c")) aNil))) (aCons (aTup (aCons (aC (.str "op")) (aCons (aC (.str "s")) (aCons (aC (.str "add")) (aCons (aTup (aCons (aC (.str "a")) (aCons (aC (.str "b")) aNil))) aNil))))) (aCons (aTup (aCons (aC (.str "tell")) (aCons (aC (.str "s")) aNil))) aNil))))))) (lw3 w T)
def lw1 (w : PySem.World) (T : Addr) : ASt → M AOut := bSeq (bSet 1 (aCall 1 f__law_bag (aCons (aVar 0) aNil))) (lw2 w T)
theorem law_lw (w : PySem.World) (T : Addr) : r_law w T = lw1 w T := rfl
section
variable {A : AH} {x : AExc → AH → Prop} {s : ASt} {fa fb : ASt → M AV} {fl : ASt → M (List AV)}
theorem y_par3 {k : AOut → AH → Prop} {i j l : Nat} (q : Yes (fl s) A (fun us A1 => ∃ u v z, us = [u, v, z] ∧ k (.nx (((s.set i (some u)).set j (some v)).set l (some z))) A1) x) : Yes (bPar3 i j l fl s) A k x :=
  y_bind (q.mono (fun us A1 ⟨u, v, z, h, q⟩ => by subst h; exact y_pure q) fun _ _ q => q)
theorem y_asg {k : AOut → AH → Prop} {g : AG} (q : Yes (fa s) A (fun v A1 => Yes (g v s) A1 (fun s1 A2 => k (.nx s1) A2) x) x) : Yes (bAsg fa g s) A k x :=
  y_bind (q.mono (fun v A1 q1 => y_bind (q1.mono (fun s1 A2 q2 => y_pure q2) fun _ _ q => q)) fun _ _ q => q)
theorem y_andV {k : AV → AH → Prop} (q : Yes (fa s) A (fun v A1 => ∃ b, v = .bl b ∧ match b with
    | true => Yes (fb s) A1 k x
    | false => k (.bl false) A1) x) : Yes (aAndV fa fb s) A k x := by
  refine y_bind (q.mono (fun v A1 ⟨b, h, q1⟩ => ?_) fun _ _ q => q)
  subst h
  refine y_bind (y_asB ?_)
  cases b with
  | true => exact q1
  | false => exact y_pure q1
theorem y_callO {k : AV → AH → Prop} {n : Nat} {g : List AV → M AV} {gv : List AV → AV} (q : Yes (fl s) A (fun us A1 => OPr n g gv us ∧ k (gv us) A1) x) : Yes (aCallO n g gv fl s) A k x :=
  y_bind (q.mono (fun us A1 ⟨h, q⟩ => ⟨_, _, .ok _, rfl, fun p hp => by rw [List.mem_singleton.mp hp]; exact h, q⟩) fun _ _ q => q)
end
def Fin : AOut → AH → Prop := fun o _ => o = .rt (.bl true)
def NX : AExc → AH → Prop := fun _ _ => False
def endsAt {α : Type} (m : M α) (A : AH) : Option (List Prop × Except AExc α) := match m A with
  | some (l, _, r) => some (l, r)
  | none => none
theorem fin_of {m : M AOut} {A : AH} {l : List Prop} (h : endsAt m A = some (l, .ok (.rt (.bl true)))) (hl : ∀ p ∈ l, p) : Yes m A Fin NX := by
  unfold endsAt at h
  split at h
  · rename_i l1 A1 r1 e
    cases h
    exact ⟨_, _, _, e, hl, rfl⟩
  · cases h
theorem plain_ok : OPr 1 f_plain_code (fun _ => codeT) [theProg] := ⟨⟨rfl, rfl⟩, rfl, gives_of (l := []) (by kernel_rfl) nofun⟩
theorem own_ok : OPr 1 f_own_build (fun _ => buildT) [theProg] := ⟨⟨rfl, rfl⟩, rfl, gives_of (l := []) (by kernel_rfl) nofun⟩
theorem liesA_ints (n : Nat) : ∀ cs : List Int, AV.liesA n (cs.map AV.int) = true := by
  intro cs
  induction cs with
  | nil => rfl
  | cons c cs ih =>
    show (true && AV.liesA n (cs.map AV.int)) = true
    rw [ih]
    rfl

theorem tl_n0 (w : PySem.World) (T : Addr) (n r0 r1 r2 o0 o1 o2 d : Int) (x y z : Str) (due : Bool) (u0 u1 u2 u4 u7 u11 u12 u13 u14 u15 u16 u17 u20 : Option AV) (h1 h2 h3 h4 h6 h7 h8 h10 h11 h12 h13 h14 h15 h16 h17 h18 h19 h20 h21 : AO) : endsAt (lw16 w T [u0, u1, u2, some buildT, u4, some (numM n), some (.ref 5), u7, some (.ref 9), some (wld (numM n) [.int r0, .int r1, .int r2] [.int 1]), some (wld (numM n) [.int o0, .int o1, .int o2] [.int 1]), u11, u12, u13, u14, u15, u16, u17, some (sightV [] d), some (nameV z), u20, some (.bl due), none, none, none, none, none, none, none, none, none, none]) [.tab T qLam, h1, h2, h3, h4, .lst [.int r0, .int r1, .int r2], h6, h7, h8, .lst [.int o0, .int o1, .int o2], h10, h11, h12, h13, h14, h15, h16, h17, h18, h19, h20, h21] = some ([OPr 7 (f_is_pairO w) (pairG w) [buildT, .int 7, sightV [] d, .int 7, nameV z, (wld (numM n) [.int r0, .int r1, .int r2] [.int 1]), (wld (numM n) [.int o0, .int o1, .int o2] [.int 1])],
    OPr 7 (f_is_pairO w) (pairG w) [buildT, .int 7, sightV [] d, .int 7, nameV z, (wld (numM n) [.int o0, .int o1, .int o2] [.int 1]), (wld (numM n) [.int r0, .int r1, .int r2] [.int 1])],
    OPr 7 (f_is_pairO w) (pairG w) [buildT, .int 7, sightV [] d, .int 7, nameV z, (wld (numM n) [.int r0, .int r1, .int r2] [.int 1]), (wld (numM n) [.int o0, .int o1, .int o2, .int 5] [.int 1])],
    pairB w [buildT, .int 7, sightV [] d, .int 7, nameV z, (wld (numM n) [.int r0, .int r1, .int r2] [.int 1]), (wld (numM n) [.int o0, .int o1, .int o2] [.int 1])] = due,
    pairB w [buildT, .int 7, sightV [] d, .int 7, nameV z, (wld (numM n) [.int o0, .int o1, .int o2] [.int 1]), (wld (numM n) [.int r0, .int r1, .int r2] [.int 1])] = due,
    pairB w [buildT, .int 7, sightV [] d, .int 7, nameV z, (wld (numM n) [.int r0, .int r1, .int r2] [.int 1]), (wld (numM n) [.int o0, .int o1, .int o2, .int 5] [.int 1])] = due,
    OPr 7 (f_is_pairO w) (fun _ => .bl false) [buildT, .int 7, sightV [] d, .int 7, nameV z, (wld (numM n) [.int r0, .int r1, .int r2] [.int 1]), (wld (numM n) [.int o0, .int o1, .int o2] [.int 0])],
    OPr 7 (f_is_pairO w) (fun _ => .bl false) [buildT, .int 7, sightV [] d, .int 7, nameV z, (wld (numM n) [.int r0, .int r1, .int r2] [.int 1]), (wld (numM n) [.int o0, .int o1] [.int 1])],
    OPr 7 (f_is_pairO w) (fun _ => .bl false) [buildT, .int 7, sightV [] d, .int 7, nameV z, (wld (numM n) [.int r0, .int r1, .int r2] []), (wld (numM n) [.int o0, .int o1, .int o2] [.int 1])],
    OPr 7 (f_is_pairO w) (fun _ => .bl false) [buildT, .int 7, sightV [] d, .int 7, nameV z, (wld (numM n) [.int r0, .int r1, .int r2] [.int 1]), .non],
    OPr 7 (f_is_pairO w) (fun _ => .bl false) [buildT, .int 7, sightV [] d, .int 7, nameV z, (wld (numM n) [.int r0, .int r1, .int r2] [.int 1]), (wld (numM 99) [.int o0, .int o1, .int o2] [.int 1])],
    OPr 7 (f_is_pairO w) (fun _ => .bl false) [buildT, .int 7, sightV [] d, .int 7, nameV z, (wld (numM n) [.int r0, .int r1, .int r2] [.int 1]), (.tup [(numM n), .tup [.int o0, .int o1, .int o2], .tup [.int 1], .int 1])],
    OPr 7 (f_is_pairO w) (fun _ => .bl false) [buildT, .int 7, sightV [] d, .int 7, nameV z, (wld (numM n) [.int r0, .int r1, .int r2] [.int 1]), (wld tabM [.int o0, .int o1, .int o2] [.int 1])],
    OPr 7 (f_is_pairO w) (fun _ => .bl false) [buildT, .int 9, sightV [] d, .int 7, nameV z, (wld (numM n) [.int r0, .int r1, .int r2] [.int 1]), (wld (numM n) [.int o0, .int o1, .int o2] [.int 1])],
    OPr 7 (f_is_pairO w) (fun _ => .bl false) [buildT, .int 7, sightV [] d, .int (-1), nameV z, (wld (numM n) [.int r0, .int r1, .int r2] [.int 1]), (wld (numM n) [.int o0, .int o1, .int o2] [.int 1])],
    OPr 7 (f_is_pairO w) (fun _ => .bl false) [buildT, .bl true, sightV [] d, .int 7, nameV z, (wld (numM n) [.int r0, .int r1, .int r2] [.int 1]), (wld (numM n) [.int o0, .int o1, .int o2] [.int 1])],
    some (AO.tab T qLam) = some (AO.tab T qLam),
    some (AO.tab T qLam) = some (AO.tab T qLam),
    some (AO.tab T qLam) = some (AO.tab T qLam),
    some (AO.tab T qLam) = some (AO.tab T qLam),
    some (AO.tab T qLam) = some (AO.tab T qLam),
    some (AO.tab T qLam) = some (AO.tab T qLam),
    (AV.purs [buildT, .int 7, sightV [.tup [tx "box", .int 0, tx "zz"]] 0, .int 7, nameV z, (wld (numM n) [.int r0, .int r1, .int r2] [.int 1]), (wld (numM n) [.int o0, .int o1, .int o2] [.int 1])] = true ∧ ([buildT, .int 7, sightV [.tup [tx "box", .int 0, tx "zz"]] 0, .int 7, nameV z, (wld (numM n) [.int r0, .int r1, .int r2] [.int 1]), (wld (numM n) [.int o0, .int o1, .int o2] [.int 1])] : List AV).length = 7) ∧ AV.purs zzE.vs = true ∧ GivesE (f_is_pair w) [buildT, .int 7, sightV [.tup [tx "box", .int 0, tx "zz"]] 0, .int 7, nameV z, (wld (numM n) [.int r0, .int r1, .int r2] [.int 1]), (wld (numM n) [.int o0, .int o1, .int o2] [.int 1])] zzE], .ok (.rt (.bl true))) := by kernel_rfl
theorem tl_n1 (w : PySem.World) (T : Addr) (n r0 r1 r2 o0 o1 o2 d : Int) (x y z : Str) (due : Bool) (u0 u1 u2 u4 u7 u11 u12 u13 u14 u15 u16 u17 u20 : Option AV) (h1 h2 h3 h4 h6 h7 h8 h10 h11 h12 h13 h14 h15 h16 h17 h18 h19 h20 h21 : AO) : endsAt (lw16 w T [u0, u1, u2, some buildT, u4, some (numM n), some (.ref 5), u7, some (.ref 9), some (wld (numM n) [.int r0, .int r1, .int r2] [.int 1]), some (wld (numM n) [.int o0, .int o1, .int o2] [.int 1]), u11, u12, u13, u14, u15, u16, u17, some (sightV [boxV x] d), some (nameV z), u20, some (.bl due), none, none, none, none, none, none, none, none, none, none]) [.tab T qLam, h1, h2, h3, h4, .lst [.int r0, .int r1, .int r2], h6, h7, h8, .lst [.int o0, .int o1, .int o2], h10, h11, h12, h13, h14, h15, h16, h17, h18, h19, h20, h21] = some ([OPr 7 (f_is_pairO w) (pairG w) [buildT, .int 7, sightV [boxV x] d, .int 7, nameV z, (wld (numM n) [.int r0, .int r1, .int r2] [.int 1]), (wld (numM n) [.int o0, .int o1, .int o2] [.int 1])],
    OPr 7 (f_is_pairO w) (pairG w) [buildT, .int 7, sightV [boxV x] d, .int 7, nameV z, (wld (numM n) [.int o0, .int o1, .int o2] [.int 1]), (wld (numM n) [.int r0, .int r1, .int r2] [.int 1])],
    OPr 7 (f_is_pairO w) (pairG w) [buildT, .int 7, sightV [boxV x] d, .int 7, nameV z, (wld (numM n) [.int r0, .int r1, .int r2] [.int 1]), (wld (numM n) [.int o0, .int o1, .int o2, .int 5] [.int 1])],
    pairB w [buildT, .int 7, sightV [boxV x] d, .int 7, nameV z, (wld (numM n) [.int r0, .int r1, .int r2] [.int 1]), (wld (numM n) [.int o0, .int o1, .int o2] [.int 1])] = due,
    pairB w [buildT, .int 7, sightV [boxV x] d, .int 7, nameV z, (wld (numM n) [.int o0, .int o1, .int o2] [.int 1]), (wld (numM n) [.int r0, .int r1, .int r2] [.int 1])] = due,
    pairB w [buildT, .int 7, sightV [boxV x] d, .int 7, nameV z, (wld (numM n) [.int r0, .int r1, .int r2] [.int 1]), (wld (numM n) [.int o0, .int o1, .int o2, .int 5] [.int 1])] = due,
    OPr 7 (f_is_pairO w) (fun _ => .bl false) [buildT, .int 7, sightV [boxV x] d, .int 7, nameV z, (wld (numM n) [.int r0, .int r1, .int r2] [.int 1]), (wld (numM n) [.int o0, .int o1, .int o2] [.int 0])],
    OPr 7 (f_is_pairO w) (fun _ => .bl false) [buildT, .int 7, sightV [boxV x] d, .int 7, nameV z, (wld (numM n) [.int r0, .int r1, .int r2] [.int 1]), (wld (numM n) [.int o0, .int o1] [.int 1])],
    OPr 7 (f_is_pairO w) (fun _ => .bl false) [buildT, .int 7, sightV [boxV x] d, .int 7, nameV z, (wld (numM n) [.int r0, .int r1, .int r2] []), (wld (numM n) [.int o0, .int o1, .int o2] [.int 1])],
    OPr 7 (f_is_pairO w) (fun _ => .bl false) [buildT, .int 7, sightV [boxV x] d, .int 7, nameV z, (wld (numM n) [.int r0, .int r1, .int r2] [.int 1]), .non],
    OPr 7 (f_is_pairO w) (fun _ => .bl false) [buildT, .int 7, sightV [boxV x] d, .int 7, nameV z, (wld (numM n) [.int r0, .int r1, .int r2] [.int 1]), (wld (numM 99) [.int o0, .int o1, .int o2] [.int 1])],
    OPr 7 (f_is_pairO w) (fun _ => .bl false) [buildT, .int 7, sightV [boxV x] d, .int 7, nameV z, (wld (numM n) [.int r0, .int r1, .int r2] [.int 1]), (.tup [(numM n), .tup [.int o0, .int o1, .int o2], .tup [.int 1], .int 1])],
    OPr 7 (f_is_pairO w) (fun _ => .bl false) [buildT, .int 7, sightV [boxV x] d, .int 7, nameV z, (wld (numM n) [.int r0, .int r1, .int r2] [.int 1]), (wld tabM [.int o0, .int o1, .int o2] [.int 1])],
    OPr 7 (f_is_pairO w) (fun _ => .bl false) [buildT, .int 9, sightV [boxV x] d, .int 7, nameV z, (wld (numM n) [.int r0, .int r1, .int r2] [.int 1]), (wld (numM n) [.int o0, .int o1, .int o2] [.int 1])],
    OPr 7 (f_is_pairO w) (fun _ => .bl false) [buildT, .int 7, sightV [boxV x] d, .int (-1), nameV z, (wld (numM n) [.int r0, .int r1, .int r2] [.int 1]), (wld (numM n) [.int o0, .int o1, .int o2] [.int 1])],
    OPr 7 (f_is_pairO w) (fun _ => .bl false) [buildT, .bl true, sightV [boxV x] d, .int 7, nameV z, (wld (numM n) [.int r0, .int r1, .int r2] [.int 1]), (wld (numM n) [.int o0, .int o1, .int o2] [.int 1])],
    some (AO.tab T qLam) = some (AO.tab T qLam),
    some (AO.tab T qLam) = some (AO.tab T qLam),
    some (AO.tab T qLam) = some (AO.tab T qLam),
    some (AO.tab T qLam) = some (AO.tab T qLam),
    some (AO.tab T qLam) = some (AO.tab T qLam),
    some (AO.tab T qLam) = some (AO.tab T qLam),
    (AV.purs [buildT, .int 7, sightV [.tup [tx "box", .int 0, tx "zz"]] 0, .int 7, nameV z, (wld (numM n) [.int r0, .int r1, .int r2] [.int 1]), (wld (numM n) [.int o0, .int o1, .int o2] [.int 1])] = true ∧ ([buildT, .int 7, sightV [.tup [tx "box", .int 0, tx "zz"]] 0, .int 7, nameV z, (wld (numM n) [.int r0, .int r1, .int r2] [.int 1]), (wld (numM n) [.int o0, .int o1, .int o2] [.int 1])] : List AV).length = 7) ∧ AV.purs zzE.vs = true ∧ GivesE (f_is_pair w) [buildT, .int 7, sightV [.tup [tx "box", .int 0, tx "zz"]] 0, .int 7, nameV z, (wld (numM n) [.int r0, .int r1, .int r2] [.int 1]), (wld (numM n) [.int o0, .int o1, .int o2] [.int 1])] zzE], .ok (.rt (.bl true))) := by kernel_rfl
theorem tl_n2 (w : PySem.World) (T : Addr) (n r0 r1 r2 o0 o1 o2 d : Int) (x y z : Str) (due : Bool) (u0 u1 u2 u4 u7 u11 u12 u13 u14 u15 u16 u17 u20 : Option AV) (h1 h2 h3 h4 h6 h7 h8 h10 h11 h12 h13 h14 h15 h16 h17 h18 h19 h20 h21 : AO) : endsAt (lw16 w T [u0, u1, u2, some buildT, u4, some (numM n), some (.ref 5), u7, some (.ref 9), some (wld (numM n) [.int r0, .int r1, .int r2] [.int 1]), some (wld (numM n) [.int o0, .int o1, .int o2] [.int 1]), u11, u12, u13, u14, u15, u16, u17, some (sightV [boxV x, boxV y] d), some (nameV z), u20, some (.bl due), none, none, none, none, none, none, none, none, none, none]) [.tab T qLam, h1, h2, h3, h4, .lst [.int r0, .int r1, .int r2], h6, h7, h8, .lst [.int o0, .int o1, .int o2], h10, h11, h12, h13, h14, h15, h16, h17, h18, h19, h20, h21] = some ([OPr 7 (f_is_pairO w) (pairG w) [buildT, .int 7, sightV [boxV x, boxV y] d, .int 7, nameV z, (wld (numM n) [.int r0, .int r1, .int r2] [.int 1]), (wld (numM n) [.int o0, .int o1, .int o2] [.int 1])],
    OPr 7 (f_is_pairO w) (pairG w) [buildT, .int 7, sightV [boxV x, boxV y] d, .int 7, nameV z, (wld (numM n) [.int o0, .int o1, .int o2] [.int 1]), (wld (numM n) [.int r0, .int r1, .int r2] [.int 1])],
    OPr 7 (f_is_pairO w) (pairG w) [buildT, .int 7, sightV [boxV x, boxV y] d, .int 7, nameV z, (wld (numM n) [.int r0, .int r1, .int r2] [.int 1]), (wld (numM n) [.int o0, .int o1, .int o2, .int 5] [.int 1])],
    pairB w [buildT, .int 7, sightV [boxV x, boxV y] d, .int 7, nameV z, (wld (numM n) [.int r0, .int r1, .int r2] [.int 1]), (wld (numM n) [.int o0, .int o1, .int o2] [.int 1])] = due,
    pairB w [buildT, .int 7, sightV [boxV x, boxV y] d, .int 7, nameV z, (wld (numM n) [.int o0, .int o1, .int o2] [.int 1]), (wld (numM n) [.int r0, .int r1, .int r2] [.int 1])] = due,
    pairB w [buildT, .int 7, sightV [boxV x, boxV y] d, .int 7, nameV z, (wld (numM n) [.int r0, .int r1, .int r2] [.int 1]), (wld (numM n) [.int o0, .int o1, .int o2, .int 5] [.int 1])] = due,
    OPr 7 (f_is_pairO w) (fun _ => .bl false) [buildT, .int 7, sightV [boxV x, boxV y] d, .int 7, nameV z, (wld (numM n) [.int r0, .int r1, .int r2] [.int 1]), (wld (numM n) [.int o0, .int o1, .int o2] [.int 0])],
    OPr 7 (f_is_pairO w) (fun _ => .bl false) [buildT, .int 7, sightV [boxV x, boxV y] d, .int 7, nameV z, (wld (numM n) [.int r0, .int r1, .int r2] [.int 1]), (wld (numM n) [.int o0, .int o1] [.int 1])],
    OPr 7 (f_is_pairO w) (fun _ => .bl false) [buildT, .int 7, sightV [boxV x, boxV y] d, .int 7, nameV z, (wld (numM n) [.int r0, .int r1, .int r2] []), (wld (numM n) [.int o0, .int o1, .int o2] [.int 1])],
    OPr 7 (f_is_pairO w) (fun _ => .bl false) [buildT, .int 7, sightV [boxV x, boxV y] d, .int 7, nameV z, (wld (numM n) [.int r0, .int r1, .int r2] [.int 1]), .non],
    OPr 7 (f_is_pairO w) (fun _ => .bl false) [buildT, .int 7, sightV [boxV x, boxV y] d, .int 7, nameV z, (wld (numM n) [.int r0, .int r1, .int r2] [.int 1]), (wld (numM 99) [.int o0, .int o1, .int o2] [.int 1])],
    OPr 7 (f_is_pairO w) (fun _ => .bl false) [buildT, .int 7, sightV [boxV x, boxV y] d, .int 7, nameV z, (wld (numM n) [.int r0, .int r1, .int r2] [.int 1]), (.tup [(numM n), .tup [.int o0, .int o1, .int o2], .tup [.int 1], .int 1])],
    OPr 7 (f_is_pairO w) (fun _ => .bl false) [buildT, .int 7, sightV [boxV x, boxV y] d, .int 7, nameV z, (wld (numM n) [.int r0, .int r1, .int r2] [.int 1]), (wld tabM [.int o0, .int o1, .int o2] [.int 1])],
    OPr 7 (f_is_pairO w) (fun _ => .bl false) [buildT, .int 9, sightV [boxV x, boxV y] d, .int 7, nameV z, (wld (numM n) [.int r0, .int r1, .int r2] [.int 1]), (wld (numM n) [.int o0, .int o1, .int o2] [.int 1])],
    OPr 7 (f_is_pairO w) (fun _ => .bl false) [buildT, .int 7, sightV [boxV x, boxV y] d, .int (-1), nameV z, (wld (numM n) [.int r0, .int r1, .int r2] [.int 1]), (wld (numM n) [.int o0, .int o1, .int o2] [.int 1])],
    OPr 7 (f_is_pairO w) (fun _ => .bl false) [buildT, .bl true, sightV [boxV x, boxV y] d, .int 7, nameV z, (wld (numM n) [.int r0, .int r1, .int r2] [.int 1]), (wld (numM n) [.int o0, .int o1, .int o2] [.int 1])],
    some (AO.tab T qLam) = some (AO.tab T qLam),
    some (AO.tab T qLam) = some (AO.tab T qLam),
    some (AO.tab T qLam) = some (AO.tab T qLam),
    some (AO.tab T qLam) = some (AO.tab T qLam),
    some (AO.tab T qLam) = some (AO.tab T qLam),
    some (AO.tab T qLam) = some (AO.tab T qLam),
    (AV.purs [buildT, .int 7, sightV [.tup [tx "box", .int 0, tx "zz"]] 0, .int 7, nameV z, (wld (numM n) [.int r0, .int r1, .int r2] [.int 1]), (wld (numM n) [.int o0, .int o1, .int o2] [.int 1])] = true ∧ ([buildT, .int 7, sightV [.tup [tx "box", .int 0, tx "zz"]] 0, .int 7, nameV z, (wld (numM n) [.int r0, .int r1, .int r2] [.int 1]), (wld (numM n) [.int o0, .int o1, .int o2] [.int 1])] : List AV).length = 7) ∧ AV.purs zzE.vs = true ∧ GivesE (f_is_pair w) [buildT, .int 7, sightV [.tup [tx "box", .int 0, tx "zz"]] 0, .int 7, nameV z, (wld (numM n) [.int r0, .int r1, .int r2] [.int 1]), (wld (numM n) [.int o0, .int o1, .int o2] [.int 1])] zzE], .ok (.rt (.bl true))) := by kernel_rfl
theorem tl_s0 (w : PySem.World) (T : Addr) (n r0 r1 r2 o0 o1 o2 d : Int) (x y z : Str) (due : Bool) (u0 u1 u2 u4 u7 u11 u12 u13 u14 u15 u16 u17 u20 : Option AV) (h1 h2 h3 h4 h6 h7 h8 h10 h11 h12 h13 h14 h15 h16 h17 h18 h19 h20 h21 : AO) : endsAt (lw16 w T [u0, u1, u2, some buildT, u4, some sumM, some (.ref 5), u7, some (.ref 9), some (wld sumM [.int r0, .int r1, .int r2] [.int 1]), some (wld sumM [.int o0, .int o1, .int o2] [.int 1]), u11, u12, u13, u14, u15, u16, u17, some (sightV [] d), some (nameV z), u20, some (.bl due), none, none, none, none, none, none, none, none, none, none]) [.tab T qLam, h1, h2, h3, h4, .lst [.int r0, .int r1, .int r2], h6, h7, h8, .lst [.int o0, .int o1, .int o2], h10, h11, h12, h13, h14, h15, h16, h17, h18, h19, h20, h21] = some ([OPr 7 (f_is_pairO w) (pairG w) [buildT, .int 7, sightV [] d, .int 7, nameV z, (wld sumM [.int r0, .int r1, .int r2] [.int 1]), (wld sumM [.int o0, .int o1, .int o2] [.int 1])],
    OPr 7 (f_is_pairO w) (pairG w) [buildT, .int 7, sightV [] d, .int 7, nameV z, (wld sumM [.int o0, .int o1, .int o2] [.int 1]), (wld sumM [.int r0, .int r1, .int r2] [.int 1])],
    OPr 7 (f_is_pairO w) (pairG w) [buildT, .int 7, sightV [] d, .int 7, nameV z, (wld sumM [.int r0, .int r1, .int r2] [.int 1]), (wld sumM [.int o0, .int o1, .int o2, .int 5] [.int 1])],
    pairB w [buildT, .int 7, sightV [] d, .int 7, nameV z, (wld sumM [.int r0, .int r1, .int r2] [.int 1]), (wld sumM [.int o0, .int o1, .int o2] [.int 1])] = due,
    pairB w [buildT, .int 7, sightV [] d, .int 7, nameV z, (wld sumM [.int o0, .int o1, .int o2] [.int 1]), (wld sumM [.int r0, .int r1, .int r2] [.int 1])] = due,
    pairB w [buildT, .int 7, sightV [] d, .int 7, nameV z, (wld sumM [.int r0, .int r1, .int r2] [.int 1]), (wld sumM [.int o0, .int o1, .int o2, .int 5] [.int 1])] = due,
    OPr 7 (f_is_pairO w) (fun _ => .bl false) [buildT, .int 7, sightV [] d, .int 7, nameV z, (wld sumM [.int r0, .int r1, .int r2] [.int 1]), (wld sumM [.int o0, .int o1, .int o2] [.int 0])],
    OPr 7 (f_is_pairO w) (fun _ => .bl false) [buildT, .int 7, sightV [] d, .int 7, nameV z, (wld sumM [.int r0, .int r1, .int r2] [.int 1]), (wld sumM [.int o0, .int o1] [.int 1])],
    OPr 7 (f_is_pairO w) (fun _ => .bl false) [buildT, .int 7, sightV [] d, .int 7, nameV z, (wld sumM [.int r0, .int r1, .int r2] []), (wld sumM [.int o0, .int o1, .int o2] [.int 1])],
    OPr 7 (f_is_pairO w) (fun _ => .bl false) [buildT, .int 7, sightV [] d, .int 7, nameV z, (wld sumM [.int r0, .int r1, .int r2] [.int 1]), .non],
    OPr 7 (f_is_pairO w) (fun _ => .bl false) [buildT, .int 7, sightV [] d, .int 7, nameV z, (wld sumM [.int r0, .int r1, .int r2] [.int 1]), (wld (numM 99) [.int o0, .int o1, .int o2] [.int 1])],
    OPr 7 (f_is_pairO w) (fun _ => .bl false) [buildT, .int 7, sightV [] d, .int 7, nameV z, (wld sumM [.int r0, .int r1, .int r2] [.int 1]), (.tup [sumM, .tup [.int o0, .int o1, .int o2], .tup [.int 1], .int 1])],
    OPr 7 (f_is_pairO w) (fun _ => .bl false) [buildT, .int 7, sightV [] d, .int 7, nameV z, (wld sumM [.int r0, .int r1, .int r2] [.int 1]), (wld tabM [.int o0, .int o1, .int o2] [.int 1])],
    OPr 7 (f_is_pairO w) (fun _ => .bl false) [buildT, .int 9, sightV [] d, .int 7, nameV z, (wld sumM [.int r0, .int r1, .int r2] [.int 1]), (wld sumM [.int o0, .int o1, .int o2] [.int 1])],
    OPr 7 (f_is_pairO w) (fun _ => .bl false) [buildT, .int 7, sightV [] d, .int (-1), nameV z, (wld sumM [.int r0, .int r1, .int r2] [.int 1]), (wld sumM [.int o0, .int o1, .int o2] [.int 1])],
    OPr 7 (f_is_pairO w) (fun _ => .bl false) [buildT, .bl true, sightV [] d, .int 7, nameV z, (wld sumM [.int r0, .int r1, .int r2] [.int 1]), (wld sumM [.int o0, .int o1, .int o2] [.int 1])],
    some (AO.tab T qLam) = some (AO.tab T qLam),
    some (AO.tab T qLam) = some (AO.tab T qLam),
    some (AO.tab T qLam) = some (AO.tab T qLam),
    some (AO.tab T qLam) = some (AO.tab T qLam),
    some (AO.tab T qLam) = some (AO.tab T qLam),
    some (AO.tab T qLam) = some (AO.tab T qLam),
    (AV.purs [buildT, .int 7, sightV [.tup [tx "box", .int 0, tx "zz"]] 0, .int 7, nameV z, (wld sumM [.int r0, .int r1, .int r2] [.int 1]), (wld sumM [.int o0, .int o1, .int o2] [.int 1])] = true ∧ ([buildT, .int 7, sightV [.tup [tx "box", .int 0, tx "zz"]] 0, .int 7, nameV z, (wld sumM [.int r0, .int r1, .int r2] [.int 1]), (wld sumM [.int o0, .int o1, .int o2] [.int 1])] : List AV).length = 7) ∧ AV.purs zzE.vs = true ∧ GivesE (f_is_pair w) [buildT, .int 7, sightV [.tup [tx "box", .int 0, tx "zz"]] 0, .int 7, nameV z, (wld sumM [.int r0, .int r1, .int r2] [.int 1]), (wld sumM [.int o0, .int o1, .int o2] [.int 1])] zzE], .ok (.rt (.bl true))) := by kernel_rfl
theorem tl_s1 (w : PySem.World) (T : Addr) (n r0 r1 r2 o0 o1 o2 d : Int) (x y z : Str) (due : Bool) (u0 u1 u2 u4 u7 u11 u12 u13 u14 u15 u16 u17 u20 : Option AV) (h1 h2 h3 h4 h6 h7 h8 h10 h11 h12 h13 h14 h15 h16 h17 h18 h19 h20 h21 : AO) : endsAt (lw16 w T [u0, u1, u2, some buildT, u4, some sumM, some (.ref 5), u7, some (.ref 9), some (wld sumM [.int r0, .int r1, .int r2] [.int 1]), some (wld sumM [.int o0, .int o1, .int o2] [.int 1]), u11, u12, u13, u14, u15, u16, u17, some (sightV [boxV x] d), some (nameV z), u20, some (.bl due), none, none, none, none, none, none, none, none, none, none]) [.tab T qLam, h1, h2, h3, h4, .lst [.int r0, .int r1, .int r2], h6, h7, h8, .lst [.int o0, .int o1, .int o2], h10, h11, h12, h13, h14, h15, h16, h17, h18, h19, h20, h21] = some ([OPr 7 (f_is_pairO w) (pairG w) [buildT, .int 7, sightV [boxV x] d, .int 7, nameV z, (wld sumM [.int r0, .int r1, .int r2] [.int 1]), (wld sumM [.int o0, .int o1, .int o2] [.int 1])],
    OPr 7 (f_is_pairO w) (pairG w) [buildT, .int 7, sightV [boxV x] d, .int 7, nameV z, (wld sumM [.int o0, .int o1, .int o2] [.int 1]), (wld sumM [.int r0, .int r1, .int r2] [.int 1])],
    OPr 7 (f_is_pairO w) (pairG w) [buildT, .int 7, sightV [boxV x] d, .int 7, nameV z, (wld sumM [.int r0, .int r1, .int r2] [.int 1]), (wld sumM [.int o0, .int o1, .int o2, .int 5] [.int 1])],
    pairB w [buildT, .int 7, sightV [boxV x] d, .int 7, nameV z, (wld sumM [.int r0, .int r1, .int r2] [.int 1]), (wld sumM [.int o0, .int o1, .int o2] [.int 1])] = due,
    pairB w [buildT, .int 7, sightV [boxV x] d, .int 7, nameV z, (wld sumM [.int o0, .int o1, .int o2] [.int 1]), (wld sumM [.int r0, .int r1, .int r2] [.int 1])] = due,
    pairB w [buildT, .int 7, sightV [boxV x] d, .int 7, nameV z, (wld sumM [.int r0, .int r1, .int r2] [.int 1]), (wld sumM [.int o0, .int o1, .int o2, .int 5] [.int 1])] = due,
    OPr 7 (f_is_pairO w) (fun _ => .bl false) [buildT, .int 7, sightV [boxV x] d, .int 7, nameV z, (wld sumM [.int r0, .int r1, .int r2] [.int 1]), (wld sumM [.int o0, .int o1, .int o2] [.int 0])],
    OPr 7 (f_is_pairO w) (fun _ => .bl false) [buildT, .int 7, sightV [boxV x] d, .int 7, nameV z, (wld sumM [.int r0, .int r1, .int r2] [.int 1]), (wld sumM [.int o0, .int o1] [.int 1])],
    OPr 7 (f_is_pairO w) (fun _ => .bl false) [buildT, .int 7, sightV [boxV x] d, .int 7, nameV z, (wld sumM [.int r0, .int r1, .int r2] []), (wld sumM [.int o0, .int o1, .int o2] [.int 1])],
    OPr 7 (f_is_pairO w) (fun _ => .bl false) [buildT, .int 7, sightV [boxV x] d, .int 7, nameV z, (wld sumM [.int r0, .int r1, .int r2] [.int 1]), .non],
    OPr 7 (f_is_pairO w) (fun _ => .bl false) [buildT, .int 7, sightV [boxV x] d, .int 7, nameV z, (wld sumM [.int r0, .int r1, .int r2] [.int 1]), (wld (numM 99) [.int o0, .int o1, .int o2] [.int 1])],
    OPr 7 (f_is_pairO w) (fun _ => .bl false) [buildT, .int 7, sightV [boxV x] d, .int 7, nameV z, (wld sumM [.int r0, .int r1, .int r2] [.int 1]), (.tup [sumM, .tup [.int o0, .int o1, .int o2], .tup [.int 1], .int 1])],
    OPr 7 (f_is_pairO w) (fun _ => .bl false) [buildT, .int 7, sightV [boxV x] d, .int 7, nameV z, (wld sumM [.int r0, .int r1, .int r2] [.int 1]), (wld tabM [.int o0, .int o1, .int o2] [.int 1])],
    OPr 7 (f_is_pairO w) (fun _ => .bl false) [buildT, .int 9, sightV [boxV x] d, .int 7, nameV z, (wld sumM [.int r0, .int r1, .int r2] [.int 1]), (wld sumM [.int o0, .int o1, .int o2] [.int 1])],
    OPr 7 (f_is_pairO w) (fun _ => .bl false) [buildT, .int 7, sightV [boxV x] d, .int (-1), nameV z, (wld sumM [.int r0, .int r1, .int r2] [.int 1]), (wld sumM [.int o0, .int o1, .int o2] [.int 1])],
    OPr 7 (f_is_pairO w) (fun _ => .bl false) [buildT, .bl true, sightV [boxV x] d, .int 7, nameV z, (wld sumM [.int r0, .int r1, .int r2] [.int 1]), (wld sumM [.int o0, .int o1, .int o2] [.int 1])],
    some (AO.tab T qLam) = some (AO.tab T qLam),
    some (AO.tab T qLam) = some (AO.tab T qLam),
    some (AO.tab T qLam) = some (AO.tab T qLam),
    some (AO.tab T qLam) = some (AO.tab T qLam),
    some (AO.tab T qLam) = some (AO.tab T qLam),
    some (AO.tab T qLam) = some (AO.tab T qLam),
    (AV.purs [buildT, .int 7, sightV [.tup [tx "box", .int 0, tx "zz"]] 0, .int 7, nameV z, (wld sumM [.int r0, .int r1, .int r2] [.int 1]), (wld sumM [.int o0, .int o1, .int o2] [.int 1])] = true ∧ ([buildT, .int 7, sightV [.tup [tx "box", .int 0, tx "zz"]] 0, .int 7, nameV z, (wld sumM [.int r0, .int r1, .int r2] [.int 1]), (wld sumM [.int o0, .int o1, .int o2] [.int 1])] : List AV).length = 7) ∧ AV.purs zzE.vs = true ∧ GivesE (f_is_pair w) [buildT, .int 7, sightV [.tup [tx "box", .int 0, tx "zz"]] 0, .int 7, nameV z, (wld sumM [.int r0, .int r1, .int r2] [.int 1]), (wld sumM [.int o0, .int o1, .int o2] [.int 1])] zzE], .ok (.rt (.bl true))) := by kernel_rfl
theorem tl_s2 (w : PySem.World) (T : Addr) (n r0 r1 r2 o0 o1 o2 d : Int) (x y z : Str) (due : Bool) (u0 u1 u2 u4 u7 u11 u12 u13 u14 u15 u16 u17 u20 : Option AV) (h1 h2 h3 h4 h6 h7 h8 h10 h11 h12 h13 h14 h15 h16 h17 h18 h19 h20 h21 : AO) : endsAt (lw16 w T [u0, u1, u2, some buildT, u4, some sumM, some (.ref 5), u7, some (.ref 9), some (wld sumM [.int r0, .int r1, .int r2] [.int 1]), some (wld sumM [.int o0, .int o1, .int o2] [.int 1]), u11, u12, u13, u14, u15, u16, u17, some (sightV [boxV x, boxV y] d), some (nameV z), u20, some (.bl due), none, none, none, none, none, none, none, none, none, none]) [.tab T qLam, h1, h2, h3, h4, .lst [.int r0, .int r1, .int r2], h6, h7, h8, .lst [.int o0, .int o1, .int o2], h10, h11, h12, h13, h14, h15, h16, h17, h18, h19, h20, h21] = some ([OPr 7 (f_is_pairO w) (pairG w) [buildT, .int 7, sightV [boxV x, boxV y] d, .int 7, nameV z, (wld sumM [.int r0, .int r1, .int r2] [.int 1]), (wld sumM [.int o0, .int o1, .int o2] [.int 1])],
    OPr 7 (f_is_pairO w) (pairG w) [buildT, .int 7, sightV [boxV x, boxV y] d, .int 7, nameV z, (wld sumM [.int o0, .int o1, .int o2] [.int 1]), (wld sumM [.int r0, .int r1, .int r2] [.int 1])],
    OPr 7 (f_is_pairO w) (pairG w) [buildT, .int 7, sightV [boxV x, boxV y] d, .int 7, nameV z, (wld sumM [.int r0, .int r1, .int r2] [.int 1]), (wld sumM [.int o0, .int o1, .int o2, .int 5] [.int 1])],
    pairB w [buildT, .int 7, sightV [boxV x, boxV y] d, .int 7, nameV z, (wld sumM [.int r0, .int r1, .int r2] [.int 1]), (wld sumM [.int o0, .int o1, .int o2] [.int 1])] = due,
    pairB w [buildT, .int 7, sightV [boxV x, boxV y] d, .int 7, nameV z, (wld sumM [.int o0, .int o1, .int o2] [.int 1]), (wld sumM [.int r0, .int r1, .int r2] [.int 1])] = due,
    pairB w [buildT, .int 7, sightV [boxV x, boxV y] d, .int 7, nameV z, (wld sumM [.int r0, .int r1, .int r2] [.int 1]), (wld sumM [.int o0, .int o1, .int o2, .int 5] [.int 1])] = due,
    OPr 7 (f_is_pairO w) (fun _ => .bl false) [buildT, .int 7, sightV [boxV x, boxV y] d, .int 7, nameV z, (wld sumM [.int r0, .int r1, .int r2] [.int 1]), (wld sumM [.int o0, .int o1, .int o2] [.int 0])],
    OPr 7 (f_is_pairO w) (fun _ => .bl false) [buildT, .int 7, sightV [boxV x, boxV y] d, .int 7, nameV z, (wld sumM [.int r0, .int r1, .int r2] [.int 1]), (wld sumM [.int o0, .int o1] [.int 1])],
    OPr 7 (f_is_pairO w) (fun _ => .bl false) [buildT, .int 7, sightV [boxV x, boxV y] d, .int 7, nameV z, (wld sumM [.int r0, .int r1, .int r2] []), (wld sumM [.int o0, .int o1, .int o2] [.int 1])],
    OPr 7 (f_is_pairO w) (fun _ => .bl false) [buildT, .int 7, sightV [boxV x, boxV y] d, .int 7, nameV z, (wld sumM [.int r0, .int r1, .int r2] [.int 1]), .non],
    OPr 7 (f_is_pairO w) (fun _ => .bl false) [buildT, .int 7, sightV [boxV x, boxV y] d, .int 7, nameV z, (wld sumM [.int r0, .int r1, .int r2] [.int 1]), (wld (numM 99) [.int o0, .int o1, .int o2] [.int 1])],
    OPr 7 (f_is_pairO w) (fun _ => .bl false) [buildT, .int 7, sightV [boxV x, boxV y] d, .int 7, nameV z, (wld sumM [.int r0, .int r1, .int r2] [.int 1]), (.tup [sumM, .tup [.int o0, .int o1, .int o2], .tup [.int 1], .int 1])],
    OPr 7 (f_is_pairO w) (fun _ => .bl false) [buildT, .int 7, sightV [boxV x, boxV y] d, .int 7, nameV z, (wld sumM [.int r0, .int r1, .int r2] [.int 1]), (wld tabM [.int o0, .int o1, .int o2] [.int 1])],
    OPr 7 (f_is_pairO w) (fun _ => .bl false) [buildT, .int 9, sightV [boxV x, boxV y] d, .int 7, nameV z, (wld sumM [.int r0, .int r1, .int r2] [.int 1]), (wld sumM [.int o0, .int o1, .int o2] [.int 1])],
    OPr 7 (f_is_pairO w) (fun _ => .bl false) [buildT, .int 7, sightV [boxV x, boxV y] d, .int (-1), nameV z, (wld sumM [.int r0, .int r1, .int r2] [.int 1]), (wld sumM [.int o0, .int o1, .int o2] [.int 1])],
    OPr 7 (f_is_pairO w) (fun _ => .bl false) [buildT, .bl true, sightV [boxV x, boxV y] d, .int 7, nameV z, (wld sumM [.int r0, .int r1, .int r2] [.int 1]), (wld sumM [.int o0, .int o1, .int o2] [.int 1])],
    some (AO.tab T qLam) = some (AO.tab T qLam),
    some (AO.tab T qLam) = some (AO.tab T qLam),
    some (AO.tab T qLam) = some (AO.tab T qLam),
    some (AO.tab T qLam) = some (AO.tab T qLam),
    some (AO.tab T qLam) = some (AO.tab T qLam),
    some (AO.tab T qLam) = some (AO.tab T qLam),
    (AV.purs [buildT, .int 7, sightV [.tup [tx "box", .int 0, tx "zz"]] 0, .int 7, nameV z, (wld sumM [.int r0, .int r1, .int r2] [.int 1]), (wld sumM [.int o0, .int o1, .int o2] [.int 1])] = true ∧ ([buildT, .int 7, sightV [.tup [tx "box", .int 0, tx "zz"]] 0, .int 7, nameV z, (wld sumM [.int r0, .int r1, .int r2] [.int 1]), (wld sumM [.int o0, .int o1, .int o2] [.int 1])] : List AV).length = 7) ∧ AV.purs zzE.vs = true ∧ GivesE (f_is_pair w) [buildT, .int 7, sightV [.tup [tx "box", .int 0, tx "zz"]] 0, .int 7, nameV z, (wld sumM [.int r0, .int r1, .int r2] [.int 1]), (wld sumM [.int o0, .int o1, .int o2] [.int 1])] zzE], .ok (.rt (.bl true))) := by kernel_rfl

end K95

set_option Elab.async false
set_option linter.all false
set_option maxRecDepth 100000
set_option maxHeartbeats 0
/-! K95M: the law's run, by shapes (printed by genl2.py). -/
namespace K95
open PySem PySem.Spec PyProof.Rows L2 AX

/-! ### what is seen: shapes -/
def names3 (j : Nat) (xs : List Str) : List Str := xs.take j
theorem seen_ok0 : SeenOK [] 0 [] := ⟨rfl, by decide, fun row a b c s t => ck0 row a b c s t, fun row a b c s t q => sn0 row a b c s t q⟩
theorem wo_s (a b c s t : Int) : wo a b c s t "s" = s := by kernel_rfl
theorem wo_t (a b c s t : Int) : wo a b c s t "t" = t := by kernel_rfl
theorem seen_ok0t : SeenOK [] 1 ["s", "t"] := ⟨rfl, by decide, fun row a b c s t => ck0t row a b c s t, fun row a b c s t q => by
  rw [sn0t row a b c s t q]
  simp only [List.map_cons, List.map_nil, wo_s, wo_t]⟩
theorem seen_ok1 {x : Str} (hx : x ∈ five) : SeenOK [boxV x] 0 [x] := ⟨rfl, by simp, fun row a b c s t => ck1 row a b c s t x hx, fun row a b c s t q => sn1 row a b c s t q x hx⟩
theorem seen_ok1t {x : Str} (hx : x ∈ five) : SeenOK [boxV x] 1 [x, "s", "t"] := ⟨rfl, by simp, fun row a b c s t => ck1t row a b c s t x hx, fun row a b c s t q => by
  rw [sn1t row a b c s t q x hx]
  simp only [List.map_cons, List.map_nil, wo_s, wo_t]⟩
theorem seen_ok2 {x y : Str} (hx : x ∈ five) (hy : y ∈ five) (ne : x ≠ y) : SeenOK [boxV x, boxV y] 0 [x, y] := ⟨rfl, by simp, fun row a b c s t => ck2 row a b c s t x hx y hy ne, fun row a b c s t q => sn2 row a b c s t q x hx y hy⟩
theorem seen_ok2t {x y : Str} (hx : x ∈ five) (hy : y ∈ five) (ne : x ≠ y) : SeenOK [boxV x, boxV y] 1 [x, y, "s", "t"] := ⟨rfl, by simp, fun row a b c s t => ck2t row a b c s t x hx y hy ne, fun row a b c s t q => by
  rw [sn2t row a b c s t q x hx y hy]
  simp only [List.map_cons, List.map_nil, wo_s, wo_t]⟩
/-! ### the tail's needs -/
theorem purs7 {a b c d e f g : AV} (h1 : a.pur = true) (h2 : b.pur = true) (h3 : c.pur = true) (h4 : d.pur = true) (h5 : e.pur = true) (h6 : f.pur = true) (h7 : g.pur = true) : AV.purs [a, b, c, d, e, f, g] = true := by
  unfold AV.purs; rw [h1]
  unfold AV.purs; rw [h2]
  unfold AV.purs; rw [h3]
  unfold AV.purs; rw [h4]
  unfold AV.purs; rw [h5]
  exact purs2 h6 h7
theorem op_pair {w : PySem.World} {a b c d e f g : AV} {v : Bool} (h : ∃ l, ends (f_is_pairO w [a, b, c, d, e, f, g]) = some (l, .ok (.bl v)) ∧ ∀ p ∈ l, p) (h1 : a.pur = true) (h2 : b.pur = true) (h3 : c.pur = true) (h4 : d.pur = true) (h5 : e.pur = true) (h6 : f.pur = true) (h7 : g.pur = true) : OPr 7 (f_is_pairO w) (pairG w) [a, b, c, d, e, f, g] ∧ pairB w [a, b, c, d, e, f, g] = v := by
  obtain ⟨l, e1, hl⟩ := h
  have hv := pairB_of e1
  exact ⟨⟨⟨purs7 h1 h2 h3 h4 h5 h6 h7, rfl⟩, rfl, by unfold pairG; rw [hv]; exact gives_of e1 hl⟩, hv⟩
theorem op_not {w : PySem.World} {a b c d e f g : AV} {v : Bool} (h : ∃ l, ends (f_is_pairO w [a, b, c, d, e, f, g]) = some (l, .ok (.bl v)) ∧ ∀ p ∈ l, p) (hv : v = false) (h1 : a.pur = true) (h2 : b.pur = true) (h3 : c.pur = true) (h4 : d.pur = true) (h5 : e.pur = true) (h6 : f.pur = true) (h7 : g.pur = true) : OPr 7 (f_is_pairO w) (fun _ => .bl false) [a, b, c, d, e, f, g] := by
  obtain ⟨l, e1, hl⟩ := h
  subst hv
  exact ⟨⟨purs7 h1 h2 h3 h4 h5 h6 h7, rfl⟩, rfl, gives_of e1 hl⟩
/-! ### the comprehension of what is unlike -/
def fiveK : List Key := [.inr "a", .inr "b", .inr "c", .inr "s", .inr "t"]
theorem look_dK {A : AH} {i : Nat} {a b c s t : Int} (h : A[i]? = some (.dK fiveK [.int a, .int b, .int c, .int s, .int t])) {x : Str} (hx : x ∈ five) : gIx (.ref i) (.str x) A = some (.int (wo a b c s t x), A) := by
  have e : dGet fiveK [.int a, .int b, .int c, .int s, .int t] (.inr x) = some (.int (wo a b c s t x)) := by
    simp only [five, List.mem_cons, List.not_mem_nil, or_false] at hx
    rcases hx with rfl | rfl | rfl | rfl | rfl <;> kernel_rfl
  unfold gIx
  dsimp only
  rw [h]
  show (match dGet fiveK [.int a, .int b, .int c, .int s, .int t] (.inr x) with
    | some z => some (z, A)
    | none => none) = _
  rw [e]
theorem flt_loop {A : AH} {n : Nat} {L : List Str} (hL : L.length ≤ 100) (hA : A[n]? = some (.lst (L.map AV.str))) {ft : ASt → M Bool} {p : Str → Bool} {s : ASt} (hs : 27 < s.length) {xx : AExc → AH → Prop} {kk : List AV → AH → Prop}
    (hft : ∀ x ∈ L, ∀ (kb : Bool → AH → Prop), kb (p x) A → Yes (ft (s.set 27 (some (.str x)))) A kb (fun _ _ => False)) (q : kk ((L.filter p).map AV.str) A) :
    ∀ (r i fuel : Nat), i + r = L.length → r < fuel →
      Yes (loopC (fun i A => match A[n]? with
        | some (.lst ys) => some ys[i]?
        | _ => none) (cName 27) ft (aVar 27) s fuel i (((L.take i).filter p).map AV.str)) A kk xx := by
  intro r
  induction r with
  | zero =>
    intro i fuel hi hf
    cases fuel with
    | zero => omega
    | succ fuel =>
      refine y_bind (y_get (z := none) ?_ (y_pure ?_))
      · dsimp only
        rw [hA]
        dsimp only
        rw [List.getElem?_eq_none (by rw [List.length_map]; omega)]
      · rw [List.take_of_length_le (by omega)]
        exact q
  | succ r ih =>
    intro i fuel hi hf
    cases fuel with
    | zero => omega
    | succ fuel =>
      have il : i < L.length := by omega
      refine y_bind (y_get (z := some (.str L[i])) ?_ ?_)
      · dsimp only
        rw [hA]
        dsimp only
        rw [List.getElem?_map, List.getElem?_eq_getElem il]
        rfl
      · refine y_bind (y_get (z := s.set 27 (some (.str L[i]))) rfl (y_bind (y_nox (hft _ (List.getElem_mem il) _ ?_))))
        have tk : (L.take (i + 1)).filter p = (L.take i).filter p ++ if p L[i] = true then [L[i]] else [] := by
          rw [List.take_succ, List.getElem?_eq_getElem il, List.filter_append]
          show _ ++ List.filter p [L[i]] = _
          cases hp : p L[i] with
          | true => rw [List.filter_cons_of_pos hp]; rfl
          | false => rw [List.filter_cons_of_neg (by rw [hp]; exact Bool.false_ne_true)]; rfl
        cases hp : p L[i] with
        | true =>
          refine y_bind (y_nox (y_var (List.getElem?_set_self hs) (y_bind (y_chk ?_ ?_))))
          · have l1 : ((L.take i).filter p).length ≤ (L.take i).length := List.length_filter_le ..
            rw [List.length_map]
            rw [List.length_take] at l1
            exact Nat.ble_eq_true_of_le (by omega)
          · rw [hp, if_pos rfl] at tk
            have e : ((L.take i).filter p).map AV.str ++ [AV.str L[i]] = ((L.take (i + 1)).filter p).map AV.str := by
              rw [tk, List.map_append]
              rfl
            rw [e]
            exact ih (i + 1) fuel (by omega) (by omega)
        | false =>
          rw [hp, if_neg Bool.false_ne_true, List.append_nil] at tk
          show Yes (loopC _ _ _ _ _ fuel (i + 1) (((L.take i).filter p).map AV.str)) A kk xx
          rw [← tk]
          exact ih (i + 1) fuel (by omega) (by omega)
theorem eq_nil {A : AH} {i j : Nat} {F : List Str} (hF : F.length ≤ 4) (hf : ∀ x ∈ F, x ∈ five) (h1 : A[i]? = some (.lst (F.map AV.str))) (h2 : A[j]? = some (.lst [])) : gEq (.ref i) (.ref j) A = some (.bl F.isEmpty, A) := by
  have hd : ∀ ks : List Str, AV.ds (ks.map AV.str) = some (ks.map PyData.str) := by
    intro ks
    induction ks with
    | nil => rfl
    | cons k ks ih =>
      show (match AV.d (.str k), AV.ds (ks.map AV.str) with
        | some a, some b => some (a :: b)
        | _, _ => none) = _
      rw [ih]
      rfl
  have t1 : toD A (.ref i) = some (.list (F.map PyData.str)) := by
    unfold toD
    dsimp only
    rw [h1]
    dsimp only
    rw [hd]
    rfl
  have t2 : toD A (.ref j) = some (.list []) := by
    unfold toD
    dsimp only
    rw [h2]
    rfl
  have c1 : ∀ G : List Str, (∀ x ∈ G, x ∈ five) → PyData.canLayAll0 (G.map PyData.str) = true := by
    intro G
    induction G with
    | nil => intro _; rfl
    | cons g G ih =>
      intro hG
      have hg := hG g List.mem_cons_self
      have e1 : PyData.canLay0 (.str g) = true := by
        simp only [five, List.mem_cons, List.not_mem_nil, or_false] at hg
        rcases hg with rfl | rfl | rfl | rfl | rfl <;> decide +kernel
      show (PyData.canLay0 (.str g) && PyData.canLayAll0 (G.map PyData.str)) = true
      rw [e1, ih fun x hx => hG x (List.mem_cons_of_mem _ hx)]
      rfl
  have d1 : decide (PyData.depth (.list (F.map PyData.str)) ≤ 64) = true := by
    match F, hF with
    | [], _ => rfl
    | [a], _ => rfl
    | [a, b], _ => rfl
    | [a, b, c], _ => rfl
    | [a, b, c, d], _ => rfl
    | _ :: _ :: _ :: _ :: _ :: _, h => simp at h
  have sh : (SeqAt.shaped (.list (F.map PyData.str)) && SeqAt.shaped (.list [])) = true := by
    show ((PyData.canLayAll0 (F.map PyData.str) && decide (PyData.depth (.list (F.map PyData.str)) ≤ 64)) && true) = true
    rw [c1 F hf, d1]
    rfl
  have ev : PyData.eqv (.list (F.map PyData.str)) (.list []) = F.isEmpty := by
    cases F with
    | nil => rfl
    | cons a F => rfl
  show (match eqX A (.ref i) (.ref j) with
    | some b => some (AV.bl b, A)
    | none => none) = _
  have e : eqX A (.ref i) (.ref j) = some F.isEmpty := by
    show (match toD A (.ref i), toD A (.ref j) with
      | some d, some e => match SeqAt.shaped d && SeqAt.shaped e with
        | true => some (PyData.eqv d e)
        | false => none
      | _, _ => none) = _
    rw [t1, t2]
    dsimp only
    rw [sh]
    dsimp only
    rw [ev]
  rw [e]
theorem flt_same (f g : Str → Int) : ∀ L : List Str, (L.filter fun x => !decide (f x = g x)).isEmpty = decide (L.map f = L.map g) := by
  intro L
  induction L with
  | nil => rfl
  | cons a L ih =>
    by_cases h : f a = g a
    · rw [List.filter_cons_of_neg (by rw [decide_eq_true h]; exact Bool.false_ne_true), ih]
      exact decide_eq_decide.mpr ⟨fun e => by rw [List.map_cons, List.map_cons, h, e], fun e => (List.cons.inj e).2⟩
    · rw [List.filter_cons_of_pos (by rw [decide_eq_false h]; rfl)]
      exact (decide_eq_false fun e => h (List.cons.inj e).1).symm

theorem l13_00 (w : PySem.World) (T : Addr) (M one two : AV) (r0 r1 r2 s t o0 o1 o2 s' t' : Int) {x y z : Str} (hx : x ∈ five) (hy : y ∈ five) (hz : z ∈ five) (u0 u1 u2 u4 u7 u11 u16 u17 : Option AV) (h1 h2 h3 h4 h6 h7 h8 h10 h11 : AO)
    (q : ∀ (u12 u13 u14 u15 u20 : Option AV) (h12 h13 h14 h15 h16 h17 h18 h19 h20 h21 : AO) (due : Bool), due = dueB ([] : List Str) z (wo r0 r1 r2 s t) (wo o0 o1 o2 s' t') → Yes (lw16 w T [u0, u1, u2, some buildT, u4, some M, some (.ref 5), u7, some (.ref 9), some one, some two, u11, u12, u13, u14, u15, u16, u17, some (sightV [] 0), some (nameV z), u20, some (.bl due), none, none, none, none, none, none, none, none, none, none]) [.tab T qLam, h1, h2, h3, h4, .lst [.int r0, .int r1, .int r2], h6, h7, h8, .lst [.int o0, .int o1, .int o2], h10, h11, h12, h13, h14, h15, h16, h17, h18, h19, h20, h21] Fin NX) : Yes (lw13 w T [u0, u1, u2, some buildT, u4, some M, some (.ref 5), u7, some (.ref 9), some one, some two, u11, some (.ref 12), some (.int 0), some (.str z), some (.ref 13), u16, u17, none, none, none, none, none, none, none, none, none, none, none, none, none, none]) [.tab T qLam, h1, h2, h3, h4, .lst [.int r0, .int r1, .int r2], h6, h7, h8, .lst [.int o0, .int o1, .int o2], h10, h11, .lst [], .lst [.ref 14, .ref 15], .dK fiveK [.int r0, .int r1, .int r2, .int s, .int t], .dK fiveK [.int o0, .int o1, .int o2, .int s', .int t']] Fin NX := by
  have hs5 : ("s" : Str) ∈ five := by simp [five]
  have ht5 : ("t" : Str) ∈ five := by simp [five]
  have hin : ∀ v ∈ ([] : List Str), v ∈ five := by
    intro v hv
    cases hv
  unfold lw13
  refine y_seq (y_of (l := []) (v := .nx [u0, u1, u2, some buildT, u4, some M, some (.ref 5), u7, some (.ref 9), some one, some two, u11, some (.ref 12), some (.int 0), some (.str z), some (.ref 13), u16, u17, some (sightV [] 0), some (nameV z), none, none, none, none, none, none, none, none, none, none, none, none]) (A' := [.tab T qLam, h1, h2, h3, h4, .lst [.int r0, .int r1, .int r2], h6, h7, h8, .lst [.int o0, .int o1, .int o2], h10, h11, .lst [], .lst [.ref 14, .ref 15], .dK fiveK [.int r0, .int r1, .int r2, .int s, .int t], .dK fiveK [.int o0, .int o1, .int o2, .int s', .int t'], .lst []]) (by kernel_rfl) nofun ?_)
  show Yes (lw14 w T [u0, u1, u2, some buildT, u4, some M, some (.ref 5), u7, some (.ref 9), some one, some two, u11, some (.ref 12), some (.int 0), some (.str z), some (.ref 13), u16, u17, some (sightV [] 0), some (nameV z), none, none, none, none, none, none, none, none, none, none, none, none]) [.tab T qLam, h1, h2, h3, h4, .lst [.int r0, .int r1, .int r2], h6, h7, h8, .lst [.int o0, .int o1, .int o2], h10, h11, .lst [], .lst [.ref 14, .ref 15], .dK fiveK [.int r0, .int r1, .int r2, .int s, .int t], .dK fiveK [.int o0, .int o1, .int o2, .int s', .int t'], .lst []] Fin NX
  unfold lw14
  refine y_seq (y_set (y_bin (y_bind (y_bind (y_of (l := []) (v := .ref 19) (A' := [.tab T qLam, h1, h2, h3, h4, .lst [.int r0, .int r1, .int r2], h6, h7, h8, .lst [.int o0, .int o1, .int o2], h10, h11, .lst [], .lst [.ref 14, .ref 15], .dK fiveK [.int r0, .int r1, .int r2, .int s, .int t], .dK fiveK [.int o0, .int o1, .int o2, .int s', .int t'], .lst [], .lst [.str "s", .str "t"], .lst [], .lst []]) (by kernel_rfl) nofun ?_)))))
  refine y_lift (z := ((1, fun i A => match (A[19]? : Option AO) with
      | some (.lst ys) => some ys[i]?
      | _ => none) : AIt)) (A' := [.tab T qLam, h1, h2, h3, h4, .lst [.int r0, .int r1, .int r2], h6, h7, h8, .lst [.int o0, .int o1, .int o2], h10, h11, .lst [], .lst [.ref 14, .ref 15], .dK fiveK [.int r0, .int r1, .int r2, .int s, .int t], .dK fiveK [.int o0, .int o1, .int o2, .int s', .int t'], .lst [], .lst [.str "s", .str "t"], .lst [], .lst []]) rfl ?_
  refine y_bind (flt_loop (L := ([] : List Str)) (p := fun x => !decide (wo r0 r1 r2 s t x = wo o0 o1 o2 s' t' x)) (by simp) rfl (by show (27 : Nat) < 32; decide) ?_ ?_ 0 0 1 (by simp) (by omega))
  · intro v hv kb hk
    have h5 : v ∈ five := hin v hv
    exact y_val (y_bin (y_bin (y_bin (y_var rfl (y_c ⟨_, _, rfl, y_var rfl ⟨_, _, look_dK rfl h5, y_bin (y_bin (y_var rfl (y_c ⟨_, _, rfl, y_var rfl ⟨_, _, look_dK rfl h5, _, _, rfl, _, rfl, hk⟩⟩)))⟩⟩)))))
  · refine y_lift rfl (y_lst (y_nil ⟨rfl, _, _, eq_nil (F := List.filter (fun x => !decide (wo r0 r1 r2 s t x = wo o0 o1 o2 s' t' x)) ([] : List Str)) (Nat.le_trans (List.length_filter_le ..) (by simp)) (fun v hv' => hin v (List.mem_filter.mp hv').1) rfl rfl, ?_⟩))
    rw [flt_same]
    unfold lw15
    refine y_seq (y_set (y_andV (y_var rfl ⟨_, rfl, ?_⟩)))
    cases hb : decide (([] : List Str).map (wo r0 r1 r2 s t) = ([] : List Str).map (wo o0 o1 o2 s' t')) with
    | true =>
      refine y_bin (y_bin (y_bin (y_var rfl (y_c ⟨_, _, rfl, y_var rfl ⟨_, _, look_dK rfl hz, y_bin (y_bin (y_var rfl (y_c ⟨_, _, rfl, y_var rfl ⟨_, _, look_dK rfl hz, _, _, rfl, ?_⟩⟩)))⟩⟩))))
      exact q _ _ _ _ _ _ _ _ _ _ _ _ _ _ _ _ (by unfold dueB; rw [hb]; rfl)
    | false => exact q _ _ _ _ _ _ _ _ _ _ _ _ _ _ _ _ (by unfold dueB; rw [hb]; rfl)

theorem l13_01 (w : PySem.World) (T : Addr) (M one two : AV) (r0 r1 r2 s t o0 o1 o2 s' t' : Int) {x y z : Str} (hx : x ∈ five) (hy : y ∈ five) (hz : z ∈ five) (u0 u1 u2 u4 u7 u11 u16 u17 : Option AV) (h1 h2 h3 h4 h6 h7 h8 h10 h11 : AO)
    (q : ∀ (u12 u13 u14 u15 u20 : Option AV) (h12 h13 h14 h15 h16 h17 h18 h19 h20 h21 : AO) (due : Bool), due = dueB (["s", "t"] : List Str) z (wo r0 r1 r2 s t) (wo o0 o1 o2 s' t') → Yes (lw16 w T [u0, u1, u2, some buildT, u4, some M, some (.ref 5), u7, some (.ref 9), some one, some two, u11, u12, u13, u14, u15, u16, u17, some (sightV [] 1), some (nameV z), u20, some (.bl due), none, none, none, none, none, none, none, none, none, none]) [.tab T qLam, h1, h2, h3, h4, .lst [.int r0, .int r1, .int r2], h6, h7, h8, .lst [.int o0, .int o1, .int o2], h10, h11, h12, h13, h14, h15, h16, h17, h18, h19, h20, h21] Fin NX) : Yes (lw13 w T [u0, u1, u2, some buildT, u4, some M, some (.ref 5), u7, some (.ref 9), some one, some two, u11, some (.ref 12), some (.int 1), some (.str z), some (.ref 13), u16, u17, none, none, none, none, none, none, none, none, none, none, none, none, none, none]) [.tab T qLam, h1, h2, h3, h4, .lst [.int r0, .int r1, .int r2], h6, h7, h8, .lst [.int o0, .int o1, .int o2], h10, h11, .lst [], .lst [.ref 14, .ref 15], .dK fiveK [.int r0, .int r1, .int r2, .int s, .int t], .dK fiveK [.int o0, .int o1, .int o2, .int s', .int t']] Fin NX := by
  have hs5 : ("s" : Str) ∈ five := by simp [five]
  have ht5 : ("t" : Str) ∈ five := by simp [five]
  have hin : ∀ v ∈ (["s", "t"] : List Str), v ∈ five := by
    intro v hv
    simp only [List.mem_cons, List.not_mem_nil, or_false] at hv
    rcases hv with rfl | rfl <;> assumption
  unfold lw13
  refine y_seq (y_of (l := []) (v := .nx [u0, u1, u2, some buildT, u4, some M, some (.ref 5), u7, some (.ref 9), some one, some two, u11, some (.ref 12), some (.int 1), some (.str z), some (.ref 13), u16, u17, some (sightV [] 1), some (nameV z), none, none, none, none, none, none, none, none, none, none, none, none]) (A' := [.tab T qLam, h1, h2, h3, h4, .lst [.int r0, .int r1, .int r2], h6, h7, h8, .lst [.int o0, .int o1, .int o2], h10, h11, .lst [], .lst [.ref 14, .ref 15], .dK fiveK [.int r0, .int r1, .int r2, .int s, .int t], .dK fiveK [.int o0, .int o1, .int o2, .int s', .int t'], .lst []]) (by kernel_rfl) nofun ?_)
  show Yes (lw14 w T [u0, u1, u2, some buildT, u4, some M, some (.ref 5), u7, some (.ref 9), some one, some two, u11, some (.ref 12), some (.int 1), some (.str z), some (.ref 13), u16, u17, some (sightV [] 1), some (nameV z), none, none, none, none, none, none, none, none, none, none, none, none]) [.tab T qLam, h1, h2, h3, h4, .lst [.int r0, .int r1, .int r2], h6, h7, h8, .lst [.int o0, .int o1, .int o2], h10, h11, .lst [], .lst [.ref 14, .ref 15], .dK fiveK [.int r0, .int r1, .int r2, .int s, .int t], .dK fiveK [.int o0, .int o1, .int o2, .int s', .int t'], .lst []] Fin NX
  unfold lw14
  refine y_seq (y_set (y_bin (y_bind (y_bind (y_of (l := []) (v := .ref 19) (A' := [.tab T qLam, h1, h2, h3, h4, .lst [.int r0, .int r1, .int r2], h6, h7, h8, .lst [.int o0, .int o1, .int o2], h10, h11, .lst [], .lst [.ref 14, .ref 15], .dK fiveK [.int r0, .int r1, .int r2, .int s, .int t], .dK fiveK [.int o0, .int o1, .int o2, .int s', .int t'], .lst [], .lst [.str "s", .str "t"], .lst [.str "s", .str "t"], .lst [.str "s", .str "t"]]) (by kernel_rfl) nofun ?_)))))
  refine y_lift (z := ((3, fun i A => match (A[19]? : Option AO) with
      | some (.lst ys) => some ys[i]?
      | _ => none) : AIt)) (A' := [.tab T qLam, h1, h2, h3, h4, .lst [.int r0, .int r1, .int r2], h6, h7, h8, .lst [.int o0, .int o1, .int o2], h10, h11, .lst [], .lst [.ref 14, .ref 15], .dK fiveK [.int r0, .int r1, .int r2, .int s, .int t], .dK fiveK [.int o0, .int o1, .int o2, .int s', .int t'], .lst [], .lst [.str "s", .str "t"], .lst [.str "s", .str "t"], .lst [.str "s", .str "t"]]) rfl ?_
  refine y_bind (flt_loop (L := (["s", "t"] : List Str)) (p := fun x => !decide (wo r0 r1 r2 s t x = wo o0 o1 o2 s' t' x)) (by simp) rfl (by show (27 : Nat) < 32; decide) ?_ ?_ 2 0 3 (by simp) (by omega))
  · intro v hv kb hk
    have h5 : v ∈ five := hin v hv
    exact y_val (y_bin (y_bin (y_bin (y_var rfl (y_c ⟨_, _, rfl, y_var rfl ⟨_, _, look_dK rfl h5, y_bin (y_bin (y_var rfl (y_c ⟨_, _, rfl, y_var rfl ⟨_, _, look_dK rfl h5, _, _, rfl, _, rfl, hk⟩⟩)))⟩⟩)))))
  · refine y_lift rfl (y_lst (y_nil ⟨rfl, _, _, eq_nil (F := List.filter (fun x => !decide (wo r0 r1 r2 s t x = wo o0 o1 o2 s' t' x)) (["s", "t"] : List Str)) (Nat.le_trans (List.length_filter_le ..) (by simp)) (fun v hv' => hin v (List.mem_filter.mp hv').1) rfl rfl, ?_⟩))
    rw [flt_same]
    unfold lw15
    refine y_seq (y_set (y_andV (y_var rfl ⟨_, rfl, ?_⟩)))
    cases hb : decide ((["s", "t"] : List Str).map (wo r0 r1 r2 s t) = (["s", "t"] : List Str).map (wo o0 o1 o2 s' t')) with
    | true =>
      refine y_bin (y_bin (y_bin (y_var rfl (y_c ⟨_, _, rfl, y_var rfl ⟨_, _, look_dK rfl hz, y_bin (y_bin (y_var rfl (y_c ⟨_, _, rfl, y_var rfl ⟨_, _, look_dK rfl hz, _, _, rfl, ?_⟩⟩)))⟩⟩))))
      exact q _ _ _ _ _ _ _ _ _ _ _ _ _ _ _ _ (by unfold dueB; rw [hb]; rfl)
    | false => exact q _ _ _ _ _ _ _ _ _ _ _ _ _ _ _ _ (by unfold dueB; rw [hb]; rfl)

theorem l13_10 (w : PySem.World) (T : Addr) (M one two : AV) (r0 r1 r2 s t o0 o1 o2 s' t' : Int) {x y z : Str} (hx : x ∈ five) (hy : y ∈ five) (hz : z ∈ five) (u0 u1 u2 u4 u7 u11 u16 u17 : Option AV) (h1 h2 h3 h4 h6 h7 h8 h10 h11 : AO)
    (q : ∀ (u12 u13 u14 u15 u20 : Option AV) (h12 h13 h14 h15 h16 h17 h18 h19 h20 h21 : AO) (due : Bool), due = dueB ([x] : List Str) z (wo r0 r1 r2 s t) (wo o0 o1 o2 s' t') → Yes (lw16 w T [u0, u1, u2, some buildT, u4, some M, some (.ref 5), u7, some (.ref 9), some one, some two, u11, u12, u13, u14, u15, u16, u17, some (sightV [boxV x] 0), some (nameV z), u20, some (.bl due), none, none, none, none, none, none, none, none, none, none]) [.tab T qLam, h1, h2, h3, h4, .lst [.int r0, .int r1, .int r2], h6, h7, h8, .lst [.int o0, .int o1, .int o2], h10, h11, h12, h13, h14, h15, h16, h17, h18, h19, h20, h21] Fin NX) : Yes (lw13 w T [u0, u1, u2, some buildT, u4, some M, some (.ref 5), u7, some (.ref 9), some one, some two, u11, some (.ref 12), some (.int 0), some (.str z), some (.ref 13), u16, u17, none, none, none, none, none, none, none, none, none, none, none, none, none, none]) [.tab T qLam, h1, h2, h3, h4, .lst [.int r0, .int r1, .int r2], h6, h7, h8, .lst [.int o0, .int o1, .int o2], h10, h11, .lst [.str x], .lst [.ref 14, .ref 15], .dK fiveK [.int r0, .int r1, .int r2, .int s, .int t], .dK fiveK [.int o0, .int o1, .int o2, .int s', .int t']] Fin NX := by
  have hs5 : ("s" : Str) ∈ five := by simp [five]
  have ht5 : ("t" : Str) ∈ five := by simp [five]
  have hin : ∀ v ∈ ([x] : List Str), v ∈ five := by
    intro v hv
    simp only [List.mem_cons, List.not_mem_nil, or_false] at hv
    rcases hv with rfl <;> assumption
  unfold lw13
  refine y_seq (y_of (l := []) (v := .nx [u0, u1, u2, some buildT, u4, some M, some (.ref 5), u7, some (.ref 9), some one, some two, u11, some (.ref 12), some (.int 0), some (.str z), some (.ref 13), u16, u17, some (sightV [boxV x] 0), some (nameV z), none, none, none, none, none, none, none, none, none, none, none, none]) (A' := [.tab T qLam, h1, h2, h3, h4, .lst [.int r0, .int r1, .int r2], h6, h7, h8, .lst [.int o0, .int o1, .int o2], h10, h11, .lst [.str x], .lst [.ref 14, .ref 15], .dK fiveK [.int r0, .int r1, .int r2, .int s, .int t], .dK fiveK [.int o0, .int o1, .int o2, .int s', .int t'], .lst [boxV x]]) (by kernel_rfl) nofun ?_)
  show Yes (lw14 w T [u0, u1, u2, some buildT, u4, some M, some (.ref 5), u7, some (.ref 9), some one, some two, u11, some (.ref 12), some (.int 0), some (.str z), some (.ref 13), u16, u17, some (sightV [boxV x] 0), some (nameV z), none, none, none, none, none, none, none, none, none, none, none, none]) [.tab T qLam, h1, h2, h3, h4, .lst [.int r0, .int r1, .int r2], h6, h7, h8, .lst [.int o0, .int o1, .int o2], h10, h11, .lst [.str x], .lst [.ref 14, .ref 15], .dK fiveK [.int r0, .int r1, .int r2, .int s, .int t], .dK fiveK [.int o0, .int o1, .int o2, .int s', .int t'], .lst [boxV x]] Fin NX
  unfold lw14
  refine y_seq (y_set (y_bin (y_bind (y_bind (y_of (l := []) (v := .ref 19) (A' := [.tab T qLam, h1, h2, h3, h4, .lst [.int r0, .int r1, .int r2], h6, h7, h8, .lst [.int o0, .int o1, .int o2], h10, h11, .lst [.str x], .lst [.ref 14, .ref 15], .dK fiveK [.int r0, .int r1, .int r2, .int s, .int t], .dK fiveK [.int o0, .int o1, .int o2, .int s', .int t'], .lst [boxV x], .lst [.str "s", .str "t"], .lst [], .lst [.str x]]) (by kernel_rfl) nofun ?_)))))
  refine y_lift (z := ((2, fun i A => match (A[19]? : Option AO) with
      | some (.lst ys) => some ys[i]?
      | _ => none) : AIt)) (A' := [.tab T qLam, h1, h2, h3, h4, .lst [.int r0, .int r1, .int r2], h6, h7, h8, .lst [.int o0, .int o1, .int o2], h10, h11, .lst [.str x], .lst [.ref 14, .ref 15], .dK fiveK [.int r0, .int r1, .int r2, .int s, .int t], .dK fiveK [.int o0, .int o1, .int o2, .int s', .int t'], .lst [boxV x], .lst [.str "s", .str "t"], .lst [], .lst [.str x]]) rfl ?_
  refine y_bind (flt_loop (L := ([x] : List Str)) (p := fun x => !decide (wo r0 r1 r2 s t x = wo o0 o1 o2 s' t' x)) (by simp) rfl (by show (27 : Nat) < 32; decide) ?_ ?_ 1 0 2 (by simp) (by omega))
  · intro v hv kb hk
    have h5 : v ∈ five := hin v hv
    exact y_val (y_bin (y_bin (y_bin (y_var rfl (y_c ⟨_, _, rfl, y_var rfl ⟨_, _, look_dK rfl h5, y_bin (y_bin (y_var rfl (y_c ⟨_, _, rfl, y_var rfl ⟨_, _, look_dK rfl h5, _, _, rfl, _, rfl, hk⟩⟩)))⟩⟩)))))
  · refine y_lift rfl (y_lst (y_nil ⟨rfl, _, _, eq_nil (F := List.filter (fun x => !decide (wo r0 r1 r2 s t x = wo o0 o1 o2 s' t' x)) ([x] : List Str)) (Nat.le_trans (List.length_filter_le ..) (by simp)) (fun v hv' => hin v (List.mem_filter.mp hv').1) rfl rfl, ?_⟩))
    rw [flt_same]
    unfold lw15
    refine y_seq (y_set (y_andV (y_var rfl ⟨_, rfl, ?_⟩)))
    cases hb : decide (([x] : List Str).map (wo r0 r1 r2 s t) = ([x] : List Str).map (wo o0 o1 o2 s' t')) with
    | true =>
      refine y_bin (y_bin (y_bin (y_var rfl (y_c ⟨_, _, rfl, y_var rfl ⟨_, _, look_dK rfl hz, y_bin (y_bin (y_var rfl (y_c ⟨_, _, rfl, y_var rfl ⟨_, _, look_dK rfl hz, _, _, rfl, ?_⟩⟩)))⟩⟩))))
      exact q _ _ _ _ _ _ _ _ _ _ _ _ _ _ _ _ (by unfold dueB; rw [hb]; rfl)
    | false => exact q _ _ _ _ _ _ _ _ _ _ _ _ _ _ _ _ (by unfold dueB; rw [hb]; rfl)

theorem l13_11 (w : PySem.World) (T : Addr) (M one two : AV) (r0 r1 r2 s t o0 o1 o2 s' t' : Int) {x y z : Str} (hx : x ∈ five) (hy : y ∈ five) (hz : z ∈ five) (u0 u1 u2 u4 u7 u11 u16 u17 : Option AV) (h1 h2 h3 h4 h6 h7 h8 h10 h11 : AO)
    (q : ∀ (u12 u13 u14 u15 u20 : Option AV) (h12 h13 h14 h15 h16 h17 h18 h19 h20 h21 : AO) (due : Bool), due = dueB ([x, "s", "t"] : List Str) z (wo r0 r1 r2 s t) (wo o0 o1 o2 s' t') → Yes (lw16 w T [u0, u1, u2, some buildT, u4, some M, some (.ref 5), u7, some (.ref 9), some one, some two, u11, u12, u13, u14, u15, u16, u17, some (sightV [boxV x] 1), some (nameV z), u20, some (.bl due), none, none, none, none, none, none, none, none, none, none]) [.tab T qLam, h1, h2, h3, h4, .lst [.int r0, .int r1, .int r2], h6, h7, h8, .lst [.int o0, .int o1, .int o2], h10, h11, h12, h13, h14, h15, h16, h17, h18, h19, h20, h21] Fin NX) : Yes (lw13 w T [u0, u1, u2, some buildT, u4, some M, some (.ref 5), u7, some (.ref 9), some one, some two, u11, some (.ref 12), some (.int 1), some (.str z), some (.ref 13), u16, u17, none, none, none, none, none, none, none, none, none, none, none, none, none, none]) [.tab T qLam, h1, h2, h3, h4, .lst [.int r0, .int r1, .int r2], h6, h7, h8, .lst [.int o0, .int o1, .int o2], h10, h11, .lst [.str x], .lst [.ref 14, .ref 15], .dK fiveK [.int r0, .int r1, .int r2, .int s, .int t], .dK fiveK [.int o0, .int o1, .int o2, .int s', .int t']] Fin NX := by
  have hs5 : ("s" : Str) ∈ five := by simp [five]
  have ht5 : ("t" : Str) ∈ five := by simp [five]
  have hin : ∀ v ∈ ([x, "s", "t"] : List Str), v ∈ five := by
    intro v hv
    simp only [List.mem_cons, List.not_mem_nil, or_false] at hv
    rcases hv with rfl | rfl | rfl <;> assumption
  unfold lw13
  refine y_seq (y_of (l := []) (v := .nx [u0, u1, u2, some buildT, u4, some M, some (.ref 5), u7, some (.ref 9), some one, some two, u11, some (.ref 12), some (.int 1), some (.str z), some (.ref 13), u16, u17, some (sightV [boxV x] 1), some (nameV z), none, none, none, none, none, none, none, none, none, none, none, none]) (A' := [.tab T qLam, h1, h2, h3, h4, .lst [.int r0, .int r1, .int r2], h6, h7, h8, .lst [.int o0, .int o1, .int o2], h10, h11, .lst [.str x], .lst [.ref 14, .ref 15], .dK fiveK [.int r0, .int r1, .int r2, .int s, .int t], .dK fiveK [.int o0, .int o1, .int o2, .int s', .int t'], .lst [boxV x]]) (by kernel_rfl) nofun ?_)
  show Yes (lw14 w T [u0, u1, u2, some buildT, u4, some M, some (.ref 5), u7, some (.ref 9), some one, some two, u11, some (.ref 12), some (.int 1), some (.str z), some (.ref 13), u16, u17, some (sightV [boxV x] 1), some (nameV z), none, none, none, none, none, none, none, none, none, none, none, none]) [.tab T qLam, h1, h2, h3, h4, .lst [.int r0, .int r1, .int r2], h6, h7, h8, .lst [.int o0, .int o1, .int o2], h10, h11, .lst [.str x], .lst [.ref 14, .ref 15], .dK fiveK [.int r0, .int r1, .int r2, .int s, .int t], .dK fiveK [.int o0, .int o1, .int o2, .int s', .int t'], .lst [boxV x]] Fin NX
  unfold lw14
  refine y_seq (y_set (y_bin (y_bind (y_bind (y_of (l := []) (v := .ref 19) (A' := [.tab T qLam, h1, h2, h3, h4, .lst [.int r0, .int r1, .int r2], h6, h7, h8, .lst [.int o0, .int o1, .int o2], h10, h11, .lst [.str x], .lst [.ref 14, .ref 15], .dK fiveK [.int r0, .int r1, .int r2, .int s, .int t], .dK fiveK [.int o0, .int o1, .int o2, .int s', .int t'], .lst [boxV x], .lst [.str "s", .str "t"], .lst [.str "s", .str "t"], .lst [.str x, .str "s", .str "t"]]) (by kernel_rfl) nofun ?_)))))
  refine y_lift (z := ((4, fun i A => match (A[19]? : Option AO) with
      | some (.lst ys) => some ys[i]?
      | _ => none) : AIt)) (A' := [.tab T qLam, h1, h2, h3, h4, .lst [.int r0, .int r1, .int r2], h6, h7, h8, .lst [.int o0, .int o1, .int o2], h10, h11, .lst [.str x], .lst [.ref 14, .ref 15], .dK fiveK [.int r0, .int r1, .int r2, .int s, .int t], .dK fiveK [.int o0, .int o1, .int o2, .int s', .int t'], .lst [boxV x], .lst [.str "s", .str "t"], .lst [.str "s", .str "t"], .lst [.str x, .str "s", .str "t"]]) rfl ?_
  refine y_bind (flt_loop (L := ([x, "s", "t"] : List Str)) (p := fun x => !decide (wo r0 r1 r2 s t x = wo o0 o1 o2 s' t' x)) (by simp) rfl (by show (27 : Nat) < 32; decide) ?_ ?_ 3 0 4 (by simp) (by omega))
  · intro v hv kb hk
    have h5 : v ∈ five := hin v hv
    exact y_val (y_bin (y_bin (y_bin (y_var rfl (y_c ⟨_, _, rfl, y_var rfl ⟨_, _, look_dK rfl h5, y_bin (y_bin (y_var rfl (y_c ⟨_, _, rfl, y_var rfl ⟨_, _, look_dK rfl h5, _, _, rfl, _, rfl, hk⟩⟩)))⟩⟩)))))
  · refine y_lift rfl (y_lst (y_nil ⟨rfl, _, _, eq_nil (F := List.filter (fun x => !decide (wo r0 r1 r2 s t x = wo o0 o1 o2 s' t' x)) ([x, "s", "t"] : List Str)) (Nat.le_trans (List.length_filter_le ..) (by simp)) (fun v hv' => hin v (List.mem_filter.mp hv').1) rfl rfl, ?_⟩))
    rw [flt_same]
    unfold lw15
    refine y_seq (y_set (y_andV (y_var rfl ⟨_, rfl, ?_⟩)))
    cases hb : decide (([x, "s", "t"] : List Str).map (wo r0 r1 r2 s t) = ([x, "s", "t"] : List Str).map (wo o0 o1 o2 s' t')) with
    | true =>
      refine y_bin (y_bin (y_bin (y_var rfl (y_c ⟨_, _, rfl, y_var rfl ⟨_, _, look_dK rfl hz, y_bin (y_bin (y_var rfl (y_c ⟨_, _, rfl, y_var rfl ⟨_, _, look_dK rfl hz, _, _, rfl, ?_⟩⟩)))⟩⟩))))
      exact q _ _ _ _ _ _ _ _ _ _ _ _ _ _ _ _ (by unfold dueB; rw [hb]; rfl)
    | false => exact q _ _ _ _ _ _ _ _ _ _ _ _ _ _ _ _ (by unfold dueB; rw [hb]; rfl)

theorem l13_20 (w : PySem.World) (T : Addr) (M one two : AV) (r0 r1 r2 s t o0 o1 o2 s' t' : Int) {x y z : Str} (hx : x ∈ five) (hy : y ∈ five) (hz : z ∈ five) (u0 u1 u2 u4 u7 u11 u16 u17 : Option AV) (h1 h2 h3 h4 h6 h7 h8 h10 h11 : AO)
    (q : ∀ (u12 u13 u14 u15 u20 : Option AV) (h12 h13 h14 h15 h16 h17 h18 h19 h20 h21 : AO) (due : Bool), due = dueB ([x, y] : List Str) z (wo r0 r1 r2 s t) (wo o0 o1 o2 s' t') → Yes (lw16 w T [u0, u1, u2, some buildT, u4, some M, some (.ref 5), u7, some (.ref 9), some one, some two, u11, u12, u13, u14, u15, u16, u17, some (sightV [boxV x, boxV y] 0), some (nameV z), u20, some (.bl due), none, none, none, none, none, none, none, none, none, none]) [.tab T qLam, h1, h2, h3, h4, .lst [.int r0, .int r1, .int r2], h6, h7, h8, .lst [.int o0, .int o1, .int o2], h10, h11, h12, h13, h14, h15, h16, h17, h18, h19, h20, h21] Fin NX) : Yes (lw13 w T [u0, u1, u2, some buildT, u4, some M, some (.ref 5), u7, some (.ref 9), some one, some two, u11, some (.ref 12), some (.int 0), some (.str z), some (.ref 13), u16, u17, none, none, none, none, none, none, none, none, none, none, none, none, none, none]) [.tab T qLam, h1, h2, h3, h4, .lst [.int r0, .int r1, .int r2], h6, h7, h8, .lst [.int o0, .int o1, .int o2], h10, h11, .lst [.str x, .str y], .lst [.ref 14, .ref 15], .dK fiveK [.int r0, .int r1, .int r2, .int s, .int t], .dK fiveK [.int o0, .int o1, .int o2, .int s', .int t']] Fin NX := by
  have hs5 : ("s" : Str) ∈ five := by simp [five]
  have ht5 : ("t" : Str) ∈ five := by simp [five]
  have hin : ∀ v ∈ ([x, y] : List Str), v ∈ five := by
    intro v hv
    simp only [List.mem_cons, List.not_mem_nil, or_false] at hv
    rcases hv with rfl | rfl <;> assumption
  unfold lw13
  refine y_seq (y_of (l := []) (v := .nx [u0, u1, u2, some buildT, u4, some M, some (.ref 5), u7, some (.ref 9), some one, some two, u11, some (.ref 12), some (.int 0), some (.str z), some (.ref 13), u16, u17, some (sightV [boxV x, boxV y] 0), some (nameV z), none, none, none, none, none, none, none, none, none, none, none, none]) (A' := [.tab T qLam, h1, h2, h3, h4, .lst [.int r0, .int r1, .int r2], h6, h7, h8, .lst [.int o0, .int o1, .int o2], h10, h11, .lst [.str x, .str y], .lst [.ref 14, .ref 15], .dK fiveK [.int r0, .int r1, .int r2, .int s, .int t], .dK fiveK [.int o0, .int o1, .int o2, .int s', .int t'], .lst [boxV x, boxV y]]) (by kernel_rfl) nofun ?_)
  show Yes (lw14 w T [u0, u1, u2, some buildT, u4, some M, some (.ref 5), u7, some (.ref 9), some one, some two, u11, some (.ref 12), some (.int 0), some (.str z), some (.ref 13), u16, u17, some (sightV [boxV x, boxV y] 0), some (nameV z), none, none, none, none, none, none, none, none, none, none, none, none]) [.tab T qLam, h1, h2, h3, h4, .lst [.int r0, .int r1, .int r2], h6, h7, h8, .lst [.int o0, .int o1, .int o2], h10, h11, .lst [.str x, .str y], .lst [.ref 14, .ref 15], .dK fiveK [.int r0, .int r1, .int r2, .int s, .int t], .dK fiveK [.int o0, .int o1, .int o2, .int s', .int t'], .lst [boxV x, boxV y]] Fin NX
  unfold lw14
  refine y_seq (y_set (y_bin (y_bind (y_bind (y_of (l := []) (v := .ref 19) (A' := [.tab T qLam, h1, h2, h3, h4, .lst [.int r0, .int r1, .int r2], h6, h7, h8, .lst [.int o0, .int o1, .int o2], h10, h11, .lst [.str x, .str y], .lst [.ref 14, .ref 15], .dK fiveK [.int r0, .int r1, .int r2, .int s, .int t], .dK fiveK [.int o0, .int o1, .int o2, .int s', .int t'], .lst [boxV x, boxV y], .lst [.str "s", .str "t"], .lst [], .lst [.str x, .str y]]) (by kernel_rfl) nofun ?_)))))
  refine y_lift (z := ((3, fun i A => match (A[19]? : Option AO) with
      | some (.lst ys) => some ys[i]?
      | _ => none) : AIt)) (A' := [.tab T qLam, h1, h2, h3, h4, .lst [.int r0, .int r1, .int r2], h6, h7, h8, .lst [.int o0, .int o1, .int o2], h10, h11, .lst [.str x, .str y], .lst [.ref 14, .ref 15], .dK fiveK [.int r0, .int r1, .int r2, .int s, .int t], .dK fiveK [.int o0, .int o1, .int o2, .int s', .int t'], .lst [boxV x, boxV y], .lst [.str "s", .str "t"], .lst [], .lst [.str x, .str y]]) rfl ?_
  refine y_bind (flt_loop (L := ([x, y] : List Str)) (p := fun x => !decide (wo r0 r1 r2 s t x = wo o0 o1 o2 s' t' x)) (by simp) rfl (by show (27 : Nat) < 32; decide) ?_ ?_ 2 0 3 (by simp) (by omega))
  · intro v hv kb hk
    have h5 : v ∈ five := hin v hv
    exact y_val (y_bin (y_bin (y_bin (y_var rfl (y_c ⟨_, _, rfl, y_var rfl ⟨_, _, look_dK rfl h5, y_bin (y_bin (y_var rfl (y_c ⟨_, _, rfl, y_var rfl ⟨_, _, look_dK rfl h5, _, _, rfl, _, rfl, hk⟩⟩)))⟩⟩)))))
  · refine y_lift rfl (y_lst (y_nil ⟨rfl, _, _, eq_nil (F := List.filter (fun x => !decide (wo r0 r1 r2 s t x = wo o0 o1 o2 s' t' x)) ([x, y] : List Str)) (Nat.le_trans (List.length_filter_le ..) (by simp)) (fun v hv' => hin v (List.mem_filter.mp hv').1) rfl rfl, ?_⟩))
    rw [flt_same]
    unfold lw15
    refine y_seq (y_set (y_andV (y_var rfl ⟨_, rfl, ?_⟩)))
    cases hb : decide (([x, y] : List Str).map (wo r0 r1 r2 s t) = ([x, y] : List Str).map (wo o0 o1 o2 s' t')) with
    | true =>
      refine y_bin (y_bin (y_bin (y_var rfl (y_c ⟨_, _, rfl, y_var rfl ⟨_, _, look_dK rfl hz, y_bin (y_bin (y_var rfl (y_c ⟨_, _, rfl, y_var rfl ⟨_, _, look_dK rfl hz, _, _, rfl, ?_⟩⟩)))⟩⟩))))
      exact q _ _ _ _ _ _ _ _ _ _ _ _ _ _ _ _ (by unfold dueB; rw [hb]; rfl)
    | false => exact q _ _ _ _ _ _ _ _ _ _ _ _ _ _ _ _ (by unfold dueB; rw [hb]; rfl)

theorem l13_21 (w : PySem.World) (T : Addr) (M one two : AV) (r0 r1 r2 s t o0 o1 o2 s' t' : Int) {x y z : Str} (hx : x ∈ five) (hy : y ∈ five) (hz : z ∈ five) (u0 u1 u2 u4 u7 u11 u16 u17 : Option AV) (h1 h2 h3 h4 h6 h7 h8 h10 h11 : AO)
    (q : ∀ (u12 u13 u14 u15 u20 : Option AV) (h12 h13 h14 h15 h16 h17 h18 h19 h20 h21 : AO) (due : Bool), due = dueB ([x, y, "s", "t"] : List Str) z (wo r0 r1 r2 s t) (wo o0 o1 o2 s' t') → Yes (lw16 w T [u0, u1, u2, some buildT, u4, some M, some (.ref 5), u7, some (.ref 9), some one, some two, u11, u12, u13, u14, u15, u16, u17, some (sightV [boxV x, boxV y] 1), some (nameV z), u20, some (.bl due), none, none, none, none, none, none, none, none, none, none]) [.tab T qLam, h1, h2, h3, h4, .lst [.int r0, .int r1, .int r2], h6, h7, h8, .lst [.int o0, .int o1, .int o2], h10, h11, h12, h13, h14, h15, h16, h17, h18, h19, h20, h21] Fin NX) : Yes (lw13 w T [u0, u1, u2, some buildT, u4, some M, some (.ref 5), u7, some (.ref 9), some one, some two, u11, some (.ref 12), some (.int 1), some (.str z), some (.ref 13), u16, u17, none, none, none, none, none, none, none, none, none, none, none, none, none, none]) [.tab T qLam, h1, h2, h3, h4, .lst [.int r0, .int r1, .int r2], h6, h7, h8, .lst [.int o0, .int o1, .int o2], h10, h11, .lst [.str x, .str y], .lst [.ref 14, .ref 15], .dK fiveK [.int r0, .int r1, .int r2, .int s, .int t], .dK fiveK [.int o0, .int o1, .int o2, .int s', .int t']] Fin NX := by
  have hs5 : ("s" : Str) ∈ five := by simp [five]
  have ht5 : ("t" : Str) ∈ five := by simp [five]
  have hin : ∀ v ∈ ([x, y, "s", "t"] : List Str), v ∈ five := by
    intro v hv
    simp only [List.mem_cons, List.not_mem_nil, or_false] at hv
    rcases hv with rfl | rfl | rfl | rfl <;> assumption
  unfold lw13
  refine y_seq (y_of (l := []) (v := .nx [u0, u1, u2, some buildT, u4, some M, some (.ref 5), u7, some (.ref 9), some one, some two, u11, some (.ref 12), some (.int 1), some (.str z), some (.ref 13), u16, u17, some (sightV [boxV x, boxV y] 1), some (nameV z), none, none, none, none, none, none, none, none, none, none, none, none]) (A' := [.tab T qLam, h1, h2, h3, h4, .lst [.int r0, .int r1, .int r2], h6, h7, h8, .lst [.int o0, .int o1, .int o2], h10, h11, .lst [.str x, .str y], .lst [.ref 14, .ref 15], .dK fiveK [.int r0, .int r1, .int r2, .int s, .int t], .dK fiveK [.int o0, .int o1, .int o2, .int s', .int t'], .lst [boxV x, boxV y]]) (by kernel_rfl) nofun ?_)
  show Yes (lw14 w T [u0, u1, u2, some buildT, u4, some M, some (.ref 5), u7, some (.ref 9), some one, some two, u11, some (.ref 12), some (.int 1), some (.str z), some (.ref 13), u16, u17, some (sightV [boxV x, boxV y] 1), some (nameV z), none, none, none, none, none, none, none, none, none, none, none, none]) [.tab T qLam, h1, h2, h3, h4, .lst [.int r0, .int r1, .int r2], h6, h7, h8, .lst [.int o0, .int o1, .int o2], h10, h11, .lst [.str x, .str y], .lst [.ref 14, .ref 15], .dK fiveK [.int r0, .int r1, .int r2, .int s, .int t], .dK fiveK [.int o0, .int o1, .int o2, .int s', .int t'], .lst [boxV x, boxV y]] Fin NX
  unfold lw14
  refine y_seq (y_set (y_bin (y_bind (y_bind (y_of (l := []) (v := .ref 19) (A' := [.tab T qLam, h1, h2, h3, h4, .lst [.int r0, .int r1, .int r2], h6, h7, h8, .lst [.int o0, .int o1, .int o2], h10, h11, .lst [.str x, .str y], .lst [.ref 14, .ref 15], .dK fiveK [.int r0, .int r1, .int r2, .int s, .int t], .dK fiveK [.int o0, .int o1, .int o2, .int s', .int t'], .lst [boxV x, boxV y], .lst [.str "s", .str "t"], .lst [.str "s", .str "t"], .lst [.str x, .str y, .str "s", .str "t"]]) (by kernel_rfl) nofun ?_)))))
  refine y_lift (z := ((5, fun i A => match (A[19]? : Option AO) with
      | some (.lst ys) => some ys[i]?
      | _ => none) : AIt)) (A' := [.tab T qLam, h1, h2, h3, h4, .lst [.int r0, .int r1, .int r2], h6, h7, h8, .lst [.int o0, .int o1, .int o2], h10, h11, .lst [.str x, .str y], .lst [.ref 14, .ref 15], .dK fiveK [.int r0, .int r1, .int r2, .int s, .int t], .dK fiveK [.int o0, .int o1, .int o2, .int s', .int t'], .lst [boxV x, boxV y], .lst [.str "s", .str "t"], .lst [.str "s", .str "t"], .lst [.str x, .str y, .str "s", .str "t"]]) rfl ?_
  refine y_bind (flt_loop (L := ([x, y, "s", "t"] : List Str)) (p := fun x => !decide (wo r0 r1 r2 s t x = wo o0 o1 o2 s' t' x)) (by simp) rfl (by show (27 : Nat) < 32; decide) ?_ ?_ 4 0 5 (by simp) (by omega))
  · intro v hv kb hk
    have h5 : v ∈ five := hin v hv
    exact y_val (y_bin (y_bin (y_bin (y_var rfl (y_c ⟨_, _, rfl, y_var rfl ⟨_, _, look_dK rfl h5, y_bin (y_bin (y_var rfl (y_c ⟨_, _, rfl, y_var rfl ⟨_, _, look_dK rfl h5, _, _, rfl, _, rfl, hk⟩⟩)))⟩⟩)))))
  · refine y_lift rfl (y_lst (y_nil ⟨rfl, _, _, eq_nil (F := List.filter (fun x => !decide (wo r0 r1 r2 s t x = wo o0 o1 o2 s' t' x)) ([x, y, "s", "t"] : List Str)) (Nat.le_trans (List.length_filter_le ..) (by simp)) (fun v hv' => hin v (List.mem_filter.mp hv').1) rfl rfl, ?_⟩))
    rw [flt_same]
    unfold lw15
    refine y_seq (y_set (y_andV (y_var rfl ⟨_, rfl, ?_⟩)))
    cases hb : decide (([x, y, "s", "t"] : List Str).map (wo r0 r1 r2 s t) = ([x, y, "s", "t"] : List Str).map (wo o0 o1 o2 s' t')) with
    | true =>
      refine y_bin (y_bin (y_bin (y_var rfl (y_c ⟨_, _, rfl, y_var rfl ⟨_, _, look_dK rfl hz, y_bin (y_bin (y_var rfl (y_c ⟨_, _, rfl, y_var rfl ⟨_, _, look_dK rfl hz, _, _, rfl, ?_⟩⟩)))⟩⟩))))
      exact q _ _ _ _ _ _ _ _ _ _ _ _ _ _ _ _ (by unfold dueB; rw [hb]; rfl)
    | false => exact q _ _ _ _ _ _ _ _ _ _ _ _ _ _ _ _ (by unfold dueB; rw [hb]; rfl)

end K95

set_option Elab.async false
set_option linter.all false
set_option maxRecDepth 100000
set_option maxHeartbeats 0
/-! K95N: the law's run, from its end to its begin (printed by genl3.py). -/
namespace K95
open PySem PySem.Spec PyProof.Rows L2 AX
theorem g1 {b c X : Bool} (hb : b = true) (hc : c = true) : ((!((!b) || (false || !c))) && X) = X := by subst hb hc; rfl
theorem g0 {b c X : Bool} (h : b = false ∨ c = false) : ((!((!b) || (false || !c))) && X) = false := by
  rcases h with h | h <;> subst h
  · rfl
  · cases b <;> rfl

theorem ty_n0 (w : PySem.World) (T : Addr) {n r0 r1 r2 o0 o1 o2 d : Int} (x y z : Str) {L : List Str} (hr0 : -1000 ≤ r0 ∧ r0 ≤ 1000) (hr1 : -1000 ≤ r1 ∧ r1 ≤ 1000) (hr2 : -1000 ≤ r2 ∧ r2 ≤ 1000) (ho0 : -1000 ≤ o0 ∧ o0 ≤ 1000) (ho1 : -1000 ≤ o1 ∧ o1 ≤ 1000) (ho2 : -1000 ≤ o2 ∧ o2 ≤ 1000) (hn : -1000 ≤ n ∧ n ≤ 1000) (hn9 : n < 99)
    (O : SeenOK [] d L) (hz : z ∈ five) {due : Bool} (hdue : due = dueB L z (wo r0 r1 r2 (r0 + r1) (mixT n r2)) (wo o0 o1 o2 (o0 + o1) (mixT n o2))) (u0 u1 u2 u4 u7 u11 u12 u13 u14 u15 u16 u17 u20 : Option AV) (h1 h2 h3 h4 h6 h7 h8 h10 h11 h12 h13 h14 h15 h16 h17 h18 h19 h20 h21 : AO) : Yes (lw16 w T [u0, u1, u2, some buildT, u4, some (numM n), some (.ref 5), u7, some (.ref 9), some (wld (numM n) [.int r0, .int r1, .int r2] [.int 1]), some (wld (numM n) [.int o0, .int o1, .int o2] [.int 1]), u11, u12, u13, u14, u15, u16, u17, some (sightV [] d), some (nameV z), u20, some (.bl due), none, none, none, none, none, none, none, none, none, none]) [.tab T qLam, h1, h2, h3, h4, .lst [.int r0, .int r1, .int r2], h6, h7, h8, .lst [.int o0, .int o1, .int o2], h10, h11, h12, h13, h14, h15, h16, h17, h18, h19, h20, h21] Fin NX := by
  have m1 := op_pair (q_n33 w (n := n) (n' := n) hr0 hr1 hr2 ho0 ho1 ho2 hn hn O hz) rfl rfl O.pur rfl rfl rfl rfl
  have m2 := op_pair (q_n33 w (n := n) (n' := n) ho0 ho1 ho2 hr0 hr1 hr2 hn hn O hz) rfl rfl O.pur rfl rfl rfl rfl
  have m3 := op_pair (q_n34 w (n := n) (n' := n) hr0 hr1 hr2 ho0 ho1 ho2 hn hn O hz) rfl rfl O.pur rfl rfl rfl rfl
  have zz : GivesE (f_is_pair w) [buildT, .int 7, sightV [.tup [tx "box", .int 0, tx "zz"]] 0, .int 7, nameV z, (wld (numM n) [.int r0, .int r1, .int r2] [.int 1]), (wld (numM n) [.int o0, .int o1, .int o2] [.int 1])] zzE := by
    obtain ⟨l, e, hl⟩ := (q_nzz w (n := n) (n' := n) hr0 hr1 hr2 ho0 ho1 ho2 hn hn O hz)
    obtain ⟨A', e'⟩ := ends_of e
    exact ⟨l, A', e', hl⟩
  exact fin_of (tl_n0 w T n r0 r1 r2 o0 o1 o2 d x y z due u0 u1 u2 u4 u7 u11 u12 u13 u14 u15 u16 u17 u20 h1 h2 h3 h4 h6 h7 h8 h10 h11 h12 h13 h14 h15 h16 h17 h18 h19 h20 h21) (all_cons (m1.1) (all_cons (m2.1) (all_cons (m3.1) (all_cons (m1.2.trans ((g1 ((eqV_num n n).trans (decide_eq_true rfl)) eqV_11).trans hdue.symm)) (all_cons (m2.2.trans ((g1 ((eqV_num n n).trans (decide_eq_true rfl)) eqV_11).trans ((dueB_comm L z (wo o0 o1 o2 (o0 + o1) (mixT n o2)) (wo r0 r1 r2 (r0 + r1) (mixT n r2))).trans hdue.symm))) (all_cons (m3.2.trans ((g1 ((eqV_num n n).trans (decide_eq_true rfl)) eqV_11).trans hdue.symm)) (all_cons (op_not (q_n0 w (n := n) (n' := n) hr0 hr1 hr2 ho0 ho1 ho2 hn hn O hz) (g0 (.inr eqV_10)) rfl rfl O.pur rfl rfl rfl rfl) (all_cons (op_not (q_ndry w (n := n) (n' := n) hr0 hr1 hr2 ho0 ho1 ho2 hn hn O hz) rfl rfl rfl O.pur rfl rfl rfl rfl) (all_cons (op_not (q_nans w (n := n) (n' := n) hr0 hr1 hr2 ho0 ho1 ho2 hn hn O hz) rfl rfl rfl O.pur rfl rfl rfl rfl) (all_cons (op_not (q_nnon w (n := n) (n' := n) hr0 hr1 hr2 ho0 ho1 ho2 hn hn O hz) rfl rfl rfl O.pur rfl rfl rfl rfl) (all_cons (op_not (q_n33 w (n := n) (n' := 99) hr0 hr1 hr2 ho0 ho1 ho2 hn (by omega) O hz) (g0 (.inl ((eqV_num n 99).trans (decide_eq_false (by omega))))) rfl rfl O.pur rfl rfl rfl rfl) (all_cons (op_not (q_nfour w (n := n) (n' := n) hr0 hr1 hr2 ho0 ho1 ho2 hn hn O hz) rfl rfl rfl O.pur rfl rfl rfl rfl) (all_cons (op_not (q_nt w (n := n) (n' := n) hr0 hr1 hr2 ho0 ho1 ho2 hn hn O hz) (g0 (.inl (eqV_nt n))) rfl rfl O.pur rfl rfl rfl rfl) (all_cons (op_not (q_nnine w (n := n) (n' := n) hr0 hr1 hr2 ho0 ho1 ho2 hn hn O hz) rfl rfl rfl O.pur rfl rfl rfl rfl) (all_cons (op_not (q_nneg w (n := n) (n' := n) hr0 hr1 hr2 ho0 ho1 ho2 hn hn O hz) rfl rfl rfl O.pur rfl rfl rfl rfl) (all_cons (op_not (q_ntrue w (n := n) (n' := n) hr0 hr1 hr2 ho0 ho1 ho2 hn hn O hz) rfl rfl rfl O.pur rfl rfl rfl rfl) (all_cons (rfl) (all_cons (rfl) (all_cons (rfl) (all_cons (rfl) (all_cons (rfl) (all_cons (rfl) (all_cons (⟨⟨purs7 rfl rfl rfl rfl rfl rfl rfl, rfl⟩, rfl, zz⟩) all_nil)))))))))))))))))))))))

theorem ty_n1 (w : PySem.World) (T : Addr) {n r0 r1 r2 o0 o1 o2 d : Int} (x y z : Str) {L : List Str} (hr0 : -1000 ≤ r0 ∧ r0 ≤ 1000) (hr1 : -1000 ≤ r1 ∧ r1 ≤ 1000) (hr2 : -1000 ≤ r2 ∧ r2 ≤ 1000) (ho0 : -1000 ≤ o0 ∧ o0 ≤ 1000) (ho1 : -1000 ≤ o1 ∧ o1 ≤ 1000) (ho2 : -1000 ≤ o2 ∧ o2 ≤ 1000) (hn : -1000 ≤ n ∧ n ≤ 1000) (hn9 : n < 99)
    (O : SeenOK [boxV x] d L) (hz : z ∈ five) {due : Bool} (hdue : due = dueB L z (wo r0 r1 r2 (r0 + r1) (mixT n r2)) (wo o0 o1 o2 (o0 + o1) (mixT n o2))) (u0 u1 u2 u4 u7 u11 u12 u13 u14 u15 u16 u17 u20 : Option AV) (h1 h2 h3 h4 h6 h7 h8 h10 h11 h12 h13 h14 h15 h16 h17 h18 h19 h20 h21 : AO) : Yes (lw16 w T [u0, u1, u2, some buildT, u4, some (numM n), some (.ref 5), u7, some (.ref 9), some (wld (numM n) [.int r0, .int r1, .int r2] [.int 1]), some (wld (numM n) [.int o0, .int o1, .int o2] [.int 1]), u11, u12, u13, u14, u15, u16, u17, some (sightV [boxV x] d), some (nameV z), u20, some (.bl due), none, none, none, none, none, none, none, none, none, none]) [.tab T qLam, h1, h2, h3, h4, .lst [.int r0, .int r1, .int r2], h6, h7, h8, .lst [.int o0, .int o1, .int o2], h10, h11, h12, h13, h14, h15, h16, h17, h18, h19, h20, h21] Fin NX := by
  have m1 := op_pair (q_n33 w (n := n) (n' := n) hr0 hr1 hr2 ho0 ho1 ho2 hn hn O hz) rfl rfl O.pur rfl rfl rfl rfl
  have m2 := op_pair (q_n33 w (n := n) (n' := n) ho0 ho1 ho2 hr0 hr1 hr2 hn hn O hz) rfl rfl O.pur rfl rfl rfl rfl
  have m3 := op_pair (q_n34 w (n := n) (n' := n) hr0 hr1 hr2 ho0 ho1 ho2 hn hn O hz) rfl rfl O.pur rfl rfl rfl rfl
  have zz : GivesE (f_is_pair w) [buildT, .int 7, sightV [.tup [tx "box", .int 0, tx "zz"]] 0, .int 7, nameV z, (wld (numM n) [.int r0, .int r1, .int r2] [.int 1]), (wld (numM n) [.int o0, .int o1, .int o2] [.int 1])] zzE := by
    obtain ⟨l, e, hl⟩ := (q_nzz w (n := n) (n' := n) hr0 hr1 hr2 ho0 ho1 ho2 hn hn O hz)
    obtain ⟨A', e'⟩ := ends_of e
    exact ⟨l, A', e', hl⟩
  exact fin_of (tl_n1 w T n r0 r1 r2 o0 o1 o2 d x y z due u0 u1 u2 u4 u7 u11 u12 u13 u14 u15 u16 u17 u20 h1 h2 h3 h4 h6 h7 h8 h10 h11 h12 h13 h14 h15 h16 h17 h18 h19 h20 h21) (all_cons (m1.1) (all_cons (m2.1) (all_cons (m3.1) (all_cons (m1.2.trans ((g1 ((eqV_num n n).trans (decide_eq_true rfl)) eqV_11).trans hdue.symm)) (all_cons (m2.2.trans ((g1 ((eqV_num n n).trans (decide_eq_true rfl)) eqV_11).trans ((dueB_comm L z (wo o0 o1 o2 (o0 + o1) (mixT n o2)) (wo r0 r1 r2 (r0 + r1) (mixT n r2))).trans hdue.symm))) (all_cons (m3.2.trans ((g1 ((eqV_num n n).trans (decide_eq_true rfl)) eqV_11).trans hdue.symm)) (all_cons (op_not (q_n0 w (n := n) (n' := n) hr0 hr1 hr2 ho0 ho1 ho2 hn hn O hz) (g0 (.inr eqV_10)) rfl rfl O.pur rfl rfl rfl rfl) (all_cons (op_not (q_ndry w (n := n) (n' := n) hr0 hr1 hr2 ho0 ho1 ho2 hn hn O hz) rfl rfl rfl O.pur rfl rfl rfl rfl) (all_cons (op_not (q_nans w (n := n) (n' := n) hr0 hr1 hr2 ho0 ho1 ho2 hn hn O hz) rfl rfl rfl O.pur rfl rfl rfl rfl) (all_cons (op_not (q_nnon w (n := n) (n' := n) hr0 hr1 hr2 ho0 ho1 ho2 hn hn O hz) rfl rfl rfl O.pur rfl rfl rfl rfl) (all_cons (op_not (q_n33 w (n := n) (n' := 99) hr0 hr1 hr2 ho0 ho1 ho2 hn (by omega) O hz) (g0 (.inl ((eqV_num n 99).trans (decide_eq_false (by omega))))) rfl rfl O.pur rfl rfl rfl rfl) (all_cons (op_not (q_nfour w (n := n) (n' := n) hr0 hr1 hr2 ho0 ho1 ho2 hn hn O hz) rfl rfl rfl O.pur rfl rfl rfl rfl) (all_cons (op_not (q_nt w (n := n) (n' := n) hr0 hr1 hr2 ho0 ho1 ho2 hn hn O hz) (g0 (.inl (eqV_nt n))) rfl rfl O.pur rfl rfl rfl rfl) (all_cons (op_not (q_nnine w (n := n) (n' := n) hr0 hr1 hr2 ho0 ho1 ho2 hn hn O hz) rfl rfl rfl O.pur rfl rfl rfl rfl) (all_cons (op_not (q_nneg w (n := n) (n' := n) hr0 hr1 hr2 ho0 ho1 ho2 hn hn O hz) rfl rfl rfl O.pur rfl rfl rfl rfl) (all_cons (op_not (q_ntrue w (n := n) (n' := n) hr0 hr1 hr2 ho0 ho1 ho2 hn hn O hz) rfl rfl rfl O.pur rfl rfl rfl rfl) (all_cons (rfl) (all_cons (rfl) (all_cons (rfl) (all_cons (rfl) (all_cons (rfl) (all_cons (rfl) (all_cons (⟨⟨purs7 rfl rfl rfl rfl rfl rfl rfl, rfl⟩, rfl, zz⟩) all_nil)))))))))))))))))))))))

theorem ty_n2 (w : PySem.World) (T : Addr) {n r0 r1 r2 o0 o1 o2 d : Int} (x y z : Str) {L : List Str} (hr0 : -1000 ≤ r0 ∧ r0 ≤ 1000) (hr1 : -1000 ≤ r1 ∧ r1 ≤ 1000) (hr2 : -1000 ≤ r2 ∧ r2 ≤ 1000) (ho0 : -1000 ≤ o0 ∧ o0 ≤ 1000) (ho1 : -1000 ≤ o1 ∧ o1 ≤ 1000) (ho2 : -1000 ≤ o2 ∧ o2 ≤ 1000) (hn : -1000 ≤ n ∧ n ≤ 1000) (hn9 : n < 99)
    (O : SeenOK [boxV x, boxV y] d L) (hz : z ∈ five) {due : Bool} (hdue : due = dueB L z (wo r0 r1 r2 (r0 + r1) (mixT n r2)) (wo o0 o1 o2 (o0 + o1) (mixT n o2))) (u0 u1 u2 u4 u7 u11 u12 u13 u14 u15 u16 u17 u20 : Option AV) (h1 h2 h3 h4 h6 h7 h8 h10 h11 h12 h13 h14 h15 h16 h17 h18 h19 h20 h21 : AO) : Yes (lw16 w T [u0, u1, u2, some buildT, u4, some (numM n), some (.ref 5), u7, some (.ref 9), some (wld (numM n) [.int r0, .int r1, .int r2] [.int 1]), some (wld (numM n) [.int o0, .int o1, .int o2] [.int 1]), u11, u12, u13, u14, u15, u16, u17, some (sightV [boxV x, boxV y] d), some (nameV z), u20, some (.bl due), none, none, none, none, none, none, none, none, none, none]) [.tab T qLam, h1, h2, h3, h4, .lst [.int r0, .int r1, .int r2], h6, h7, h8, .lst [.int o0, .int o1, .int o2], h10, h11, h12, h13, h14, h15, h16, h17, h18, h19, h20, h21] Fin NX := by
  have m1 := op_pair (q_n33 w (n := n) (n' := n) hr0 hr1 hr2 ho0 ho1 ho2 hn hn O hz) rfl rfl O.pur rfl rfl rfl rfl
  have m2 := op_pair (q_n33 w (n := n) (n' := n) ho0 ho1 ho2 hr0 hr1 hr2 hn hn O hz) rfl rfl O.pur rfl rfl rfl rfl
  have m3 := op_pair (q_n34 w (n := n) (n' := n) hr0 hr1 hr2 ho0 ho1 ho2 hn hn O hz) rfl rfl O.pur rfl rfl rfl rfl
  have zz : GivesE (f_is_pair w) [buildT, .int 7, sightV [.tup [tx "box", .int 0, tx "zz"]] 0, .int 7, nameV z, (wld (numM n) [.int r0, .int r1, .int r2] [.int 1]), (wld (numM n) [.int o0, .int o1, .int o2] [.int 1])] zzE := by
    obtain ⟨l, e, hl⟩ := (q_nzz w (n := n) (n' := n) hr0 hr1 hr2 ho0 ho1 ho2 hn hn O hz)
    obtain ⟨A', e'⟩ := ends_of e
    exact ⟨l, A', e', hl⟩
  exact fin_of (tl_n2 w T n r0 r1 r2 o0 o1 o2 d x y z due u0 u1 u2 u4 u7 u11 u12 u13 u14 u15 u16 u17 u20 h1 h2 h3 h4 h6 h7 h8 h10 h11 h12 h13 h14 h15 h16 h17 h18 h19 h20 h21) (all_cons (m1.1) (all_cons (m2.1) (all_cons (m3.1) (all_cons (m1.2.trans ((g1 ((eqV_num n n).trans (decide_eq_true rfl)) eqV_11).trans hdue.symm)) (all_cons (m2.2.trans ((g1 ((eqV_num n n).trans (decide_eq_true rfl)) eqV_11).trans ((dueB_comm L z (wo o0 o1 o2 (o0 + o1) (mixT n o2)) (wo r0 r1 r2 (r0 + r1) (mixT n r2))).trans hdue.symm))) (all_cons (m3.2.trans ((g1 ((eqV_num n n).trans (decide_eq_true rfl)) eqV_11).trans hdue.symm)) (all_cons (op_not (q_n0 w (n := n) (n' := n) hr0 hr1 hr2 ho0 ho1 ho2 hn hn O hz) (g0 (.inr eqV_10)) rfl rfl O.pur rfl rfl rfl rfl) (all_cons (op_not (q_ndry w (n := n) (n' := n) hr0 hr1 hr2 ho0 ho1 ho2 hn hn O hz) rfl rfl rfl O.pur rfl rfl rfl rfl) (all_cons (op_not (q_nans w (n := n) (n' := n) hr0 hr1 hr2 ho0 ho1 ho2 hn hn O hz) rfl rfl rfl O.pur rfl rfl rfl rfl) (all_cons (op_not (q_nnon w (n := n) (n' := n) hr0 hr1 hr2 ho0 ho1 ho2 hn hn O hz) rfl rfl rfl O.pur rfl rfl rfl rfl) (all_cons (op_not (q_n33 w (n := n) (n' := 99) hr0 hr1 hr2 ho0 ho1 ho2 hn (by omega) O hz) (g0 (.inl ((eqV_num n 99).trans (decide_eq_false (by omega))))) rfl rfl O.pur rfl rfl rfl rfl) (all_cons (op_not (q_nfour w (n := n) (n' := n) hr0 hr1 hr2 ho0 ho1 ho2 hn hn O hz) rfl rfl rfl O.pur rfl rfl rfl rfl) (all_cons (op_not (q_nt w (n := n) (n' := n) hr0 hr1 hr2 ho0 ho1 ho2 hn hn O hz) (g0 (.inl (eqV_nt n))) rfl rfl O.pur rfl rfl rfl rfl) (all_cons (op_not (q_nnine w (n := n) (n' := n) hr0 hr1 hr2 ho0 ho1 ho2 hn hn O hz) rfl rfl rfl O.pur rfl rfl rfl rfl) (all_cons (op_not (q_nneg w (n := n) (n' := n) hr0 hr1 hr2 ho0 ho1 ho2 hn hn O hz) rfl rfl rfl O.pur rfl rfl rfl rfl) (all_cons (op_not (q_ntrue w (n := n) (n' := n) hr0 hr1 hr2 ho0 ho1 ho2 hn hn O hz) rfl rfl rfl O.pur rfl rfl rfl rfl) (all_cons (rfl) (all_cons (rfl) (all_cons (rfl) (all_cons (rfl) (all_cons (rfl) (all_cons (rfl) (all_cons (⟨⟨purs7 rfl rfl rfl rfl rfl rfl rfl, rfl⟩, rfl, zz⟩) all_nil)))))))))))))))))))))))

theorem ty_s0 (w : PySem.World) (T : Addr) {n r0 r1 r2 o0 o1 o2 d : Int} (x y z : Str) {L : List Str} (hr0 : -1000 ≤ r0 ∧ r0 ≤ 1000) (hr1 : -1000 ≤ r1 ∧ r1 ≤ 1000) (hr2 : -1000 ≤ r2 ∧ r2 ≤ 1000) (ho0 : -1000 ≤ o0 ∧ o0 ≤ 1000) (ho1 : -1000 ≤ o1 ∧ o1 ≤ 1000) (ho2 : -1000 ≤ o2 ∧ o2 ≤ 1000) (hn : -1000 ≤ n ∧ n ≤ 1000) (hn9 : n < 99)
    (O : SeenOK [] d L) (hz : z ∈ five) {due : Bool} (hdue : due = dueB L z (wo r0 r1 r2 (r0 + r1) (sumT r2)) (wo o0 o1 o2 (o0 + o1) (sumT o2))) (u0 u1 u2 u4 u7 u11 u12 u13 u14 u15 u16 u17 u20 : Option AV) (h1 h2 h3 h4 h6 h7 h8 h10 h11 h12 h13 h14 h15 h16 h17 h18 h19 h20 h21 : AO) : Yes (lw16 w T [u0, u1, u2, some buildT, u4, some sumM, some (.ref 5), u7, some (.ref 9), some (wld sumM [.int r0, .int r1, .int r2] [.int 1]), some (wld sumM [.int o0, .int o1, .int o2] [.int 1]), u11, u12, u13, u14, u15, u16, u17, some (sightV [] d), some (nameV z), u20, some (.bl due), none, none, none, none, none, none, none, none, none, none]) [.tab T qLam, h1, h2, h3, h4, .lst [.int r0, .int r1, .int r2], h6, h7, h8, .lst [.int o0, .int o1, .int o2], h10, h11, h12, h13, h14, h15, h16, h17, h18, h19, h20, h21] Fin NX := by
  have m1 := op_pair (q_s33 w (n := n) (n' := n) hr0 hr1 hr2 ho0 ho1 ho2 hn hn O hz) rfl rfl O.pur rfl rfl rfl rfl
  have m2 := op_pair (q_s33 w (n := n) (n' := n) ho0 ho1 ho2 hr0 hr1 hr2 hn hn O hz) rfl rfl O.pur rfl rfl rfl rfl
  have m3 := op_pair (q_s34 w (n := n) (n' := n) hr0 hr1 hr2 ho0 ho1 ho2 hn hn O hz) rfl rfl O.pur rfl rfl rfl rfl
  have zz : GivesE (f_is_pair w) [buildT, .int 7, sightV [.tup [tx "box", .int 0, tx "zz"]] 0, .int 7, nameV z, (wld sumM [.int r0, .int r1, .int r2] [.int 1]), (wld sumM [.int o0, .int o1, .int o2] [.int 1])] zzE := by
    obtain ⟨l, e, hl⟩ := (q_szz w (n := n) (n' := n) hr0 hr1 hr2 ho0 ho1 ho2 hn hn O hz)
    obtain ⟨A', e'⟩ := ends_of e
    exact ⟨l, A', e', hl⟩
  exact fin_of (tl_s0 w T n r0 r1 r2 o0 o1 o2 d x y z due u0 u1 u2 u4 u7 u11 u12 u13 u14 u15 u16 u17 u20 h1 h2 h3 h4 h6 h7 h8 h10 h11 h12 h13 h14 h15 h16 h17 h18 h19 h20 h21) (all_cons (m1.1) (all_cons (m2.1) (all_cons (m3.1) (all_cons (m1.2.trans ((g1 eqV_sum eqV_11).trans hdue.symm)) (all_cons (m2.2.trans ((g1 eqV_sum eqV_11).trans ((dueB_comm L z (wo o0 o1 o2 (o0 + o1) (sumT o2)) (wo r0 r1 r2 (r0 + r1) (sumT r2))).trans hdue.symm))) (all_cons (m3.2.trans ((g1 eqV_sum eqV_11).trans hdue.symm)) (all_cons (op_not (q_s0 w (n := n) (n' := n) hr0 hr1 hr2 ho0 ho1 ho2 hn hn O hz) (g0 (.inr eqV_10)) rfl rfl O.pur rfl rfl rfl rfl) (all_cons (op_not (q_sdry w (n := n) (n' := n) hr0 hr1 hr2 ho0 ho1 ho2 hn hn O hz) rfl rfl rfl O.pur rfl rfl rfl rfl) (all_cons (op_not (q_sans w (n := n) (n' := n) hr0 hr1 hr2 ho0 ho1 ho2 hn hn O hz) rfl rfl rfl O.pur rfl rfl rfl rfl) (all_cons (op_not (q_snon w (n := n) (n' := n) hr0 hr1 hr2 ho0 ho1 ho2 hn hn O hz) rfl rfl rfl O.pur rfl rfl rfl rfl) (all_cons (op_not (q_sn w (n := n) (n' := 99) hr0 hr1 hr2 ho0 ho1 ho2 hn (by omega) O hz) (g0 (.inl (eqV_sn 99))) rfl rfl O.pur rfl rfl rfl rfl) (all_cons (op_not (q_sfour w (n := n) (n' := n) hr0 hr1 hr2 ho0 ho1 ho2 hn hn O hz) rfl rfl rfl O.pur rfl rfl rfl rfl) (all_cons (op_not (q_st w (n := n) (n' := n) hr0 hr1 hr2 ho0 ho1 ho2 hn hn O hz) (g0 (.inl eqV_st)) rfl rfl O.pur rfl rfl rfl rfl) (all_cons (op_not (q_snine w (n := n) (n' := n) hr0 hr1 hr2 ho0 ho1 ho2 hn hn O hz) rfl rfl rfl O.pur rfl rfl rfl rfl) (all_cons (op_not (q_sneg w (n := n) (n' := n) hr0 hr1 hr2 ho0 ho1 ho2 hn hn O hz) rfl rfl rfl O.pur rfl rfl rfl rfl) (all_cons (op_not (q_strue w (n := n) (n' := n) hr0 hr1 hr2 ho0 ho1 ho2 hn hn O hz) rfl rfl rfl O.pur rfl rfl rfl rfl) (all_cons (rfl) (all_cons (rfl) (all_cons (rfl) (all_cons (rfl) (all_cons (rfl) (all_cons (rfl) (all_cons (⟨⟨purs7 rfl rfl rfl rfl rfl rfl rfl, rfl⟩, rfl, zz⟩) all_nil)))))))))))))))))))))))

theorem ty_s1 (w : PySem.World) (T : Addr) {n r0 r1 r2 o0 o1 o2 d : Int} (x y z : Str) {L : List Str} (hr0 : -1000 ≤ r0 ∧ r0 ≤ 1000) (hr1 : -1000 ≤ r1 ∧ r1 ≤ 1000) (hr2 : -1000 ≤ r2 ∧ r2 ≤ 1000) (ho0 : -1000 ≤ o0 ∧ o0 ≤ 1000) (ho1 : -1000 ≤ o1 ∧ o1 ≤ 1000) (ho2 : -1000 ≤ o2 ∧ o2 ≤ 1000) (hn : -1000 ≤ n ∧ n ≤ 1000) (hn9 : n < 99)
    (O : SeenOK [boxV x] d L) (hz : z ∈ five) {due : Bool} (hdue : due = dueB L z (wo r0 r1 r2 (r0 + r1) (sumT r2)) (wo o0 o1 o2 (o0 + o1) (sumT o2))) (u0 u1 u2 u4 u7 u11 u12 u13 u14 u15 u16 u17 u20 : Option AV) (h1 h2 h3 h4 h6 h7 h8 h10 h11 h12 h13 h14 h15 h16 h17 h18 h19 h20 h21 : AO) : Yes (lw16 w T [u0, u1, u2, some buildT, u4, some sumM, some (.ref 5), u7, some (.ref 9), some (wld sumM [.int r0, .int r1, .int r2] [.int 1]), some (wld sumM [.int o0, .int o1, .int o2] [.int 1]), u11, u12, u13, u14, u15, u16, u17, some (sightV [boxV x] d), some (nameV z), u20, some (.bl due), none, none, none, none, none, none, none, none, none, none]) [.tab T qLam, h1, h2, h3, h4, .lst [.int r0, .int r1, .int r2], h6, h7, h8, .lst [.int o0, .int o1, .int o2], h10, h11, h12, h13, h14, h15, h16, h17, h18, h19, h20, h21] Fin NX := by
  have m1 := op_pair (q_s33 w (n := n) (n' := n) hr0 hr1 hr2 ho0 ho1 ho2 hn hn O hz) rfl rfl O.pur rfl rfl rfl rfl
  have m2 := op_pair (q_s33 w (n := n) (n' := n) ho0 ho1 ho2 hr0 hr1 hr2 hn hn O hz) rfl rfl O.pur rfl rfl rfl rfl
  have m3 := op_pair (q_s34 w (n := n) (n' := n) hr0 hr1 hr2 ho0 ho1 ho2 hn hn O hz) rfl rfl O.pur rfl rfl rfl rfl
  have zz : GivesE (f_is_pair w) [buildT, .int 7, sightV [.tup [tx "box", .int 0, tx "zz"]] 0, .int 7, nameV z, (wld sumM [.int r0, .int r1, .int r2] [.int 1]), (wld sumM [.int o0, .int o1, .int o2] [.int 1])] zzE := by
    obtain ⟨l, e, hl⟩ := (q_szz w (n := n) (n' := n) hr0 hr1 hr2 ho0 ho1 ho2 hn hn O hz)
    obtain ⟨A', e'⟩ := ends_of e
    exact ⟨l, A', e', hl⟩
  exact fin_of (tl_s1 w T n r0 r1 r2 o0 o1 o2 d x y z due u0 u1 u2 u4 u7 u11 u12 u13 u14 u15 u16 u17 u20 h1 h2 h3 h4 h6 h7 h8 h10 h11 h12 h13 h14 h15 h16 h17 h18 h19 h20 h21) (all_cons (m1.1) (all_cons (m2.1) (all_cons (m3.1) (all_cons (m1.2.trans ((g1 eqV_sum eqV_11).trans hdue.symm)) (all_cons (m2.2.trans ((g1 eqV_sum eqV_11).trans ((dueB_comm L z (wo o0 o1 o2 (o0 + o1) (sumT o2)) (wo r0 r1 r2 (r0 + r1) (sumT r2))).trans hdue.symm))) (all_cons (m3.2.trans ((g1 eqV_sum eqV_11).trans hdue.symm)) (all_cons (op_not (q_s0 w (n := n) (n' := n) hr0 hr1 hr2 ho0 ho1 ho2 hn hn O hz) (g0 (.inr eqV_10)) rfl rfl O.pur rfl rfl rfl rfl) (all_cons (op_not (q_sdry w (n := n) (n' := n) hr0 hr1 hr2 ho0 ho1 ho2 hn hn O hz) rfl rfl rfl O.pur rfl rfl rfl rfl) (all_cons (op_not (q_sans w (n := n) (n' := n) hr0 hr1 hr2 ho0 ho1 ho2 hn hn O hz) rfl rfl rfl O.pur rfl rfl rfl rfl) (all_cons (op_not (q_snon w (n := n) (n' := n) hr0 hr1 hr2 ho0 ho1 ho2 hn hn O hz) rfl rfl rfl O.pur rfl rfl rfl rfl) (all_cons (op_not (q_sn w (n := n) (n' := 99) hr0 hr1 hr2 ho0 ho1 ho2 hn (by omega) O hz) (g0 (.inl (eqV_sn 99))) rfl rfl O.pur rfl rfl rfl rfl) (all_cons (op_not (q_sfour w (n := n) (n' := n) hr0 hr1 hr2 ho0 ho1 ho2 hn hn O hz) rfl rfl rfl O.pur rfl rfl rfl rfl) (all_cons (op_not (q_st w (n := n) (n' := n) hr0 hr1 hr2 ho0 ho1 ho2 hn hn O hz) (g0 (.inl eqV_st)) rfl rfl O.pur rfl rfl rfl rfl) (all_cons (op_not (q_snine w (n := n) (n' := n) hr0 hr1 hr2 ho0 ho1 ho2 hn hn O hz) rfl rfl rfl O.pur rfl rfl rfl rfl) (all_cons (op_not (q_sneg w (n := n) (n' := n) hr0 hr1 hr2 ho0 ho1 ho2 hn hn O hz) rfl rfl rfl O.pur rfl rfl rfl rfl) (all_cons (op_not (q_strue w (n := n) (n' := n) hr0 hr1 hr2 ho0 ho1 ho2 hn hn O hz) rfl rfl rfl O.pur rfl rfl rfl rfl) (all_cons (rfl) (all_cons (rfl) (all_cons (rfl) (all_cons (rfl) (all_cons (rfl) (all_cons (rfl) (all_cons (⟨⟨purs7 rfl rfl rfl rfl rfl rfl rfl, rfl⟩, rfl, zz⟩) all_nil)))))))))))))))))))))))

theorem ty_s2 (w : PySem.World) (T : Addr) {n r0 r1 r2 o0 o1 o2 d : Int} (x y z : Str) {L : List Str} (hr0 : -1000 ≤ r0 ∧ r0 ≤ 1000) (hr1 : -1000 ≤ r1 ∧ r1 ≤ 1000) (hr2 : -1000 ≤ r2 ∧ r2 ≤ 1000) (ho0 : -1000 ≤ o0 ∧ o0 ≤ 1000) (ho1 : -1000 ≤ o1 ∧ o1 ≤ 1000) (ho2 : -1000 ≤ o2 ∧ o2 ≤ 1000) (hn : -1000 ≤ n ∧ n ≤ 1000) (hn9 : n < 99)
    (O : SeenOK [boxV x, boxV y] d L) (hz : z ∈ five) {due : Bool} (hdue : due = dueB L z (wo r0 r1 r2 (r0 + r1) (sumT r2)) (wo o0 o1 o2 (o0 + o1) (sumT o2))) (u0 u1 u2 u4 u7 u11 u12 u13 u14 u15 u16 u17 u20 : Option AV) (h1 h2 h3 h4 h6 h7 h8 h10 h11 h12 h13 h14 h15 h16 h17 h18 h19 h20 h21 : AO) : Yes (lw16 w T [u0, u1, u2, some buildT, u4, some sumM, some (.ref 5), u7, some (.ref 9), some (wld sumM [.int r0, .int r1, .int r2] [.int 1]), some (wld sumM [.int o0, .int o1, .int o2] [.int 1]), u11, u12, u13, u14, u15, u16, u17, some (sightV [boxV x, boxV y] d), some (nameV z), u20, some (.bl due), none, none, none, none, none, none, none, none, none, none]) [.tab T qLam, h1, h2, h3, h4, .lst [.int r0, .int r1, .int r2], h6, h7, h8, .lst [.int o0, .int o1, .int o2], h10, h11, h12, h13, h14, h15, h16, h17, h18, h19, h20, h21] Fin NX := by
  have m1 := op_pair (q_s33 w (n := n) (n' := n) hr0 hr1 hr2 ho0 ho1 ho2 hn hn O hz) rfl rfl O.pur rfl rfl rfl rfl
  have m2 := op_pair (q_s33 w (n := n) (n' := n) ho0 ho1 ho2 hr0 hr1 hr2 hn hn O hz) rfl rfl O.pur rfl rfl rfl rfl
  have m3 := op_pair (q_s34 w (n := n) (n' := n) hr0 hr1 hr2 ho0 ho1 ho2 hn hn O hz) rfl rfl O.pur rfl rfl rfl rfl
  have zz : GivesE (f_is_pair w) [buildT, .int 7, sightV [.tup [tx "box", .int 0, tx "zz"]] 0, .int 7, nameV z, (wld sumM [.int r0, .int r1, .int r2] [.int 1]), (wld sumM [.int o0, .int o1, .int o2] [.int 1])] zzE := by
    obtain ⟨l, e, hl⟩ := (q_szz w (n := n) (n' := n) hr0 hr1 hr2 ho0 ho1 ho2 hn hn O hz)
    obtain ⟨A', e'⟩ := ends_of e
    exact ⟨l, A', e', hl⟩
  exact fin_of (tl_s2 w T n r0 r1 r2 o0 o1 o2 d x y z due u0 u1 u2 u4 u7 u11 u12 u13 u14 u15 u16 u17 u20 h1 h2 h3 h4 h6 h7 h8 h10 h11 h12 h13 h14 h15 h16 h17 h18 h19 h20 h21) (all_cons (m1.1) (all_cons (m2.1) (all_cons (m3.1) (all_cons (m1.2.trans ((g1 eqV_sum eqV_11).trans hdue.symm)) (all_cons (m2.2.trans ((g1 eqV_sum eqV_11).trans ((dueB_comm L z (wo o0 o1 o2 (o0 + o1) (sumT o2)) (wo r0 r1 r2 (r0 + r1) (sumT r2))).trans hdue.symm))) (all_cons (m3.2.trans ((g1 eqV_sum eqV_11).trans hdue.symm)) (all_cons (op_not (q_s0 w (n := n) (n' := n) hr0 hr1 hr2 ho0 ho1 ho2 hn hn O hz) (g0 (.inr eqV_10)) rfl rfl O.pur rfl rfl rfl rfl) (all_cons (op_not (q_sdry w (n := n) (n' := n) hr0 hr1 hr2 ho0 ho1 ho2 hn hn O hz) rfl rfl rfl O.pur rfl rfl rfl rfl) (all_cons (op_not (q_sans w (n := n) (n' := n) hr0 hr1 hr2 ho0 ho1 ho2 hn hn O hz) rfl rfl rfl O.pur rfl rfl rfl rfl) (all_cons (op_not (q_snon w (n := n) (n' := n) hr0 hr1 hr2 ho0 ho1 ho2 hn hn O hz) rfl rfl rfl O.pur rfl rfl rfl rfl) (all_cons (op_not (q_sn w (n := n) (n' := 99) hr0 hr1 hr2 ho0 ho1 ho2 hn (by omega) O hz) (g0 (.inl (eqV_sn 99))) rfl rfl O.pur rfl rfl rfl rfl) (all_cons (op_not (q_sfour w (n := n) (n' := n) hr0 hr1 hr2 ho0 ho1 ho2 hn hn O hz) rfl rfl rfl O.pur rfl rfl rfl rfl) (all_cons (op_not (q_st w (n := n) (n' := n) hr0 hr1 hr2 ho0 ho1 ho2 hn hn O hz) (g0 (.inl eqV_st)) rfl rfl O.pur rfl rfl rfl rfl) (all_cons (op_not (q_snine w (n := n) (n' := n) hr0 hr1 hr2 ho0 ho1 ho2 hn hn O hz) rfl rfl rfl O.pur rfl rfl rfl rfl) (all_cons (op_not (q_sneg w (n := n) (n' := n) hr0 hr1 hr2 ho0 ho1 ho2 hn hn O hz) rfl rfl rfl O.pur rfl rfl rfl rfl) (all_cons (op_not (q_strue w (n := n) (n' := n) hr0 hr1 hr2 ho0 ho1 ho2 hn hn O hz) rfl rfl rfl O.pur rfl rfl rfl rfl) (all_cons (rfl) (all_cons (rfl) (all_cons (rfl) (all_cons (rfl) (all_cons (rfl) (all_cons (rfl) (all_cons (⟨⟨purs7 rfl rfl rfl rfl rfl rfl rfl, rfl⟩, rfl, zz⟩) all_nil)))))))))))))))))))))))

theorem l11 (w : PySem.World) (T : Addr) (M one two : AV) (r0 r1 r2 o0 o1 o2 t t' : Int) (a1 : OPr 3 f__law_apply applyG [M, tx "f", .tup [.int r2]]) (e1 : applyI [M, tx "f", .tup [.int r2]] = t) (a2 : OPr 3 f__law_apply applyG [M, tx "f", .tup [.int o2]]) (e2 : applyI [M, tx "f", .tup [.int o2]] = t') (u12 u13 u14 u0 u1 u2 u4 u7 u11 : Option AV) (h12 h1 h2 h3 h4 h6 h7 h8 h10 h11 : AO)
    (q : ∀ u16 u17 : Option AV, Yes (lw13 w T [u0, u1, u2, some buildT, u4, some M, some (.ref 5), u7, some (.ref 9), some one, some two, u11, u12, u13, u14, some (.ref 13), u16, u17, none, none, none, none, none, none, none, none, none, none, none, none, none, none]) [.tab T qLam, h1, h2, h3, h4, .lst [.int r0, .int r1, .int r2], h6, h7, h8, .lst [.int o0, .int o1, .int o2], h10, h11, h12, .lst [.ref 14, .ref 15], .dK fiveK [.int r0, .int r1, .int r2, .int (r0 + r1), .int t], .dK fiveK [.int o0, .int o1, .int o2, .int (o0 + o1), .int t']] Fin NX) : Yes (lw11 w T [u0, u1, u2, some buildT, u4, some M, some (.ref 5), u7, some (.ref 9), some one, some two, u11, u12, u13, u14, none, none, none, none, none, none, none, none, none, none, none, none, none, none, none, none, none]) [.tab T qLam, h1, h2, h3, h4, .lst [.int r0, .int r1, .int r2], h6, h7, h8, .lst [.int o0, .int o1, .int o2], h10, h11, h12] Fin NX := by
  unfold lw11
  refine y_seq (y_set (y_lst (y_nil ⟨rfl, ?_⟩)))
  show Yes (lw12 w T [u0, u1, u2, some buildT, u4, some M, some (.ref 5), u7, some (.ref 9), some one, some two, u11, u12, u13, u14, some (.ref 13), none, none, none, none, none, none, none, none, none, none, none, none, none, none, none, none]) [.tab T qLam, h1, h2, h3, h4, .lst [.int r0, .int r1, .int r2], h6, h7, h8, .lst [.int o0, .int o1, .int o2], h10, h11, h12, .lst []] Fin NX
  unfold lw12
  refine y_seq (y_of (l := [OPr 3 f__law_apply applyG [M, tx "f", .tup [.int r2]], OPr 3 f__law_apply applyG [M, tx "f", .tup [.int o2]]]) (v := .nx [u0, u1, u2, some buildT, u4, some M, some (.ref 5), u7, some (.ref 9), some one, some two, u11, u12, u13, u14, some (.ref 13), some (.ref 9), some (.int (applyI [M, tx "f", .tup [.int o2]])), none, none, none, none, none, none, none, none, none, none, none, none, none, none]) (A' := [.tab T qLam, h1, h2, h3, h4, .lst [.int r0, .int r1, .int r2], h6, h7, h8, .lst [.int o0, .int o1, .int o2], h10, h11, h12, .lst [.ref 14, .ref 15], .dK fiveK [.int r0, .int r1, .int r2, .int (r0 + r1), .int (applyI [M, tx "f", .tup [.int r2]])], .dK fiveK [.int o0, .int o1, .int o2, .int (o0 + o1), .int (applyI [M, tx "f", .tup [.int o2]])]]) (by kernel_rfl) (all_cons a1 (all_cons a2 all_nil)) ?_)
  rw [e1, e2]
  exact q _ _

theorem liesA_strs (n : Nat) : ∀ L : List Str, AV.liesA n (L.map AV.str) = true := by
  intro L
  induction L with
  | nil => rfl
  | cons c L ih =>
    show (true && AV.liesA n (L.map AV.str)) = true
    rw [ih]
    rfl
theorem l10 (w : PySem.World) (T : Addr) (M one two : AV) (r0 r1 r2 o0 o1 o2 : Int) (x1 x2 x3 x4 x5 : Str) (u0 u2 u4 u7 : Option AV) (h1 h2 h3 h4 h6 h7 h8 h10 : AO) (B : Bag 3 2 [.tab T qLam, h1, h2, h3, h4, .lst [.int r0, .int r1, .int r2], h6, h7, h8, .lst [.int o0, .int o1, .int o2], h10, .lst [.str x1, .str x2, .str x3, .str x4, .str x5]])
    (q : ∀ (h3 : AO) (j d : Nat), j < 3 → d < 2 → Yes (lw11 w T [u0, some (.ref 3), u2, some buildT, u4, some M, some (.ref 5), u7, some (.ref 9), some one, some two, some (.ref 11), some (.ref 12), some (.int (Int.ofNat d)), some (.str x5), none, none, none, none, none, none, none, none, none, none, none, none, none, none, none, none, none]) [.tab T qLam, h1, h2, h3, h4, .lst [.int r0, .int r1, .int r2], h6, h7, h8, .lst [.int o0, .int o1, .int o2], h10, .lst [.str x1, .str x2, .str x3, .str x4, .str x5], .lst (cutX ([.str x1, .str x2, .str x3, .str x4, .str x5] : List AV) none (some (Int.ofNat j)))] Fin NX) : Yes (lw10 w T [u0, some (.ref 3), u2, some buildT, u4, some M, some (.ref 5), u7, some (.ref 9), some one, some two, some (.ref 11), none, none, none, none, none, none, none, none, none, none, none, none, none, none, none, none, none, none, none, none]) [.tab T qLam, h1, h2, h3, h4, .lst [.int r0, .int r1, .int r2], h6, h7, h8, .lst [.int o0, .int o1, .int o2], h10, .lst [.str x1, .str x2, .str x3, .str x4, .str x5]] Fin NX := by
  unfold lw10
  refine y_seq (y_par3 (y_cons (y_sl (y_var rfl (y_noPart (y_part (y_call (y_cons (y_var rfl (y_one (y_c ⟨rfl, take_yes (m := 3) B (by decide) (by decide) fun a b c v hv => ⟨_, rfl, _, _, rfl, ?_⟩⟩)))))))))))
  have B2 : Bag 3 2 (([.tab T qLam, h1, h2, h3, h4, .lst [.int r0, .int r1, .int r2], h6, h7, h8, .lst [.int o0, .int o1, .int o2], h10, .lst [.str x1, .str x2, .str x3, .str x4, .str x5]] : AH).set 3 (bagO 2 a b c) ++ [AO.lst (cutX ([.str x1, .str x2, .str x3, .str x4, .str x5] : List AV) none (some (Int.ofNat v)))]) := (B.put a b c).push (by
    have e : cutX ([.str x1, .str x2, .str x3, .str x4, .str x5] : List AV) none (some (Int.ofNat v)) = (cutX [x1, x2, x3, x4, x5] none (some (Int.ofNat v))).map AV.str := by
      show cutX ([x1, x2, x3, x4, x5].map AV.str) none (some (Int.ofNat v)) = _
      unfold cutX
      rw [List.map_take, List.map_drop, List.length_map]
    show AV.liesA _ (cutX ([.str x1, .str x2, .str x3, .str x4, .str x5] : List AV) none (some (Int.ofNat v))) = true
    rw [e]
    exact liesA_strs _ _)
  refine y_cons (y_call (y_cons (y_var rfl (y_one (y_c ⟨rfl, take_yes (m := 2) B2 (by decide) (by decide) fun a' b' c' v' hv' => y_one (y_bin (y_var rfl (y_c ⟨_, _, rfl, _, _, _, rfl, ?_⟩)))⟩)))))
  exact q _ v v' hv hv'

theorem five_of {ys : List AV} (p : ys.Perm (five.map AV.str)) : ∃ x1 x2 x3 x4 x5 : Str, ys = [.str x1, .str x2, .str x3, .str x4, .str x5] ∧ (x1 ∈ five ∧ x2 ∈ five ∧ x5 ∈ five) ∧ x1 ≠ x2 := by
  have nd : (five.map AV.str).Nodup := by
    refine List.Pairwise.map _ (fun a b h e => h (by injection e)) (show five.Nodup from by decide +kernel)
  have nd2 : ys.Nodup := p.nodup_iff.mpr nd
  have mem : ∀ y ∈ ys, ∃ x ∈ five, y = .str x := fun y hy => by
    obtain ⟨x, h1, h2⟩ := List.mem_map.mp (p.mem_iff.mp hy)
    exact ⟨x, h1, h2.symm⟩
  have len := p.length_eq
  match ys, nd2, mem, len with
  | [a, b, c, d, e], nd2, mem, _ =>
    obtain ⟨x1, m1, rfl⟩ := mem a (by simp)
    obtain ⟨x2, m2, rfl⟩ := mem b (by simp)
    obtain ⟨x3, m3, rfl⟩ := mem c (by simp)
    obtain ⟨x4, m4, rfl⟩ := mem d (by simp)
    obtain ⟨x5, m5, rfl⟩ := mem e (by simp)
    refine ⟨x1, x2, x3, x4, x5, rfl, ⟨m1, m2, m5⟩, fun h => ?_⟩
    subst h
    exact absurd nd2 (by simp)
theorem l9 (w : PySem.World) (T : Addr) (M one two : AV) (r0 r1 r2 o0 o1 o2 : Int) (u0 u2 u4 u7 : Option AV) (h1 h2 h3 h4 h6 h7 h8 : AO) (B : Bag 3 2 [.tab T qLam, h1, h2, h3, h4, .lst [.int r0, .int r1, .int r2], h6, h7, h8, .lst [.int o0, .int o1, .int o2]])
    (q : ∀ (h3 h10 : AO) (x1 x2 x3 x4 x5 : Str), x1 ∈ five ∧ x2 ∈ five ∧ x5 ∈ five → x1 ≠ x2 → Bag 3 2 [.tab T qLam, h1, h2, h3, h4, .lst [.int r0, .int r1, .int r2], h6, h7, h8, .lst [.int o0, .int o1, .int o2], h10, .lst [.str x1, .str x2, .str x3, .str x4, .str x5]] → Yes (lw10 w T [u0, some (.ref 3), u2, some buildT, u4, some M, some (.ref 5), u7, some (.ref 9), some one, some two, some (.ref 11), none, none, none, none, none, none, none, none, none, none, none, none, none, none, none, none, none, none, none, none]) [.tab T qLam, h1, h2, h3, h4, .lst [.int r0, .int r1, .int r2], h6, h7, h8, .lst [.int o0, .int o1, .int o2], h10, .lst [.str x1, .str x2, .str x3, .str x4, .str x5]] Fin NX) : Yes (lw9 w T [u0, some (.ref 3), u2, some buildT, u4, some M, some (.ref 5), u7, some (.ref 9), some one, some two, none, none, none, none, none, none, none, none, none, none, none, none, none, none, none, none, none, none, none, none, none]) [.tab T qLam, h1, h2, h3, h4, .lst [.int r0, .int r1, .int r2], h6, h7, h8, .lst [.int o0, .int o1, .int o2]] Fin NX := by
  unfold lw9
  have B1 : Bag 3 2 (([.tab T qLam, h1, h2, h3, h4, .lst [.int r0, .int r1, .int r2], h6, h7, h8, .lst [.int o0, .int o1, .int o2]] : AH) ++ [AO.lst [.str "a", .str "b", .str "c", .str "s", .str "t"]]) := B.push rfl
  refine y_seq (y_set (y_call (y_cons (y_var rfl (y_one (y_lst (y_cons (y_c (y_cons (y_c (y_cons (y_c (y_cons (y_c (y_one (y_c ⟨rfl, rfl, mixed_yes B1 (n := 10) (xs := [.str "a", .str "b", .str "c", .str "s", .str "t"]) (by simp) rfl (by decide) rfl fun a b c ys hp => ?_⟩))))))))))))))))
  obtain ⟨x1, x2, x3, x4, x5, rfl, h5, ne⟩ := five_of hp
  exact q _ _ x1 x2 x3 x4 x5 h5 ne ((B1.put a b c).push (liesA_strs _ [x1, x2, x3, x4, x5]))

theorem l8 (w : PySem.World) (T : Addr) (M : AV) (r0 r1 r2 o0 o1 o2 : Int) (u0 u2 u4 u7 : Option AV) (h1 h2 h3 h4 h6 h7 h8 : AO) (q : Yes (lw9 w T [u0, some (.ref 3), u2, some buildT, u4, some M, some (.ref 5), u7, some (.ref 9), some (wld M [.int r0, .int r1, .int r2] [.int 1]), some (wld M [.int o0, .int o1, .int o2] [.int 1]), none, none, none, none, none, none, none, none, none, none, none, none, none, none, none, none, none, none, none, none, none]) [.tab T qLam, h1, h2, h3, h4, .lst [.int r0, .int r1, .int r2], h6, h7, h8, .lst [.int o0, .int o1, .int o2]] Fin NX) : Yes (lw8 w T [u0, some (.ref 3), u2, some buildT, u4, some M, some (.ref 5), u7, some (.ref 9), none, none, none, none, none, none, none, none, none, none, none, none, none, none, none, none, none, none, none, none, none, none, none]) [.tab T qLam, h1, h2, h3, h4, .lst [.int r0, .int r1, .int r2], h6, h7, h8, .lst [.int o0, .int o1, .int o2]] Fin NX := by
  unfold lw8
  exact y_seq (y_of (l := []) (v := .nx [u0, some (.ref 3), u2, some buildT, u4, some M, some (.ref 5), u7, some (.ref 9), some (wld M [.int r0, .int r1, .int r2] [.int 1]), some (wld M [.int o0, .int o1, .int o2] [.int 1]), none, none, none, none, none, none, none, none, none, none, none, none, none, none, none, none, none, none, none, none, none]) (A' := [.tab T qLam, h1, h2, h3, h4, .lst [.int r0, .int r1, .int r2], h6, h7, h8, .lst [.int o0, .int o1, .int o2]]) (by kernel_rfl) nofun q)

theorem l7 (w : PySem.World) (T : Addr) (M : AV) (r0 r1 r2 by0 : Int) (u0 u2 u4 : Option AV) (h1 h2 h3 h4 h6 : AO) (B : Bag 3 2 [.tab T qLam, h1, h2, h3, h4, .lst [.int r0, .int r1, .int r2], h6])
    (q : ∀ (h3 h7 h8 : AO) (e1 e2 : Int), e1 = 0 ∨ e1 = 3 → e2 = 0 ∨ e2 = 1 → Bag 3 2 [.tab T qLam, h1, h2, h3, h4, .lst [.int r0, .int r1, .int r2], h6, h7, h8, .lst [.int (r0 + by0), .int (r1 - by0 + e1), .int (r2 + e2)]] → Yes (lw8 w T [u0, some (.ref 3), u2, some buildT, u4, some M, some (.ref 5), some (.int by0), some (.ref 9), none, none, none, none, none, none, none, none, none, none, none, none, none, none, none, none, none, none, none, none, none, none, none]) [.tab T qLam, h1, h2, h3, h4, .lst [.int r0, .int r1, .int r2], h6, h7, h8, .lst [.int (r0 + by0), .int (r1 - by0 + e1), .int (r2 + e2)]] Fin NX) : Yes (lw7 w T [u0, some (.ref 3), u2, some buildT, u4, some M, some (.ref 5), some (.int by0), none, none, none, none, none, none, none, none, none, none, none, none, none, none, none, none, none, none, none, none, none, none, none, none]) [.tab T qLam, h1, h2, h3, h4, .lst [.int r0, .int r1, .int r2], h6] Fin NX := by
  unfold lw7
  have B1 : Bag 3 2 (([.tab T qLam, h1, h2, h3, h4, .lst [.int r0, .int r1, .int r2], h6] : AH) ++ [AO.lst [.int 0, .int 0, .int 3]]) := B.push rfl
  refine y_seq (y_set (y_lst (y_cons (y_bin (y_bin (y_var rfl (y_c ⟨_, _, rfl, y_var rfl ⟨_, _, rfl, y_cons (y_bin (y_bin (y_bin (y_var rfl (y_c ⟨_, _, rfl, y_var rfl ⟨_, _, rfl, y_call (y_cons (y_var rfl (y_one (y_lst (y_cons (y_c (y_cons (y_c (y_one (y_c ⟨rfl, rfl, some_yes B1 (n := 7) (xs := [.int 0, .int 0, .int 3]) (by decide) rfl (by decide) (by decide) fun a b c v hv => ?_⟩))))))))))⟩⟩)))))⟩⟩)))))))
  obtain ⟨e1, rfl, he1⟩ : ∃ e1 : Int, v = .int e1 ∧ (e1 = 0 ∨ e1 = 3) := by
    simp only [List.mem_cons, List.not_mem_nil, or_false] at hv
    rcases hv with rfl | rfl | rfl
    · exact ⟨0, rfl, .inl rfl⟩
    · exact ⟨0, rfl, .inl rfl⟩
    · exact ⟨3, rfl, .inr rfl⟩
  have B2 : Bag 3 2 ((([.tab T qLam, h1, h2, h3, h4, .lst [.int r0, .int r1, .int r2], h6] : AH) ++ [AO.lst [.int 0, .int 0, .int 3]]).set 3 (bagO 2 a b c) ++ [AO.lst [.int 0, .int 0, .int 1]]) := (B1.put a b c).push rfl
  refine ⟨_, _, rfl, y_one (y_bin (y_bin (y_var rfl (y_c ⟨_, _, rfl, y_call (y_cons (y_var rfl (y_one (y_lst (y_cons (y_c (y_cons (y_c (y_one (y_c ⟨rfl, rfl, some_yes B2 (n := 8) (xs := [.int 0, .int 0, .int 1]) (by decide) rfl (by decide) (by decide) fun a' b' c' v' hv' => ?_⟩))))))))))⟩))))⟩
  obtain ⟨e2, rfl, he2⟩ : ∃ e2 : Int, v' = .int e2 ∧ (e2 = 0 ∨ e2 = 1) := by
    simp only [List.mem_cons, List.not_mem_nil, or_false] at hv'
    rcases hv' with rfl | rfl | rfl
    · exact ⟨0, rfl, .inl rfl⟩
    · exact ⟨0, rfl, .inl rfl⟩
    · exact ⟨1, rfl, .inr rfl⟩
  exact ⟨_, _, rfl, rfl, q _ _ _ e1 e2 he1 he2 ((B2.put a' b' c').push rfl)⟩

theorem l6 (w : PySem.World) (T : Addr) (M : AV) (u0 u2 u4 : Option AV) (h1 h2 h3 h4 : AO) (B : Bag 3 2 [.tab T qLam, h1, h2, h3, h4])
    (q : ∀ (h3 h6 : AO) (v0 v1 v2 : Nat) (by0 : Int), v0 < 9 → v1 < 9 → v2 < 9 → (-4 ≤ by0 ∧ by0 ≤ 2) → Bag 3 2 [.tab T qLam, h1, h2, h3, h4, .lst [.int (Int.ofNat v0), .int (Int.ofNat v1), .int (Int.ofNat v2)], h6] → Yes (lw7 w T [u0, some (.ref 3), u2, some buildT, u4, some M, some (.ref 5), some (.int by0), none, none, none, none, none, none, none, none, none, none, none, none, none, none, none, none, none, none, none, none, none, none, none, none]) [.tab T qLam, h1, h2, h3, h4, .lst [.int (Int.ofNat v0), .int (Int.ofNat v1), .int (Int.ofNat v2)], h6] Fin NX) : Yes (lw6 w T [u0, some (.ref 3), u2, some buildT, u4, some M, none, none, none, none, none, none, none, none, none, none, none, none, none, none, none, none, none, none, none, none, none, none, none, none, none, none]) [.tab T qLam, h1, h2, h3, h4] Fin NX := by
  unfold lw6
  refine y_seq (y_par (y_cons (y_bind (y_bind (y_one (y_c ?_))))))
  refine y_pure ?_
  refine y_bind (y_bind (y_get (z := some (.int 0)) rfl (y_bind (y_get rfl (y_bind (y_nox (y_pure (y_bind (y_nox (y_call (y_cons (y_var rfl (y_one (y_c ⟨rfl, take_yes (m := 9) B (by decide) (by decide) fun a b c v0 hv0 => ?_⟩))))))))))))))
  refine y_bind (y_chk rfl ?_)
  refine y_bind (y_get (z := some (.int 1)) rfl (y_bind (y_get rfl (y_bind (y_nox (y_pure (y_bind (y_nox (y_call (y_cons (y_var rfl (y_one (y_c ⟨rfl, take_yes (m := 9) (B.put a b c) (by decide) (by decide) fun a' b' c' v1 hv1 => ?_⟩)))))))))))))
  refine y_bind (y_chk rfl ?_)
  refine y_bind (y_get (z := some (.int 2)) rfl (y_bind (y_get rfl (y_bind (y_nox (y_pure (y_bind (y_nox (y_call (y_cons (y_var rfl (y_one (y_c ⟨rfl, take_yes (m := 9) ((B.put a b c).put a' b' c') (by decide) (by decide) fun a2 b2 c2 v2 hv2 => ?_⟩)))))))))))))
  refine y_bind (y_chk rfl ?_)
  refine y_bind (y_get (z := none) rfl (y_pure ?_))
  have B1 : Bag 3 2 ([.tab T qLam, h1, h2, bagO 2 a2 b2 c2, h4, .lst [.int (Int.ofNat v0), .int (Int.ofNat v1), .int (Int.ofNat v2)]] : AH) := (((B.put a b c).put a' b' c').put a2 b2 c2).push rfl
  refine y_lift (A' := [.tab T qLam, h1, h2, bagO 2 a2 b2 c2, h4, .lst [.int (Int.ofNat v0), .int (Int.ofNat v1), .int (Int.ofNat v2)]]) rfl ?_
  have B2 : Bag 3 2 (([.tab T qLam, h1, h2, bagO 2 a2 b2 c2, h4, .lst [.int (Int.ofNat v0), .int (Int.ofNat v1), .int (Int.ofNat v2)]] : AH) ++ [AO.lst [.int 0, .int 1, .int (-4), .int 0, .int 2]]) := B1.push rfl
  refine y_one (y_call (y_cons (y_var rfl (y_one (y_lst (y_cons (y_c (y_cons (y_c (y_cons (y_un (y_c ⟨_, _, rfl, y_cons (y_c (y_one (y_c ⟨rfl, rfl, some_yes B2 (n := 6) (xs := [.int 0, .int 1, .int (-4), .int 0, .int 2]) (by decide) rfl (by decide) (by decide) fun x y z v hv => ?_⟩)))⟩))))))))))))
  obtain ⟨by0, rfl, hb⟩ : ∃ by0 : Int, v = .int by0 ∧ (-4 ≤ by0 ∧ by0 ≤ 2) := by
    simp only [List.mem_cons, List.not_mem_nil, or_false] at hv
    rcases hv with rfl | rfl | rfl | rfl | rfl
    · exact ⟨0, rfl, by decide⟩
    · exact ⟨1, rfl, by decide⟩
    · exact ⟨-4, rfl, by decide⟩
    · exact ⟨0, rfl, by decide⟩
    · exact ⟨2, rfl, by decide⟩
  exact ⟨_, _, rfl, q _ _ v0 v1 v2 by0 hv0 hv1 hv2 hb (B2.put x y z)⟩

end K95

set_option Elab.async false
set_option linter.all false
set_option maxRecDepth 100000
set_option maxHeartbeats 0
/-! K95O: the law's run, whole (printed by genl4.py). -/
namespace K95
open PySem PySem.Spec PyProof.Rows L2 AX
def mixL (n c : Int) : Int := (37 * ((31 * (n % 1000003) + 1 + 15) % 1000003) + c + 1) % 1000003 - 500000
theorem mix_eq (n c : Int) : mixL n c = mixT n c := by
  unfold mixL mixT
  have e : 31 * (n % 1000003) + 1 + 15 = 31 * (n % 1000003) + 15 + 1 := by omega
  rw [e]
theorem apply_n (n c : Int) : ends (f__law_apply [numM n, tx "f", .tup [.int c]]) = some ([], .ok (.int (mixL n c))) := by kernel_rfl
theorem apply_s : ∀ c : Int, 0 ≤ c → c ≤ 9 → ends (f__law_apply [sumM, tx "f", .tup [.int c]]) = some ([], .ok (.int (sumT c))) := by
  intro c h1 h2
  have h : c = 0 ∨ c = 1 ∨ c = 2 ∨ c = 3 ∨ c = 4 ∨ c = 5 ∨ c = 6 ∨ c = 7 ∨ c = 8 ∨ c = 9 := by omega
  rcases h with rfl | rfl | rfl | rfl | rfl | rfl | rfl | rfl | rfl | rfl <;> kernel_rfl
theorem applyI_of {xs : List AV} {i : Int} {l : List Prop} (h : ends (f__law_apply xs) = some (l, .ok (.int i))) : applyI xs = i := by
  obtain ⟨A', e⟩ := ends_of h
  unfold applyI
  rw [e]
theorem op_apply {M : AV} {c i : Int} (hM : M.pur = true) (h : ends (f__law_apply [M, tx "f", .tup [.int c]]) = some ([], .ok (.int i))) : OPr 3 f__law_apply applyG [M, tx "f", .tup [.int c]] := by
  refine ⟨⟨purs3 hM rfl rfl, rfl⟩, rfl, ?_⟩
  unfold applyG
  rw [applyI_of h]
  exact gives_of h nofun

theorem run_n (w : PySem.World) (T : Addr) {n : Int} (hn : -1000 ≤ n) (hn9 : n < 99) (u0 u2 u4 : Option AV) (h1 h2 h3 h4 : AO) (B : Bag 3 2 [.tab T qLam, h1, h2, h3, h4]) : Yes (lw6 w T [u0, some (.ref 3), u2, some buildT, u4, some (numM n), none, none, none, none, none, none, none, none, none, none, none, none, none, none, none, none, none, none, none, none, none, none, none, none, none, none]) [.tab T qLam, h1, h2, h3, h4] Fin NX := by
  refine l6 (B := B) (q := fun h3 h6 v0 v1 v2 by0 hv0 hv1 hv2 hb B => ?_) ..
  refine l7 (B := B) (q := fun h3 h7 h8 e1 e2 he1 he2 B => ?_) ..
  refine l8 (q := ?_) ..
  refine l9 (B := B) (q := fun h3 h10 x1 x2 x3 x4 x5 h5 ne B => ?_) ..
  refine l10 (B := B) (q := fun h3 j d hj hd => ?_) ..
  have i0 : Int.ofNat v0 = (v0 : Int) := rfl
  have i1 : Int.ofNat v1 = (v1 : Int) := rfl
  have i2 : Int.ofNat v2 = (v2 : Int) := rfl
  have b0 : -1000 ≤ Int.ofNat v0 ∧ Int.ofNat v0 ≤ 1000 := by omega
  have b1 : -1000 ≤ Int.ofNat v1 ∧ Int.ofNat v1 ≤ 1000 := by omega
  have b2 : -1000 ≤ Int.ofNat v2 ∧ Int.ofNat v2 ≤ 1000 := by omega
  have c0 : -1000 ≤ Int.ofNat v0 + by0 ∧ Int.ofNat v0 + by0 ≤ 1000 := by omega
  have c1 : -1000 ≤ Int.ofNat v1 - by0 + e1 ∧ Int.ofNat v1 - by0 + e1 ≤ 1000 := by omega
  have c2 : -1000 ≤ Int.ofNat v2 + e2 ∧ Int.ofNat v2 + e2 ≤ 1000 := by omega
  refine l11 (t := (mixT n (Int.ofNat v2))) (t' := (mixT n (Int.ofNat v2 + e2))) (a1 := (op_apply rfl (apply_n n (Int.ofNat v2)))) (e1 := ((applyI_of (apply_n n (Int.ofNat v2))).trans (mix_eq n (Int.ofNat v2)))) (a2 := (op_apply rfl (apply_n n (Int.ofNat v2 + e2)))) (e2 := ((applyI_of (apply_n n (Int.ofNat v2 + e2))).trans (mix_eq n (Int.ofNat v2 + e2)))) (q := fun u16 u17 => ?_) ..
  match j, d, hj, hd with
    | 0, 0, _, _ =>
      exact l13_00 (hx := h5.1) (hy := h5.2.1) (hz := h5.2.2) (q := fun _ _ _ _ _ _ _ _ _ _ _ _ _ _ _ due hdue => ty_n0 (x := x1) (y := x2) (z := x5) (hr0 := b0) (hr1 := b1) (hr2 := b2) (ho0 := c0) (ho1 := c1) (ho2 := c2) (hn := ⟨by omega, by omega⟩) (hn9 := hn9) (O := seen_ok0) (hz := h5.2.2) (hdue := hdue) ..) ..
    | 0, 1, _, _ =>
      exact l13_01 (hx := h5.1) (hy := h5.2.1) (hz := h5.2.2) (q := fun _ _ _ _ _ _ _ _ _ _ _ _ _ _ _ due hdue => ty_n0 (x := x1) (y := x2) (z := x5) (hr0 := b0) (hr1 := b1) (hr2 := b2) (ho0 := c0) (ho1 := c1) (ho2 := c2) (hn := ⟨by omega, by omega⟩) (hn9 := hn9) (O := seen_ok0t) (hz := h5.2.2) (hdue := hdue) ..) ..
    | 1, 0, _, _ =>
      exact l13_10 (hx := h5.1) (hy := h5.2.1) (hz := h5.2.2) (q := fun _ _ _ _ _ _ _ _ _ _ _ _ _ _ _ due hdue => ty_n1 (x := x1) (y := x2) (z := x5) (hr0 := b0) (hr1 := b1) (hr2 := b2) (ho0 := c0) (ho1 := c1) (ho2 := c2) (hn := ⟨by omega, by omega⟩) (hn9 := hn9) (O := (seen_ok1 h5.1)) (hz := h5.2.2) (hdue := hdue) ..) ..
    | 1, 1, _, _ =>
      exact l13_11 (hx := h5.1) (hy := h5.2.1) (hz := h5.2.2) (q := fun _ _ _ _ _ _ _ _ _ _ _ _ _ _ _ due hdue => ty_n1 (x := x1) (y := x2) (z := x5) (hr0 := b0) (hr1 := b1) (hr2 := b2) (ho0 := c0) (ho1 := c1) (ho2 := c2) (hn := ⟨by omega, by omega⟩) (hn9 := hn9) (O := (seen_ok1t h5.1)) (hz := h5.2.2) (hdue := hdue) ..) ..
    | 2, 0, _, _ =>
      exact l13_20 (hx := h5.1) (hy := h5.2.1) (hz := h5.2.2) (q := fun _ _ _ _ _ _ _ _ _ _ _ _ _ _ _ due hdue => ty_n2 (x := x1) (y := x2) (z := x5) (hr0 := b0) (hr1 := b1) (hr2 := b2) (ho0 := c0) (ho1 := c1) (ho2 := c2) (hn := ⟨by omega, by omega⟩) (hn9 := hn9) (O := (seen_ok2 h5.1 h5.2.1 ne)) (hz := h5.2.2) (hdue := hdue) ..) ..
    | 2, 1, _, _ =>
      exact l13_21 (hx := h5.1) (hy := h5.2.1) (hz := h5.2.2) (q := fun _ _ _ _ _ _ _ _ _ _ _ _ _ _ _ due hdue => ty_n2 (x := x1) (y := x2) (z := x5) (hr0 := b0) (hr1 := b1) (hr2 := b2) (ho0 := c0) (ho1 := c1) (ho2 := c2) (hn := ⟨by omega, by omega⟩) (hn9 := hn9) (O := (seen_ok2t h5.1 h5.2.1 ne)) (hz := h5.2.2) (hdue := hdue) ..) ..

theorem run_s (w : PySem.World) (T : Addr) {n : Int} (hn : -1000 ≤ n) (hn9 : n < 99) (u0 u2 u4 : Option AV) (h1 h2 h3 h4 : AO) (B : Bag 3 2 [.tab T qLam, h1, h2, h3, h4]) : Yes (lw6 w T [u0, some (.ref 3), u2, some buildT, u4, some sumM, none, none, none, none, none, none, none, none, none, none, none, none, none, none, none, none, none, none, none, none, none, none, none, none, none, none]) [.tab T qLam, h1, h2, h3, h4] Fin NX := by
  refine l6 (B := B) (q := fun h3 h6 v0 v1 v2 by0 hv0 hv1 hv2 hb B => ?_) ..
  refine l7 (B := B) (q := fun h3 h7 h8 e1 e2 he1 he2 B => ?_) ..
  refine l8 (q := ?_) ..
  refine l9 (B := B) (q := fun h3 h10 x1 x2 x3 x4 x5 h5 ne B => ?_) ..
  refine l10 (B := B) (q := fun h3 j d hj hd => ?_) ..
  have i0 : Int.ofNat v0 = (v0 : Int) := rfl
  have i1 : Int.ofNat v1 = (v1 : Int) := rfl
  have i2 : Int.ofNat v2 = (v2 : Int) := rfl
  have b0 : -1000 ≤ Int.ofNat v0 ∧ Int.ofNat v0 ≤ 1000 := by omega
  have b1 : -1000 ≤ Int.ofNat v1 ∧ Int.ofNat v1 ≤ 1000 := by omega
  have b2 : -1000 ≤ Int.ofNat v2 ∧ Int.ofNat v2 ≤ 1000 := by omega
  have c0 : -1000 ≤ Int.ofNat v0 + by0 ∧ Int.ofNat v0 + by0 ≤ 1000 := by omega
  have c1 : -1000 ≤ Int.ofNat v1 - by0 + e1 ∧ Int.ofNat v1 - by0 + e1 ≤ 1000 := by omega
  have c2 : -1000 ≤ Int.ofNat v2 + e2 ∧ Int.ofNat v2 + e2 ≤ 1000 := by omega
  refine l11 (t := (sumT (Int.ofNat v2))) (t' := (sumT (Int.ofNat v2 + e2))) (a1 := (op_apply rfl (apply_s (Int.ofNat v2) (by omega) (by omega)))) (e1 := (applyI_of (apply_s (Int.ofNat v2) (by omega) (by omega)))) (a2 := (op_apply rfl (apply_s (Int.ofNat v2 + e2) (by omega) (by omega)))) (e2 := (applyI_of (apply_s (Int.ofNat v2 + e2) (by omega) (by omega)))) (q := fun u16 u17 => ?_) ..
  match j, d, hj, hd with
    | 0, 0, _, _ =>
      exact l13_00 (hx := h5.1) (hy := h5.2.1) (hz := h5.2.2) (q := fun _ _ _ _ _ _ _ _ _ _ _ _ _ _ _ due hdue => ty_s0 (x := x1) (y := x2) (z := x5) (hr0 := b0) (hr1 := b1) (hr2 := b2) (ho0 := c0) (ho1 := c1) (ho2 := c2) (hn := ⟨by omega, by omega⟩) (hn9 := hn9) (O := seen_ok0) (hz := h5.2.2) (hdue := hdue) ..) ..
    | 0, 1, _, _ =>
      exact l13_01 (hx := h5.1) (hy := h5.2.1) (hz := h5.2.2) (q := fun _ _ _ _ _ _ _ _ _ _ _ _ _ _ _ due hdue => ty_s0 (x := x1) (y := x2) (z := x5) (hr0 := b0) (hr1 := b1) (hr2 := b2) (ho0 := c0) (ho1 := c1) (ho2 := c2) (hn := ⟨by omega, by omega⟩) (hn9 := hn9) (O := seen_ok0t) (hz := h5.2.2) (hdue := hdue) ..) ..
    | 1, 0, _, _ =>
      exact l13_10 (hx := h5.1) (hy := h5.2.1) (hz := h5.2.2) (q := fun _ _ _ _ _ _ _ _ _ _ _ _ _ _ _ due hdue => ty_s1 (x := x1) (y := x2) (z := x5) (hr0 := b0) (hr1 := b1) (hr2 := b2) (ho0 := c0) (ho1 := c1) (ho2 := c2) (hn := ⟨by omega, by omega⟩) (hn9 := hn9) (O := (seen_ok1 h5.1)) (hz := h5.2.2) (hdue := hdue) ..) ..
    | 1, 1, _, _ =>
      exact l13_11 (hx := h5.1) (hy := h5.2.1) (hz := h5.2.2) (q := fun _ _ _ _ _ _ _ _ _ _ _ _ _ _ _ due hdue => ty_s1 (x := x1) (y := x2) (z := x5) (hr0 := b0) (hr1 := b1) (hr2 := b2) (ho0 := c0) (ho1 := c1) (ho2 := c2) (hn := ⟨by omega, by omega⟩) (hn9 := hn9) (O := (seen_ok1t h5.1)) (hz := h5.2.2) (hdue := hdue) ..) ..
    | 2, 0, _, _ =>
      exact l13_20 (hx := h5.1) (hy := h5.2.1) (hz := h5.2.2) (q := fun _ _ _ _ _ _ _ _ _ _ _ _ _ _ _ due hdue => ty_s2 (x := x1) (y := x2) (z := x5) (hr0 := b0) (hr1 := b1) (hr2 := b2) (ho0 := c0) (ho1 := c1) (ho2 := c2) (hn := ⟨by omega, by omega⟩) (hn9 := hn9) (O := (seen_ok2 h5.1 h5.2.1 ne)) (hz := h5.2.2) (hdue := hdue) ..) ..
    | 2, 1, _, _ =>
      exact l13_21 (hx := h5.1) (hy := h5.2.1) (hz := h5.2.2) (q := fun _ _ _ _ _ _ _ _ _ _ _ _ _ _ _ due hdue => ty_s2 (x := x1) (y := x2) (z := x5) (hr0 := b0) (hr1 := b1) (hr2 := b2) (ho0 := c0) (ho1 := c1) (ho2 := c2) (hn := ⟨by omega, by omega⟩) (hn9 := hn9) (O := (seen_ok2t h5.1 h5.2.1 ne)) (hz := h5.2.2) (hdue := hdue) ..) ..

theorem kind_n : strB ("numbers" : Str) "numbers" = true := by decide +kernel
theorem kind_s : strB ("sums" : Str) "numbers" = false := by decide +kernel
theorem law_yes (w : PySem.World) (T : Addr) (ns : List Int) (hx : ns.length ≤ 63) : Yes (f_law w T [.lsf (ns.map AV.int)]) [.tab T qLam] (fun v _ => v = .bl true) (fun _ _ => False) := by
  unfold f_law
  refine y_run ?_
  rw [law_lw]
  refine Yes.mono (k := Fin) (x := NX) ?_ (fun o A h => by unfold Fin at h; subst h; rfl) fun _ _ h => h
  unfold lw1
  refine y_seq (y_set (y_call (y_one (y_var rfl ⟨rfl, bag_yes hx fun ds cs hc => ?_⟩))))
  show Yes (lw2 w T [some (.lsf (ns.map AV.int)), some (.ref 3), none, none, none, none, none, none, none, none, none, none, none, none, none, none, none, none, none, none, none, none, none, none, none, none, none, none, none, none, none, none]) [.tab T qLam, .lst (ds.map AV.int), .lst (cs.map AV.int), bagO 2 0 1234567891 0] Fin NX
  have B : Bag 3 2 [.tab T qLam, .lst (ds.map AV.int), .lst (cs.map AV.int), bagO 2 0 1234567891 0] := ⟨⟨0, 1234567891, 0, rfl⟩, ⟨cs, rfl, by omega⟩, by decide, by
    show (true && (AV.liesA 4 (ds.map AV.int) && (AV.liesA 4 (cs.map AV.int) && ((bagO 2 0 1234567891 0).lies 4 && true)))) = true
    rw [liesA_ints, liesA_ints]
    rfl⟩
  unfold lw2
  refine y_seq (y_of (l := []) (v := .nx [some (.lsf (ns.map AV.int)), some (.ref 3), some (.tup [.tup [tx "read", tx "a"], .tup [tx "read", tx "b"], .tup [tx "read", tx "c"], .tup [tx "op", tx "s", tx "add", .tup [tx "a", tx "b"]], .tup [tx "tell", tx "s"]]), none, none, none, none, none, none, none, none, none, none, none, none, none, none, none, none, none, none, none, none, none, none, none, none, none, none, none, none, none]) (A' := [.tab T qLam, .lst (ds.map AV.int), .lst (cs.map AV.int), bagO 2 0 1234567891 0]) (by kernel_rfl) nofun ?_)
  show Yes (lw3 w T [some (.lsf (ns.map AV.int)), some (.ref 3), some (.tup [.tup [tx "read", tx "a"], .tup [tx "read", tx "b"], .tup [tx "read", tx "c"], .tup [tx "op", tx "s", tx "add", .tup [tx "a", tx "b"]], .tup [tx "tell", tx "s"]]), none, none, none, none, none, none, none, none, none, none, none, none, none, none, none, none, none, none, none, none, none, none, none, none, none, none, none, none, none]) [.tab T qLam, .lst (ds.map AV.int), .lst (cs.map AV.int), bagO 2 0 1234567891 0] Fin NX
  unfold lw3
  refine y_seq (y_of (l := []) (v := .nx [some (.lsf (ns.map AV.int)), some (.ref 3), some progRows, none, none, none, none, none, none, none, none, none, none, none, none, none, none, none, none, none, none, none, none, none, none, none, none, none, none, none, none, none]) (A' := [.tab T qLam, .lst (ds.map AV.int), .lst (cs.map AV.int), bagO 2 0 1234567891 0]) (by kernel_rfl) nofun ?_)
  show Yes (lw4 w T [some (.lsf (ns.map AV.int)), some (.ref 3), some progRows, none, none, none, none, none, none, none, none, none, none, none, none, none, none, none, none, none, none, none, none, none, none, none, none, none, none, none, none, none]) [.tab T qLam, .lst (ds.map AV.int), .lst (cs.map AV.int), bagO 2 0 1234567891 0] Fin NX
  unfold lw4
  have B1 : Bag 3 2 (([.tab T qLam, .lst (ds.map AV.int), .lst (cs.map AV.int), bagO 2 0 1234567891 0] : AH) ++ [AO.lst [.str "numbers", .str "sums"]]) := B.push rfl
  refine y_seq (y_asg (y_tup (y_cons (y_of (l := [OPr 1 f_plain_code (fun _ => codeT) [theProg], OPr 1 f_own_build (fun _ => buildT) [theProg]]) (v := buildT) (A' := [.tab T qLam, .lst (ds.map AV.int), .lst (cs.map AV.int), bagO 2 0 1234567891 0]) (by kernel_rfl) (all_cons plain_ok (all_cons own_ok all_nil))
    (y_one (y_call (y_cons (y_var rfl (y_one (y_lst (y_cons (y_c (y_one (y_c ⟨rfl, rfl, some_yes B1 (n := 4) (xs := [.str "numbers", .str "sums"]) (by decide) rfl (by decide) (by decide) fun a b c v hv => ⟨rfl, y_of (l := []) rfl nofun ?_⟩⟩))))))))))))))
  simp only [List.mem_cons, List.not_mem_nil, or_false] at hv
  rcases hv with rfl | rfl
  · show Yes (lw5 w T _) _ Fin NX
    unfold lw5
    refine y_seq (y_set (y_aif (y_val (y_bin (y_var rfl (y_c ⟨_, _, rfl, _, rfl, ?_⟩))))))
    rw [kind_n]
    refine y_tup (y_cons (y_c (y_one (y_call (y_cons (y_var rfl (y_one (y_c ⟨rfl, take_yes (m := 50) (B1.put a b c) (by decide) (by decide) fun a' b' c' v hv => ⟨rfl, ?_⟩⟩))))))))
    have iv : Int.ofNat v = (v : Int) := rfl
    exact run_n w T (n := Int.ofNat v) (by omega) (by omega) _ _ _ _ _ _ _ ((B1.put a b c).put a' b' c')
  · show Yes (lw5 w T _) _ Fin NX
    unfold lw5
    refine y_seq (y_set (y_aif (y_val (y_bin (y_var rfl (y_c ⟨_, _, rfl, _, rfl, ?_⟩))))))
    rw [kind_s]
    refine y_of (l := []) (v := sumM) rfl nofun ?_
    exact run_s w T (n := 0) (by decide) (by decide) _ _ _ _ _ _ _ (B1.put a b c)
end K95

set_option Elab.async false
set_option linter.all false
set_option maxRecDepth 100000
set_option maxHeartbeats 0
/-! HF: the law's contract, the head, the row. -/
namespace K95
open PySem PySem.Spec PyProof.Rows L2 AX
theorem law_fn {P : Program} {w : PySem.World} {K : PySem.W.Frag} {mg : Str → Option Value} {base : Heap} (hp : PF P) (h : Hd K mg) {c T : Addr} (TB : LamX.TabB base mg c T) {fd : FuncData}
    (F : FunD K "law" "law" (defArgs s_law) (defBody s_law) (defScope s_law) [] [] (He.ga K "law") fd) (hcd : fd.code = .ref c) : FnG P w K mg base (L2N.CX P w) 13 (He.ga K "law") fd ["script"] (spA K 1 (f_law w T)) :=
  fnG_code (k := 12) F sc_law (fun vs H Q E h => h.1) fun A outer s H vs Q E hgd hr q => ⟨SS K E (r_law w T), b_law hp TB h hcd A outer s H E hgd hr (L2N.takes_of rfl rfl rfl rfl), body_at (N := n_law) q⟩
theorem vrs_ns {K : PySem.W.Frag} {ρ : List Addr} {H : Hp} : ∀ ns : List Int, VRs K ρ H (ns.map AV.int) (ns.map V.int)
  | [] => .nil
  | n :: ns => .cons (.int n) (vrs_ns ns)
theorem law_sp {K : PySem.W.Frag} {w : PySem.World} {T a : Addr} {H : Hp} {ns : List Int} (hl : ns.length ≤ 63) (hT : H T = some (.tbl #[])) (hS : SqF K H a (ns.map V.int)) : spA K 1 (f_law w T) [.ref a] H (fun v _ => v = .bl true) fun _ _ _ => False := by
  refine ⟨rfl, [T], [.tab T qLam], [.lsf (ns.map AV.int)], ⟨rfl, by simp, fun i b o hi ho => ?_⟩, .cons (.lsf hS (vrs_ns ns)) .nil, (law_yes w T ns hl).mono (fun v A' hv ρ' H' u g w' r => ?_) fun _ _ h => h.elim⟩
  · cases i with
    | succ i => cases hi
    | zero =>
      cases hi
      cases ho
      exact ⟨rfl, #[], hT, by first | exact .nil | trivial | constructor, fun pos cv h => by cases (show (none : Option Value) = some cv from h)⟩
  · have hv : v = .bl true := hv
    subst hv
    exact r.bl_eq
theorem facts {P : Program} {w : PySem.World} (hp : PF P) {K : PySem.W.Frag} {h : Heap} {mg : Str → Option Value} {f c : Addr} (X : K.In h) (G : h.Ns mainGlobals mg) (z : SaysZ fl fa fn xs exB K) (hfa : mg ("law" : Str) = some (.ref f)) (hc : ∃ o fd, h.get? f = some o ∧ o.data = .func fd ∧ fd.code = .ref c) (T : Addr) :
    ∃ fd : FuncData, (∀ (s : Shared) (u : Value), BindsTo s fd ⟨[u], []⟩ [("script", u)]) ∧ ∀ base : Heap, K.In base → base.Ns mainGlobals mg → LamX.TabB base mg c T → FnG P w K mg base (L2N.CX P w) 13 f fd ["script"] (spA K 1 (f_law w T)) := by
  have hd : Hd K mg := ⟨⟨h, X, G⟩, z⟩
  obtain ⟨fd, F⟩ := hd.f_law
  have e := hfa.symm.trans hd.g_law
  cases e
  have hcd : fd.code = .ref c := by
    obtain ⟨oc, od, dV, kV, doc, pm, an, cdv, ct, osl, e1, lk, _, _, _⟩ := id F.ex
    obtain ⟨o, fd', h1, h2, h3⟩ := hc
    have h4 := X _ _ lk
    rw [h1] at h4
    cases h4
    cases h2
    exact h3
  have b := FunD.bindsA (ps := ["script"]) F fun _ _ _ _ _ _ us hl => match us, hl with | [_], _ => rfl
  exact ⟨fd, fun s v => b s [v] rfl, fun base _ _ TB => law_fn hp hd TB F hcd⟩
theorem pfR : PF K95H.R.prog := ⟨by decide +kernel, by decide +kernel⟩
end K95
open PySem PySem.W PySem.Calls PyProof.Rows
theorem PySem.Challenge.cw_runshown_k95_whole_couples_of_worlds_by_holds : PySem.Challenge.rw_runshown_k95_whole_couples_of_worlds_by.Holds := by
  w_on; o_law
  refine HandSHeadRun.head_any (r := OpenLaw.row PySem.Challenge.rw_runshown_k95_whole_couples_of_worlds_by) (q := view (OpenLaw.row PySem.Challenge.rw_runshown_k95_whole_couples_of_worlds_by).prog [85]) (H := K95H.hk) (ob := K95H.ob) (M := 6000) (loose := K95H.names) (d := HandSHeadRun.topDef (OpenLaw.row PySem.Challenge.rw_runshown_k95_whole_couples_of_worlds_by).prog 85) (kwd := []) K95H.ob_eq
    (by kernel_rfl) (fun s => by kernel_rfl) K95H.run (by kernel_rfl) (by kernel_rfl) (by kernel_rfl) (by rfl) (by first | assumption | decide +kernel) (by decide +kernel) ⟨rfl, rfl, rfl, rfl, rfl, by decide +kernel⟩ ?hw ?hc
  case hw => w_witness2
  case hc =>
    refine AX.walk_ofG (l := PySem.Challenge.rw_runshown_k95_whole_couples_of_worlds_by) (n := 63) (k := 13) (x := "script") (CX := L2N.CX PySem.Challenge.rw_runshown_k95_whole_couples_of_worlds_by.prog) rfl (by decide) (by kernel_rfl) ⟨rfl, by decide, by decide⟩ (by kernel_rfl) ?F ?hX
    case hX =>
      intro w H s e s' z
      obtain ⟨a, B, H', cls, d, _, _, _, _, _, _, _, z⟩ := z
      exact z.elim
    case F =>
      intro w mg fa h c T Y G hmg0 hc hT
      obtain ⟨K, KX, z, nt⟩ := Y
      have hmg : mg ("law" : PySem.Str) = some (.ref fa) := by
        have e : (HandSHeadRun.topDef (OpenLaw.row PySem.Challenge.rw_runshown_k95_whole_couples_of_worlds_by).prog 85).name = ("law" : PySem.Str) := by kernel_rfl
        rw [← e]
        exact hmg0
      obtain ⟨fd, hb, hF⟩ := K95.facts (P := PySem.Challenge.rw_runshown_k95_whole_couples_of_worlds_by.prog) (w := w) K95.pfR KX G z hmg hc T
      refine ⟨K, fd, _, KX, ?_, hb, fun H a ns hl _ hH hS => K95.law_sp hl hH hS, hF⟩
      cases q : K.lookup T with
      | none => rfl
      | some o =>
        have e := KX T o q
        rw [hT] at e
        cases e
        exact (nt T q).elim
