import PyProof.Rows.All
import Wide.All
import OpenK.AllK
import Wide.FinOn
import PySem.Challenge.RW_no0171_01
open PySem PySem.W PyProof.Rows PySem.Calls
set_option Elab.async false
set_option maxRecDepth 100000
set_option maxHeartbeats 8000000
set_option linter.unusedVariables false
set_option linter.all false
set_option genSizeOfSpec false
namespace Mine
noncomputable abbrev pw : Program := PySem.Challenge.rw_no0171_01.prog
noncomputable def qv : Program := view pw [36]
noncomputable def lo : List Str := ["_wall", "ClausemillError", "PrologError", "A_NIL", "A_PLUS", "A_SYSTEM", "F_DOT", "F_MINUS1", "F_MINUS", "F_ERROR", "F_CATCH", "fixed_atoms", "fixed_functors", "Symbols", "system_error", "formal_of", "resource_error", "REF", "SRF", "STR", "LIS", "CON", "INT", "FUN", "VOID", "Cells", "Store", "_law_row", "_law_next", "_law_term", "_law_same", "_law_picked"].map Str.ofString
/-- the top's run over a tree of objects -/
noncomputable def topRunT (p : Program) (w : World) (n₀ : Nat) (ann : Option Value) : Nat → SharedT → Thread → Option SharedT
  | 0, _, _ => none
  | n + 1, s, t => match through t with
    | true => some s
    | false => match stepOk n₀ ann t with
      | false => none
      | true => match stepT (denote treeTable) p w s t with
        | some x => topRunT p w n₀ ann n x.1 x.2
        | none => none
theorem topRunT_of {p : Program} {w : World} {n₀ : Nat} {ann : Option Value} : ∀ {n : Nat} {s : SharedT} {t : Thread} {r : SharedT}, topRunT p w n₀ ann n s t = some r → topRun treeTable p w n₀ ann n s.abs t = some r.abs
  | 0, _, _, _, h => by simp [topRunT] at h
  | n + 1, s, t, r, h => by
    unfold topRunT at h
    unfold topRun
    cases ht : through t with
    | true => rw [ht] at h; obtain rfl : s = r := Option.some.inj h; rfl
    | false =>
      rw [ht] at h
      cases hk : stepOk n₀ ann t with
      | false => rw [hk] at h; cases h
      | true =>
        rw [hk] at h
        cases hs : stepT (denote treeTable) p w s t with
        | none => rw [hs] at h; cases h
        | some x =>
          rw [hs] at h
          have hs' := stepT_spec (s' := x.1) (t' := x.2) hs
          dsimp only at h ⊢
          rw [hs']
          exact topRunT_of h
noncomputable def btOf : List Obj → Nat → BT → BT
  | [], _, t => t
  | o :: l, i, t => btOf l (i + 1) (t.ins i o)
noncomputable def tree0 (P : Params) : BT := btOf (boot_heap P).objs.toList 0 .nil
theorem boot_abs (P : Params) : boot_heap P = absHeap (tree0 P) 11 (boot_heap P).life := by kernel_rfl
theorem boot_sees (P : Params) : ((boot_heap P).isNs mainGlobals && (#[] : Array GenState).size == 0, (boot_heap P).nsMap mainGlobals "__annotations__") = (true, some (.ref 6)) := by kernel_rfl
/-- an object of the run's end, by its tree -/
noncomputable def treeGet (s : SharedT) (a : Addr) : Option (Option Obj) := match Nat.blt a s.n with
  | true => match s.tree.get a with
    | some o => some (alive o)
    | none => none
  | false => some none
theorem treeGet_of {s : SharedT} {a : Addr} {x : Option Obj} (h : treeGet s a = some x) : s.abs.heap.get? a = x := by
  unfold treeGet at h
  cases hb : Nat.blt a s.n with
  | true =>
    rw [hb] at h
    have hl : a < s.n := Nat.le_of_ble_eq_true hb
    cases hg : s.tree.get a with
    | none => rw [hg] at h; cases h
    | some o => rw [hg] at h; exact (abs_get hl hg).trans (Option.some.inj h)
  | false =>
    rw [hb] at h
    have hl : ¬ a < s.n := fun hl => by
      have : Nat.blt a s.n = true := Nat.ble_eq_true_of_le hl
      rw [hb] at this; cases this
    exact (abs_get_none hl).trans (Option.some.inj h)
theorem treeGet_all {s : SharedT} : ∀ {as : List Addr} {ys : List (Addr × Obj)}, as.map (treeGet s) = ys.map (fun p => some (some p.2)) → as.map s.abs.heap.get? = ys.map fun p => some p.2
  | [], [], _ => rfl
  | [], _ :: _, h => by simp at h
  | _ :: _, [], h => by simp at h
  | a :: as, y :: ys, h => by
    rw [List.map_cons, List.map_cons, List.cons.injEq] at h
    rw [List.map_cons, List.map_cons, treeGet_of h.1, treeGet_all h.2]
theorem left_by {p q : Program} {loose : List Str} {Xt : Shared → Bool} {K : Params → Frag} {as : List Addr} {ek : ∀ P, as = (K P).map (·.1)} {N : Nat} {g0 : Bool}
    (e : opening p = plainProg p.main.scope.names) (hN : Nat.ble 600 N = true) (f : ∀ s, fenceModules? p s = some s)
    (run : ∀ (w : World) (os : OsState), ((topRunT p w 11 (some (.ref 6)) N ⟨tree0 w.params, 11, (boot_heap w.params).life, #[], boot_drawn, boot_toks, os⟩ (topStub p)).map fun s =>
      (staticsOk (importedModules p.main.body) (boot_heap w.params) s.abs.heap && namesBound p s.abs.heap && gensDone s.abs && laidKept (boot_heap w.params) s.abs.heap, openSeen q loose (importedModules p.main.body) Xt g0 s.abs, as.map (treeGet s))) = some (true, openGood q loose, (K w.params).map fun p => some (some p.2))) :
    LeftO p q loose Xt (Hook.obs (kHook K as ek)) (Hook.val (kHook K as ek)) N g0 := fun w => by
  have hb := boot_open e hN f w
  cases hs : fencedOpening treeTable p w N with
  | none => rw [hs] at hb; cases hb
  | some s =>
  rw [hs] at hb
  have hb := Option.some.inj hb
  have es : s = ⟨boot_heap w.params, Array.mk [], boot_drawn, boot_toks, s.os⟩ := by
    have h1 : s.heap = boot_heap w.params := congrArg (fun x => x.1) hb
    have h2 : s.gens = Array.mk [] := congrArg (fun x => x.2.1) hb
    have h3 : s.drawn = boot_drawn := congrArg (fun x => x.2.2.1) hb
    have h4 : s.toks = boot_toks := congrArg (fun x => x.2.2.2) hb
    rw [← h1, ← h2, ← h3, ← h4]
  have hv := run w s.os
  cases hr : topRunT p w 11 (some (.ref 6)) N ⟨tree0 w.params, 11, (boot_heap w.params).life, #[], boot_drawn, boot_toks, s.os⟩ (topStub p) with
  | none => rw [hr] at hv; cases hv
  | some r =>
  rw [hr] at hv
  have hv := Option.some.inj hv
  have top : topRun treeTable p w 11 (some (.ref 6)) N s (topStub p) = some r.abs := by
    have := topRunT_of hr
    unfold SharedT.abs at this
    dsimp only at this
    rw [← boot_abs] at this
    rw [es]
    exact this
  have seen0 := boot_sees w.params
  have n0 : s.heap.objs.size = 11 := by rw [es, boot_abs, absHeap_size]
  have g0 : (s.heap.isNs mainGlobals && s.gens.size == 0) = true := by rw [es]; exact congrArg (fun x => x.1) seen0
  have a0 : s.heap.nsMap mainGlobals "__annotations__" = some (.ref 6) := by rw [es]; exact congrArg (fun x => x.2) seen0
  have ok : (staticsOk (importedModules p.main.body) s.heap r.abs.heap && namesBound p r.abs.heap && gensDone r.abs && laidKept s.heap r.abs.heap) = true := by
    rw [es]; exact congrArg (fun x => x.1) hv
  have fin : topFrom treeTable p w N s = some r.abs := by
    simp only [topFrom, g0, n0, a0, top, Option.bind_some, ok]
  have l2 : openSeen q loose (importedModules p.main.body) Xt _ r.abs = openGood q loose := congrArg (fun x => x.2.1) hv
  have l3 := treeGet_all (congrArg (fun x => x.2.2) hv)
  simp only [openEnds, hs, Option.bind_some, fin, Option.map_some, l2]
  exact congrArg (fun x => some (openGood q loose, x)) l3
theorem open_pw : opening pw = plainProg pw.main.scope.names := by kernel_rfl
theorem fence_pw (s : Shared) : fenceModules? pw s = some s := by kernel_rfl
theorem said_row : PySem.Challenge.rw_no0171_01.row.wellSaid = true := by kernel_rfl
theorem said_pw : PySem.Challenge.rw_no0171_01.wellSaid = true := by
  unfold OpenLaw.wellSaid
  rw [said_row]
  kernel_rfl
set_option hygiene false
local macro_rules | `(tactic| o_law) => `(tactic| refine holds_law said_pw fun said => ?_)
local macro_rules | `(tactic| o_head $H) => `(tactic| refine holds_open (q := qv) (loose := lo) (Xt := fun s => xlAt qv [] s && recOk [] s) (XP := XL qv []) (Yf := Hook.obs $H) (Ya := Hook.val $H) (YP := Hook.says $H) (N := 5638) (left_by open_pw (by decide) fence_pw fun w os => by kernel_rfl) (Hook.of $H) (Hook.keeps $H) (fun s e => xl_of s (Bool.and_eq_true_iff.mp e).1) XL.keeps (by rfl) (by rfl) (by rfl) (fun s e => recFacts_of (Bool.and_eq_true_iff.mp e).2) (by rfl) (by first | assumption | decide +kernel) (by decide +kernel) ⟨rfl, rfl, rfl, rfl, rfl, by decide +kernel⟩ ?hw ?hc)
set_option hygiene true
open_top hd for PySem.Challenge.rw_no0171_01
theorem fillK : PySem.Challenge.rw_no0171_01.Holds → hd.heap_1 = hd.heap_1 := by k_fill; intro _; rfl
section

/-- a datum: what is not changed is by value, the rest by its address -/
inductive D where
  | none
  | bool (b : Bool)
  | int (i : Int)
  | str (x : Str)
  | tup (ds : List D)
  | ref (a : Addr)

noncomputable abbrev tupObj (vs : List Value) (n : Nat) : Obj := { cls := .type "tuple", data := .seq vs.toArray n }

mutual
inductive DR (h : Heap) : Value → D → Prop
  | none : DR h Value.none D.none
  | bool (b : Bool) : DR h (Value.bool b) (D.bool b)
  | int (i : Int) (t : Tok) : DR h (Value.int i t) (D.int i)
  | str (x : Str) (t : Tok) : DR h (Value.str x t) (D.str x)
  | tup {a : Addr} {vs : List Value} {n : Nat} {ds : List D} : h.get? a = some (tupObj vs n) → DRs h vs ds → DR h (Value.ref a) (D.tup ds)
  | ref (a : Addr) : DR h (Value.ref a) (D.ref a)
inductive DRs (h : Heap) : List Value → List D → Prop
  | nil : DRs h [] []
  | cons {v : Value} {vs : List Value} {d : D} {ds : List D} : DR h v d → DRs h vs ds → DRs h (v :: vs) (d :: ds)
end

noncomputable def Imm (o : Obj) : Prop := o.cls = .type "tuple" ∧ ∃ xs n, o.data = .seq xs n
/-- the tuples stay -/
noncomputable def Le (h h' : Heap) : Prop := ∀ a o, Imm o → h.get? a = some o → h'.get? a = some o
theorem Le.refl (h : Heap) : Le h h := fun _ _ _ e => e
theorem Le.trans {h h' h'' : Heap} (x : Le h h') (y : Le h' h'') : Le h h'' := fun a o i e => y a o i (x a o i e)
theorem Le.keeps {h h' : Heap} (k : ∀ b o, h.get? b = some o → h'.get? b = some o) : Le h h' := fun a o _ e => k a o e
theorem Le.push (h : Heap) (o : Obj) : Le h (h.push o) := .keeps fun _ _ e => Heap.get?_push_of_some _ e

mutual
theorem DR.mono {h h' : Heap} (l : Le h h') : ∀ {v : Value} {d : D}, DR h v d → DR h' v d
  | _, _, .none => .none
  | _, _, .bool b => .bool b
  | _, _, .int i t => .int i t
  | _, _, .str x t => .str x t
  | _, _, .tup e r => .tup (l _ _ ⟨rfl, _, _, rfl⟩ e) (DRs.mono l r)
  | _, _, .ref a => .ref a
theorem DRs.mono {h h' : Heap} (l : Le h h') : ∀ {vs : List Value} {ds : List D}, DRs h vs ds → DRs h' vs ds
  | _, _, .nil => .nil
  | _, _, .cons a r => .cons (DR.mono l a) (DRs.mono l r)
end

section
variable {h : Heap} {v : Value} {d : D} {vs ws : List Value} {ds es : List D}
theorem DRs.length (r : DRs h vs ds) : vs.length = ds.length := by
  induction vs generalizing ds with
  | nil => cases r; rfl
  | cons v vs ih => cases r with | cons _ r => rw [List.length_cons, List.length_cons, ih r]
theorem DRs.append (r : DRs h vs ds) (k : DRs h ws es) : DRs h (vs ++ ws) (ds ++ es) := by
  induction vs generalizing ds with
  | nil => cases r; exact k
  | cons v vs ih => cases r with | cons a r => exact .cons a (ih r)
theorem DRs.snoc (r : DRs h vs ds) (a : DR h v d) : DRs h (vs ++ [v]) (ds ++ [d]) := r.append (.cons a .nil)
theorem DRs.get (r : DRs h vs ds) {k : Nat} {d : D} (hk : ds[k]? = some d) : ∃ v, vs[k]? = some v ∧ DR h v d := by
  induction vs generalizing ds k with
  | nil => cases r; simp at hk
  | cons v vs ih =>
    cases r with
    | cons a r =>
      cases k with
      | zero => simp only [List.getElem?_cons_zero, Option.some.injEq] at hk; subst hk; exact ⟨v, rfl, a⟩
      | succ k => exact ih r (by simpa using hk)
theorem DRs.set (r : DRs h vs ds) (k : Nat) (a : DR h v d) : DRs h (vs.set k v) (ds.set k d) := by
  induction vs generalizing ds k with
  | nil => cases r; exact .nil
  | cons w vs ih =>
    cases r with
    | cons b r =>
      cases k with
      | zero => exact .cons a r
      | succ k => exact .cons b (ih r k)
theorem DRs.rev (r : DRs h vs ds) : DRs h vs.reverse ds.reverse := by
  induction vs generalizing ds with
  | nil => cases r; exact .nil
  | cons v vs ih => cases r with | cons a r => rw [List.reverse_cons, List.reverse_cons]; exact (ih r).snoc a
theorem DRs.take (r : DRs h vs ds) (k : Nat) : DRs h (vs.take k) (ds.take k) := by
  induction vs generalizing ds k with
  | nil => cases r; simp; exact .nil
  | cons v vs ih =>
    cases r with
    | cons a r =>
      cases k with
      | zero => exact .nil
      | succ k => exact .cons a (ih r k)
theorem DRs.drop (r : DRs h vs ds) (k : Nat) : DRs h (vs.drop k) (ds.drop k) := by
  induction vs generalizing ds k with
  | nil => cases r; simp; exact .nil
  | cons v vs ih =>
    cases r with
    | cons a r =>
      cases k with
      | zero => exact .cons a r
      | succ k => exact ih r k
theorem DRs.dropLast (r : DRs h vs ds) : DRs h vs.dropLast ds.dropLast := by
  rw [List.dropLast_eq_take, List.dropLast_eq_take, r.length]; exact r.take _
end

/-- what a mutable object holds -/
inductive AO where
  | list (ds : List D)
  | idict (kvs : List (Int × D))
  | idictE (kvs : List (Int × D)) (ep : Nat)
  | sdict (kvs : List (Str × D))
  | tdict (kvs : List (List Int × D))
  | iset (is : List Int)
  | inst (C dx : Addr)
  | ns (m : List (Str × Option D)) (n : Nat)
  | fr (m : List (Str × Option D))
  | cell (d : Option D)
  | lit (l : Addr) (k : Nat)
  | tit (ds : List D) (k : Nat)
  | rng (x y z : Int)
  | rit (x left step : Int)
  | kit (d : Addr) (i n ep : Nat)

inductive KV (h : Heap) {κ : Type} : List (κ × Value) → List (κ × D) → Prop
  | nil : KV h [] []
  | cons {k : κ} {v : Value} {d : D} {vs : List (κ × Value)} {ds : List (κ × D)} : DR h v d → KV h vs ds → KV h ((k, v) :: vs) ((k, d) :: ds)
inductive KH (h : Heap) : List (List Int × Addr × Value) → List (List Int × D) → Prop
  | nil : KH h [] []
  | cons {k : List Int} {a : Addr} {v : Value} {d : D} {vs : List (List Int × Addr × Value)} {ds : List (List Int × D)} : DR h v d → KH h vs ds → KH h ((k, a, v) :: vs) ((k, d) :: ds)
inductive OR (h : Heap) : Option Value → Option D → Prop
  | none : OR h Option.none Option.none
  | some {v : Value} {d : D} : DR h v d → OR h (Option.some v) (Option.some d)
theorem OR.mono {h h' : Heap} (l : Le h h') {v : Option Value} {d : Option D} (x : OR h v d) : OR h' v d := by
  cases x with | none => exact .none | some a => exact .some (a.mono l)
theorem KV.mono {h h' : Heap} (l : Le h h') {κ : Type} {vs : List (κ × Value)} {ds : List (κ × D)} (x : KV h vs ds) : KV h' vs ds := by
  induction x with | nil => exact .nil | cons a _ ih => exact .cons (a.mono l) ih
theorem KH.mono {h h' : Heap} (l : Le h h') {vs : List (List Int × Addr × Value)} {ds : List (List Int × D)} (x : KH h vs ds) : KH h' vs ds := by
  induction x with | nil => exact .nil | cons a _ ih => exact .cons (a.mono l) ih

/-- what does not change while the law runs -/
structure Cx where
  prog : Program
  w : World
  B : Heap
  os : OsState
  K : Frag
  X : K.In B
  nl : B.NoLimit
  bn : ∃ mb, B.Ns builtinsNs mb ∧ ∀ x : Str, x ≠ "__name__" → mb x = bootBuiltins x

noncomputable def FR (h : Heap) (mm : Str → Option Value) (m : List (Str × Option D)) : Prop := (m.map (·.1)).Nodup ∧ (∀ p ∈ m, OR h (mm p.1) p.2) ∧ ∀ x, x ∉ m.map (·.1) → mm x = Option.none

noncomputable def getS (x : Str) (es : List DictEntry) : Option Value := (es.find? (·.key.isStr x)).map (·.val)
noncomputable def AR (c : Cx) (h : Heap) (a : Addr) : AO → Prop
  | .list ds => ∃ vs n, h.get? a = some (listOf (List.toArray vs) n) ∧ DRs h vs ds
  | .idict kvs => ∃ vk, h.DictOf (intKind c.prog c.w) a vk ∧ KV h vk kvs
  | .idictE kvs ep => ∃ vk, h.DictAt (intKind c.prog c.w) a vk ep ∧ KV h vk kvs
  | .sdict kvs => ∃ vk, h.DictOf (strKind c.prog c.w) a vk ∧ KV h vk kvs
  | .tdict kvs => ∃ xs, h.DictOfH (tupleKind (intKind c.prog c.w)) a xs ∧ KH h xs kvs
  | .iset is => ∃ S n, h.SetOf (intKind c.prog c.w) a S n ∧ n ≤ is.length ∧ ∀ k, S k = true ↔ k ∈ is
  | .inst C dx => h.get? a = some (instObj C dx)
  | .ns m n => ∃ es k, h.get? a = some (dictOf es k) ∧ es.length ≤ n ∧ (∀ e ∈ es, ∃ x t, e.key = .str x t) ∧ FR h (fun x => getS x es) m
  | .fr m => ∃ mm, h.Ns a mm ∧ FR h mm m
  | .cell d => ∃ o v, h.get? a = some o ∧ o.data = .cell v ∧ OR h v d
  | .lit l k => h.IsListIter a l k
  | .tit ds k => ∃ t vs, h.IsTupleIter a t k ∧ h.IsTuple t (List.toArray vs) ∧ DRs h vs ds
  | .rng x y z => ∃ t u v, IsRange h a x y z t u v
  | .rit x left step => IsRangeIter h a x left step
  | .kit d i n ep => h.IsKeyIter a d i n ep

theorem AR.keep {c : Cx} {h h' : Heap} {a : Addr} {ao : AO} (x : AR c h a ao) (e : ∀ o, h.get? a = some o → h'.get? a = some o) (l : Le h h') : AR c h' a ao := by
  cases ao with
  | list ds => obtain ⟨vs, n, g, r⟩ := x; exact ⟨vs, n, e _ g, r.mono l⟩
  | idict kvs => obtain ⟨vk, ⟨o, es, ep, g, r⟩, k⟩ := x; exact ⟨vk, ⟨o, es, ep, e _ g, r⟩, k.mono l⟩
  | idictE kvs ep => obtain ⟨vk, ⟨o, es, g, r⟩, k⟩ := x; exact ⟨vk, ⟨o, es, e _ g, r⟩, k.mono l⟩
  | sdict kvs => obtain ⟨vk, ⟨o, es, ep, g, r⟩, k⟩ := x; exact ⟨vk, ⟨o, es, ep, e _ g, r⟩, k.mono l⟩
  | tdict kvs =>
    obtain ⟨xs, ⟨o, es, ep, g, r1, r2, r3, r4, r5⟩, k⟩ := x
    refine ⟨xs, ⟨o, es, ep, e _ g, r1, r2, r3, fun y hy => ?_, r5⟩, k.mono l⟩
    obtain ⟨o', items, n', g', q1, q2, q3⟩ := r4 y hy
    exact ⟨o', items, n', l _ _ ⟨q1, _, _, q2⟩ g', q1, q2, q3⟩
  | iset is => obtain ⟨S, n, ⟨o, es, ep, t, g, r⟩, k⟩ := x; exact ⟨S, n, ⟨o, es, ep, t, e _ g, r⟩, k⟩
  | inst C dx => exact e _ x
  | ns m n => obtain ⟨es, k, g, r1, r2, f1, f2, f3⟩ := x; exact ⟨es, k, e _ g, r1, r2, f1, fun p hp => (f2 p hp).mono l, f3⟩
  | fr m => obtain ⟨mm, ⟨o, es, ep, g, r⟩, hn, k⟩ := x; exact ⟨mm, ⟨o, es, ep, e _ g, r⟩, hn, fun p hp => (k.1 p hp).mono l, k.2⟩
  | cell d => obtain ⟨o, v, g, q, r⟩ := x; exact ⟨o, v, e _ g, q, r.mono l⟩
  | lit l' k => obtain ⟨o, g, r⟩ := x; exact ⟨o, e _ g, r⟩
  | tit ds k =>
    obtain ⟨t, vs, ⟨o, g, r⟩, ⟨o', g', q1, n, q2⟩, k⟩ := x
    exact ⟨t, vs, ⟨o, e _ g, r⟩, ⟨o', l _ _ ⟨q1, _, _, q2⟩ g', q1, n, q2⟩, k.mono l⟩
  | rng p q r => obtain ⟨t, u, v, g⟩ := x; exact ⟨t, u, v, e _ g⟩
  | rit x' left step => exact e _ x
  | kit d i n ep => obtain ⟨o, g, r⟩ := x; exact ⟨o, e _ g, r⟩

theorem AR.obj {c : Cx} {h : Heap} {a : Addr} {ao : AO} (x : AR c h a ao) : ∃ o, h.get? a = some o ∧ ¬ Imm o := by
  cases ao with
  | list ds => obtain ⟨vs, n, g, r⟩ := x; exact ⟨_, g, fun i => by simpa using i.1⟩
  | idict kvs => obtain ⟨vk, ⟨o, es, ep, g, r, _⟩, k⟩ := x; exact ⟨_, g, fun i => by simpa using r.1.symm.trans i.1⟩
  | idictE kvs ep => obtain ⟨vk, ⟨o, es, g, r, _⟩, k⟩ := x; exact ⟨_, g, fun i => by simpa using r.1.symm.trans i.1⟩
  | sdict kvs => obtain ⟨vk, ⟨o, es, ep, g, r, _⟩, k⟩ := x; exact ⟨_, g, fun i => by simpa using r.1.symm.trans i.1⟩
  | tdict kvs => obtain ⟨xs, ⟨o, es, ep, g, r, _⟩, k⟩ := x; exact ⟨_, g, fun i => by simpa using r.1.symm.trans i.1⟩
  | iset is => obtain ⟨S, n, ⟨o, es, ep, t, g, r, _⟩, k⟩ := x; exact ⟨_, g, fun i => by simpa using r.1.symm.trans i.1⟩
  | inst C dx => exact ⟨_, x, fun i => by simpa using i.1⟩
  | ns m n => obtain ⟨es, k, g, r⟩ := x; exact ⟨_, g, fun i => by simpa using i.1⟩
  | fr m => obtain ⟨mm, ⟨o, es, ep, g, r, _⟩, k⟩ := x; exact ⟨_, g, fun ⟨_, xs, n, i⟩ => by rw [r] at i; cases i⟩
  | cell d => obtain ⟨o, v, g, q, r⟩ := x; exact ⟨_, g, fun ⟨_, xs, n, i⟩ => by rw [q] at i; cases i⟩
  | lit l' k => obtain ⟨o, g, r, _⟩ := x; exact ⟨_, g, fun i => by simpa using r.symm.trans i.1⟩
  | tit ds k => obtain ⟨t, vs, ⟨o, g, r, _⟩, _⟩ := x; exact ⟨_, g, fun i => by simpa using r.symm.trans i.1⟩
  | rng p q r => obtain ⟨t, u, v, g⟩ := x; exact ⟨_, g, fun i => by simpa using i.1⟩
  | rit x' left step => exact ⟨_, x, fun i => by simpa using i.1⟩
  | kit d i n ep => obtain ⟨o, g, r, _⟩ := x; exact ⟨_, g, fun i => by simpa using r.symm.trans i.1⟩

inductive UpdM : List (Str × Option D) → Str → Option D → List (Str × Option D) → Prop
  | head {m : List (Str × Option D)} {x : Str} {o o' : Option D} : UpdM ((x, o) :: m) x o' ((x, o') :: m)
  | tail {m m' : List (Str × Option D)} {p : Str × Option D} {x : Str} {o' : Option D} : UpdM m x o' m' → UpdM (p :: m) x o' (p :: m')
theorem UpdM.keys {m m' : List (Str × Option D)} {x : Str} {o : Option D} (u : UpdM m x o m') : m'.map (·.1) = m.map (·.1) := by
  induction u with
  | head => rfl
  | tail _ ih => rw [List.map_cons, List.map_cons, ih]
theorem UpdM.has {m m' : List (Str × Option D)} {x : Str} {o : Option D} (u : UpdM m x o m') : x ∈ m.map (·.1) := by
  induction u with
  | head => exact .head _
  | tail _ ih => exact .tail _ ih
theorem UpdM.mem {m m' : List (Str × Option D)} {x : Str} {o : Option D} (u : UpdM m x o m') (hn : (m.map (·.1)).Nodup) : ∀ p ∈ m', p = (x, o) ∨ (p ∈ m ∧ p.1 ≠ x) := by
  induction u with
  | @head m x o o' =>
    intro p hp
    rcases List.mem_cons.mp hp with rfl | hp
    · exact .inl rfl
    · exact .inr ⟨.tail _ hp, fun e => (List.nodup_cons.mp hn).1 (List.mem_map.mpr ⟨p, hp, e⟩)⟩
  | @tail m m' q x o u ih =>
    intro p hp
    have hn' := List.nodup_cons.mp hn
    rcases List.mem_cons.mp hp with rfl | hp
    · exact .inr ⟨.head _, fun e => hn'.1 (by have := u.has; rw [← e] at this; exact this)⟩
    · rcases ih hn'.2 p hp with h | h
      · exact .inl h
      · exact .inr ⟨.tail _ h.1, h.2⟩
theorem FR.upd {h : Heap} {mm : Str → Option Value} {m m' : List (Str × Option D)} {x : Str} {o : Option D} {v : Option Value} (f : FR h mm m) (u : UpdM m x o m') (r : OR h v o) :
    FR h (fun y => if y = x then v else mm y) m' := by
  refine ⟨by rw [u.keys]; exact f.1, fun p hp => ?_, fun y hy => ?_⟩
  · rcases u.mem f.1 p hp with rfl | ⟨h1, h2⟩
    · dsimp only; rw [if_pos rfl]; exact r
    · dsimp only; rw [if_neg h2]; exact f.2.1 p h1
  · rw [u.keys] at hy
    dsimp only
    rw [if_neg (fun e : y = x => hy (by rw [e]; exact u.has))]
    exact f.2.2 y hy
theorem FR.mono {h h' : Heap} {mm : Str → Option Value} {m : List (Str × Option D)} (f : FR h mm m) (l : Le h h') : FR h' mm m := ⟨f.1, fun p hp => (f.2.1 p hp).mono l, f.2.2⟩
theorem FR.at {h : Heap} {mm : Str → Option Value} {m : List (Str × Option D)} {x : Str} {d : D} (f : FR h mm m) (hm : (x, Option.some d) ∈ m) : ∃ v, mm x = some v ∧ DR h v d := by
  have := f.2.1 _ hm
  dsimp only at this
  generalize e : mm x = v at this
  cases this with | some r => exact ⟨_, rfl, r⟩

noncomputable abbrev Sig := List (Addr × AO)

structure St (c : Cx) (h : Heap) (σ : Sig) : Prop where
  keep : ∀ b o, c.B.get? b = some o → h.get? b = some o
  ob : ∀ p ∈ σ, AR c h p.1 p.2
  off : ∀ p ∈ σ, c.B.get? p.1 = none ∧ p.1 ≠ sysModules
  nd : (σ.map (·.1)).Nodup

/-- σ has ao at a; f puts another thing there, g lets it go -/
inductive Sel : Sig → Addr → AO → (AO → Sig) → Sig → Prop
  | head {σ : Sig} {a : Addr} {ao : AO} : Sel ((a, ao) :: σ) a ao (fun x => (a, x) :: σ) σ
  | tail {σ : Sig} {p : Addr × AO} {a : Addr} {ao : AO} {f : AO → Sig} {g : Sig} : Sel σ a ao f g → Sel (p :: σ) a ao (fun x => p :: f x) (p :: g)
theorem Sel.mem {σ : Sig} {a : Addr} {ao : AO} {f : AO → Sig} {g : Sig} (s : Sel σ a ao f g) : (a, ao) ∈ σ := by
  induction s with
  | head => exact .head _
  | tail _ ih => exact .tail _ ih
theorem Sel.split {σ : Sig} {a : Addr} {ao : AO} {f : AO → Sig} {g : Sig} (s : Sel σ a ao f g) : ∃ l r, σ = l ++ (a, ao) :: r ∧ (∀ x, f x = l ++ (a, x) :: r) ∧ g = l ++ r := by
  induction s with
  | head => exact ⟨[], _, rfl, fun _ => rfl, rfl⟩
  | @tail σ p a ao f g _ ih =>
    obtain ⟨l, r, h1, h2, h3⟩ := ih
    exact ⟨p :: l, r, by rw [h1]; rfl, fun x => by show p :: f x = _; rw [h2]; rfl, by rw [h3]; rfl⟩

section
variable {c : Cx} {h h' : Heap} {σ : Sig} {a : Addr} {ao : AO} {f : AO → Sig} {g : Sig}
theorem St.at (s : St c h σ) (S : Sel σ a ao f g) : AR c h a ao := s.ob _ S.mem
theorem St.out (s : St c h σ) {x : Addr} (ha : h.objs.size ≤ x) : c.B.get? x = none ∧ x ≠ sysModules := by
  refine ⟨?_, fun e => ?_⟩
  · cases q : c.B.get? x with
    | none => rfl
    | some o => exact absurd (Heap.lt_size (s.keep _ _ q)) (Nat.not_lt.mpr ha)
  · have := modules_low (c.nl.keeps s.keep)
    rw [← e] at this
    exact Nat.not_lt.mpr ha this
theorem St.le (s : St c h σ) (S : Sel σ a ao f g) (e : Heap.ExtBut a h h') : Le h h' := fun b o i ho => by
  refine e b o ?_ ho
  rintro rfl
  obtain ⟨o', ho', n⟩ := (s.at S).obj
  rw [ho] at ho'
  cases ho'
  exact n i
theorem St.drop (s : St c h σ) (S : Sel σ a ao f g) (e : Heap.ExtBut a h h') : St c h' g := by
  have l := s.le S e
  have off := s.off _ S.mem
  obtain ⟨p, q, h1, h2, h3⟩ := S.split
  subst h3
  have nd := s.nd
  rw [h1, List.map_append, List.map_cons] at nd
  have ne : ∀ x ∈ p ++ q, x.1 ≠ a := fun x hx => by
    have nd' := List.nodup_append.mp nd
    rcases List.mem_append.mp hx with hx | hx
    · exact nd'.2.2 _ (List.mem_map_of_mem hx) _ (.head _)
    · intro e
      exact (List.nodup_cons.mp nd'.2.1).1 (List.mem_map.mpr ⟨x, hx, e⟩)
  have sub : ∀ x ∈ p ++ q, x ∈ σ := fun x hx => by
    rw [h1]
    rcases List.mem_append.mp hx with hx | hx
    · exact List.mem_append_left _ hx
    · exact List.mem_append_right _ (.tail _ hx)
  refine ⟨fun b o hb => e b o ?_ (s.keep b o hb), fun x hx => (s.ob x (sub x hx)).keep (fun o ho => e _ _ (ne x hx) ho) l, fun x hx => s.off x (sub x hx), ?_⟩
  · rintro rfl; dsimp only at off; rw [off.1] at hb; cases hb
  · rw [List.map_append]
    exact nd.sublist (List.Sublist.append_left (List.sublist_cons_self _ _) _)
theorem St.put (s : St c h σ) (S : Sel σ a ao f g) (e : Heap.ExtBut a h h') {ao' : AO} (x : AR c h' a ao') : St c h' (f ao') := by
  have d := s.drop S e
  have off := s.off _ S.mem
  have nd := s.nd
  obtain ⟨p, q, h1, h2, h3⟩ := S.split
  subst h3
  rw [h2]
  rw [h1, List.map_append, List.map_cons] at nd
  refine ⟨d.keep, fun y hy => ?_, fun y hy => ?_, by rw [List.map_append, List.map_cons]; exact nd⟩
  · rcases List.mem_append.mp hy with hy | hy
    · exact d.ob y (List.mem_append_left _ hy)
    · rcases List.mem_cons.mp hy with rfl | hy
      · exact x
      · exact d.ob y (List.mem_append_right _ hy)
  · rcases List.mem_append.mp hy with hy | hy
    · exact d.off y (List.mem_append_left _ hy)
    · rcases List.mem_cons.mp hy with rfl | hy
      · exact off
      · exact d.off y (List.mem_append_right _ hy)
theorem St.same (s : St c h σ) (S : Sel σ a ao f g) (e : Heap.SameBut a h h') {ao' : AO} (x : AR c h' a ao') : St c h' (f ao') := s.put S e.extBut x
theorem St.keeps (s : St c h σ) (k : ∀ b o, h.get? b = some o → h'.get? b = some o) : St c h' σ :=
  ⟨fun b o e => k b o (s.keep b o e), fun p hp => (s.ob p hp).keep (fun o e => k _ o e) (.keeps k), s.off, s.nd⟩
theorem St.push (s : St c h σ) (o : Obj) : St c (h.push o) σ := s.keeps fun _ _ e => Heap.get?_push_of_some _ e
theorem St.new (s : St c h σ) (k : ∀ b o, h.get? b = some o → h'.get? b = some o) (ha : h.objs.size ≤ a) (x : AR c h' a ao) : St c h' ((a, ao) :: σ) := by
  have s' := s.keeps k
  have out : ∀ b o, h.get? b = some o → b ≠ a := fun b o e => Nat.ne_of_lt (Nat.lt_of_lt_of_le (Heap.lt_size e) ha)
  refine ⟨s'.keep, fun p hp => ?_, fun p hp => ?_, ?_⟩
  · rcases List.mem_cons.mp hp with rfl | hp
    · exact x
    · exact s'.ob p hp
  · rcases List.mem_cons.mp hp with rfl | hp
    · exact s.out ha
    · exact s'.off p hp
  · refine List.nodup_cons.mpr ⟨fun hm => ?_, s.nd⟩
    obtain ⟨p, hp, e⟩ := List.mem_map.mp hm
    obtain ⟨o, ho, _⟩ := (s.ob p hp).obj
    exact out _ _ ho e
theorem St.sub (s : St c h σ) {σ' : Sig} (k : σ'.Sublist σ) : St c h σ' :=
  ⟨s.keep, fun p hp => s.ob p (k.mem hp), fun p hp => s.off p (k.mem hp), s.nd.sublist (k.map _)⟩
theorem St.lt (s : St c h σ) (S : Sel σ a ao f g) : a < h.objs.size := let ⟨_, ho, _⟩ := (s.at S).obj; Heap.lt_size ho
theorem St.notSys (s : St c h σ) (S : Sel σ a ao f g) : (a == sysModules) = false := beq_eq_false_iff_ne.mpr (s.off _ S.mem).2
theorem St.XK (s : St c h σ) : c.K.In h := c.X.keeps s.keep
/-- the entries may be put in another order -/
theorem St.perm (s : St c h σ) {σ' : Sig} (k : σ'.Perm σ) : St c h σ' :=
  ⟨s.keep, fun p hp => s.ob p (k.mem_iff.mp hp), fun p hp => s.off p (k.mem_iff.mp hp), (k.map (·.1)).nodup_iff.mpr s.nd⟩
end

structure Sok (c : Cx) (s : Shared) (σ : Sig) : Prop where
  st : St c s.heap σ
  gens : s.gens = #[]
  os : s.os = c.os
end
section

noncomputable def TT {α β : Type} (c : Cx) (A : Around) (R : Heap → α → β → Prop) (σ : Sig) (t : Sem α) (P : β → Sig → Prop) : Prop :=
  ∀ (s : Shared) (Q : α → Shared → Prop) (E : Value → Shared → Prop), Sok c s σ →
    (∀ a s' b σ', P b σ' → Sok c s' σ' → Le s.heap s'.heap → R s'.heap a b → Q a s') → wpAny (model c.prog c.w) A t Q E s
noncomputable def BR (_ : Heap) (a b : Bool) : Prop := a = b
inductive Fl where | next | brk | cont | ret (d : D)
inductive FlR (h : Heap) : Flow → Fl → Prop
  | next : FlR h .next .next
  | brk : FlR h .brk .brk
  | cont : FlR h .cont .cont
  | ret {v : Value} {d : D} : DR h v d → FlR h (.ret v) (.ret d)

noncomputable def EV (c : Cx) (A : Around) (env : Env) (σ : Sig) (e : Expr) (P : D → Sig → Prop) : Prop := TT c A DR σ (eval e env) P
noncomputable def TS (c : Cx) (A : Around) (env : Env) (σ : Sig) (e : Expr) (P : Bool → Sig → Prop) : Prop := TT c A BR σ (isTrue e env (eval e env)) P
noncomputable def TSs (c : Cx) (A : Around) (env : Env) (σ : Sig) (op : BoolOp) (es : List Expr) (P : Bool → Sig → Prop) : Prop := TT c A BR σ (allTrue op es env) P
noncomputable def XS (c : Cx) (A : Around) (env : Env) (σ : Sig) (b : List Stmt) (P : Fl → Sig → Prop) : Prop := TT c A FlR σ (execs b env) P
noncomputable def X1 (c : Cx) (A : Around) (env : Env) (σ : Sig) (b : Stmt) (P : Fl → Sig → Prop) : Prop := TT c A FlR σ (exec b env) P
noncomputable def VS (c : Cx) (A : Around) (env : Env) (σ : Sig) (pos : Pos) (es : List Expr) (P : List D → Sig → Prop) : Prop := TT c A DRs σ (spliced (backTo pos (starEach es env))) P
noncomputable def OP1 {α β : Type} (R : Heap → α → β → Prop) (c : Cx) (A : Around) (σ : Sig) (f : Value → Sem α) (d : D) (P : β → Sig → Prop) : Prop :=
  ∀ (v : Value) (s : Shared) (Q : α → Shared → Prop) (E : Value → Shared → Prop), Sok c s σ → DR s.heap v d →
    (∀ a s' b σ', P b σ' → Sok c s' σ' → Le s.heap s'.heap → R s'.heap a b → Q a s') → wpAny (model c.prog c.w) A (f v) Q E s
noncomputable def OP2 {α β : Type} (R : Heap → α → β → Prop) (c : Cx) (A : Around) (σ : Sig) (f : Value → Value → Sem α) (d e : D) (P : β → Sig → Prop) : Prop :=
  ∀ (v w : Value) (s : Shared) (Q : α → Shared → Prop) (E : Value → Shared → Prop), Sok c s σ → DR s.heap v d → DR s.heap w e →
    (∀ a s' b σ', P b σ' → Sok c s' σ' → Le s.heap s'.heap → R s'.heap a b → Q a s') → wpAny (model c.prog c.w) A (f v w) Q E s
/-- a place takes a value -/
noncomputable def AS (c : Cx) (A : Around) (env : Env) (σ : Sig) (t : Expr) (d : D) (P : Sig → Prop) : Prop :=
  ∀ (v : Value) (s : Shared) (Q : Unit → Shared → Prop) (E : Value → Shared → Prop), Sok c s σ → DR s.heap v d →
    (∀ s' σ', P σ' → Sok c s' σ' → Le s.heap s'.heap → Q () s') → wpAny (model c.prog c.w) A (assign t env v) Q E s
/-- f is called -/
noncomputable def CL (c : Cx) (A : Around) (σ : Sig) (f : Value) (ds : List D) (P : D → Sig → Prop) : Prop :=
  ∀ (vs : List Value) (s : Shared) (Q : Value → Shared → Prop) (E : Value → Shared → Prop), Sok c s σ → DRs s.heap vs ds →
    (∀ v s' d σ', P d σ' → Sok c s' σ' → Le s.heap s'.heap → DR s'.heap v d → Q v s') → wpAny (model c.prog c.w) A (call f vs) Q E s

noncomputable def contF (c : Cx) (A : Around) (env : Env) (rest : List Stmt) (P : Fl → Sig → Prop) (fl : Fl) (σ : Sig) : Prop := match fl with
  | .next => XS c A env σ rest P
  | f => P f σ
noncomputable def br (b : Bool) (X Y : Prop) : Prop := if b = true then X else Y

section
variable {c : Cx} {A : Around} {env : Env} {σ : Sig}
theorem br_t {X Y : Prop} (h : X) : br true X Y := h
theorem br_f {X Y : Prop} (h : Y) : br false X Y := h
theorem br_of_t {b : Bool} {X Y : Prop} (e : b = true) (h : X) : br b X Y := by subst e; exact h
theorem br_of_f {b : Bool} {X Y : Prop} (e : b = false) (h : Y) : br b X Y := by subst e; exact h
theorem br_by {b : Bool} {X Y : Prop} (h : b = true → X) (k : b = false → Y) : br b X Y := by cases b; exact k rfl; exact h rfl
theorem contF_next {rest : List Stmt} {P : Fl → Sig → Prop} (h : XS c A env σ rest P) : contF c A env rest P .next σ := h
theorem contF_ret {rest : List Stmt} {P : Fl → Sig → Prop} {d : D} (h : P (.ret d) σ) : contF c A env rest P (.ret d) σ := h
theorem contF_brk {rest : List Stmt} {P : Fl → Sig → Prop} (h : P .brk σ) : contF c A env rest P .brk σ := h
theorem contF_cont {rest : List Stmt} {P : Fl → Sig → Prop} (h : P .cont σ) : contF c A env rest P .cont σ := h

theorem Sok.mk' {s : Shared} {h : Heap} {t : Nat} (hs : Sok c s σ) {σ' : Sig} (x : St c h σ') : Sok c { s with heap := h, toks := t } σ' := ⟨x, hs.gens, hs.os⟩
theorem Sok.tok {s : Shared} {t : Nat} (hs : Sok c s σ) : Sok c { s with toks := t } σ := ⟨hs.st, hs.gens, hs.os⟩
theorem Sok.heap {s : Shared} {h : Heap} (hs : Sok c s σ) {σ' : Sig} (x : St c h σ') : Sok c { s with heap := h } σ' := ⟨x, hs.gens, hs.os⟩

theorem TT.mono {α β : Type} {R : Heap → α → β → Prop} {t : Sem α} {P P' : β → Sig → Prop} (h : TT c A R σ t P) (k : ∀ b σ', P b σ' → P' b σ') : TT c A R σ t P' :=
  fun s Q E hs q => h s Q E hs fun a s' b σ' hp => q a s' b σ' (k b σ' hp)
theorem CL.mono {f : Value} {ds : List D} {P P' : D → Sig → Prop} (h : CL c A σ f ds P) (k : ∀ b σ', P b σ' → P' b σ') : CL c A σ f ds P' :=
  fun vs s Q E hs hd q => h vs s Q E hs hd fun a s' b σ' hp => q a s' b σ' (k b σ' hp)

-- constants
theorem e_int {i : Int} {k pos} {P : D → Sig → Prop} (h : P (.int i) σ) : EV c A env σ (.Constant (.int i) k pos) P :=
  fun s _ _ hs q => wpAny_Constant_int (q _ _ _ _ h hs.tok (.refl _) (.int _ _))
theorem e_str {x : Str} {k pos} {P : D → Sig → Prop} (h : P (.str x) σ) : EV c A env σ (.Constant (.str x) k pos) P :=
  fun s _ _ hs q => wpAny_Constant_str (q _ _ _ _ h hs.tok (.refl _) (.str _ _))
theorem e_bool {b : Bool} {k pos} {P : D → Sig → Prop} (h : P (.bool b) σ) : EV c A env σ (.Constant (.bool b) k pos) P :=
  fun s _ _ hs q => wpAny_Constant_bool (q _ _ _ _ h hs (.refl _) (.bool _))
theorem e_none {k pos} {P : D → Sig → Prop} (h : P .none σ) : EV c A env σ (.Constant .none k pos) P :=
  fun s _ _ hs q => wpAny_Constant_none (q _ _ _ _ h hs (.refl _) .none)

-- names
theorem e_loc {L : Addr} {m : List (Str × Option D)} {f : AO → Sig} {g : Sig} {x : Str} {d : D} {pos : Pos} {P : D → Sig → Prop} (S : Sel σ L (.fr m) f g) (hm : (x, some d) ∈ m) (hL : env.locals = L)
    (hk : env.scope.kind = .function) (hl : env.kindOf x = some .local) (h : P d σ) (hd : (x == ("__debug__" : Str)) = false := by decide +kernel) : EV c A env σ (.Name x pos) P := fun s Q E hs q => by
  obtain ⟨mm, hn, hf⟩ := hs.st.at S
  obtain ⟨v, e, r⟩ := hf.at hm
  subst hL
  exact wpAny_Name (wpAny_loadName_local hk hl hn e (q _ _ _ _ h hs (.refl _) r)) hd
theorem wp_glob {M : Model} {A : Around} {E : Value → Shared → Prop} {s : Shared} {K : Frag} {env : Env} {x : Str} {v : Value} {Q : Value → Shared → Prop} (X : K.In s.heap) (hk : env.scope.kind = .function) (hl : env.kindOf x = some .globalImplicit)
    (hg : env.globals = mainGlobals) (e : nsIn K mainGlobals x = some (some v)) (h : Q v s) : wpAny M A (loadName env x) Q E s := by
  have hb : env.blockKind = .function := by unfold Env.blockKind; rw [hk]; rfl
  unfold loadName
  rw [hk, hb, hl]
  unfold loadGlobal
  rw [hg]
  exact wpAny_bind ((looks_nsIn X e).here (wpAny_pure h))
theorem e_gint {x : Str} {i : Int} {t : Tok} {pos : Pos} {P : D → Sig → Prop} (e : nsIn c.K mainGlobals x = some (some (.int i t))) (hk : env.scope.kind = .function) (hl : env.kindOf x = some .globalImplicit)
    (hg : env.globals = mainGlobals) (h : P (.int i) σ) (hd : (x == ("__debug__" : Str)) = false := by decide +kernel) : EV c A env σ (.Name x pos) P := fun s Q E hs q =>
  wpAny_Name (wp_glob hs.st.XK hk hl hg e (q _ _ _ _ h hs (.refl _) (.int _ _))) hd
theorem e_gref {x : Str} {a : Addr} {pos : Pos} {P : D → Sig → Prop} (e : nsIn c.K mainGlobals x = some (some (.ref a))) (hk : env.scope.kind = .function) (hl : env.kindOf x = some .globalImplicit)
    (hg : env.globals = mainGlobals) (h : P (.ref a) σ) (hd : (x == ("__debug__" : Str)) = false := by decide +kernel) : EV c A env σ (.Name x pos) P := fun s Q E hs q =>
  wpAny_Name (wp_glob hs.st.XK hk hl hg e (q _ _ _ _ h hs (.refl _) (.ref _))) hd
theorem e_gtup2 {x : Str} {a : Addr} {i j : Int} {t u : Tok} {n : Nat} {pos : Pos} {P : D → Sig → Prop} (e : nsIn c.K mainGlobals x = some (some (.ref a))) (ho : c.K.lookup a = some (tupObj [.int i t, .int j u] n))
    (hk : env.scope.kind = .function) (hl : env.kindOf x = some .globalImplicit) (hg : env.globals = mainGlobals) (h : P (.tup [.int i, .int j]) σ) (hd : (x == ("__debug__" : Str)) = false := by decide +kernel) :
    EV c A env σ (.Name x pos) P := fun s Q E hs q =>
  wpAny_Name (wp_glob hs.st.XK hk hl hg e (q _ _ _ _ h hs (.refl _) (.tup (hs.st.XK _ _ ho) (.cons (.int _ _) (.cons (.int _ _) .nil))))) hd

-- operators
theorem e_bin {l r : Expr} {op : Operator} {pos : Pos} {P : D → Sig → Prop} (h : EV c A env σ l fun d σ₁ => EV c A env σ₁ r fun e σ₂ => OP2 DR c A σ₂ (binaryOp op) d e P) : EV c A env σ (.BinOp l op r pos) P :=
  fun s Q E hs q => wpAny_BinOp (h s _ _ hs fun a s₁ d σ₁ h₁ hs₁ l₁ r₁ => h₁ s₁ _ _ hs₁ fun b s₂ e σ₂ h₂ hs₂ l₂ r₂ => h₂ a b s₂ _ _ hs₂ (r₁.mono l₂) r₂ fun v s₃ d₃ σ₃ hp hs₃ l₃ r₃ => q v s₃ d₃ σ₃ hp hs₃ (l₁.trans (l₂.trans l₃)) r₃)
theorem e_un {x : Expr} {op : UnaryOp} {pos : Pos} {P : D → Sig → Prop} (h : EV c A env σ x fun d σ₁ => OP1 DR c A σ₁ (unaryOp op) d P) : EV c A env σ (.UnaryOp op x pos) P :=
  fun s Q E hs q => wpAny_UnaryOp (h s _ _ hs fun a s₁ d σ₁ h₁ hs₁ l₁ r₁ => h₁ a s₁ _ _ hs₁ r₁ fun v s₃ d₃ σ₃ hp hs₃ l₃ r₃ => q v s₃ d₃ σ₃ hp hs₃ (l₁.trans l₃) r₃)
theorem e_cmp {l r : Expr} {op : CmpOp} {pos : Pos} {P : D → Sig → Prop} (h : EV c A env σ l fun d σ₁ => EV c A env σ₁ r fun e σ₂ => OP2 DR c A σ₂ (compareOp op) d e P) (hm : behindInMarks op r = false := by with_unfolding_all rfl) : EV c A env σ (.Compare l [op] [r] pos) P :=
  fun s Q E hs q => wpAny_Compare1 (h s _ _ hs fun a s₁ d σ₁ h₁ hs₁ l₁ r₁ => h₁ s₁ _ _ hs₁ fun b s₂ e σ₂ h₂ hs₂ l₂ r₂ => h₂ a b s₂ _ _ hs₂ (r₁.mono l₂) r₂ fun v s₃ d₃ σ₃ hp hs₃ l₃ r₃ => q v s₃ d₃ σ₃ hp hs₃ (l₁.trans (l₂.trans l₃)) r₃) hm
theorem e_ite {t b e : Expr} {pos : Pos} {P : D → Sig → Prop} (h : TS c A env σ t fun x σ₁ => br x (EV c A env σ₁ b P) (EV c A env σ₁ e P)) : EV c A env σ (.IfExp t b e pos) P :=
  fun s Q E hs q => wpAny_IfExp (h s _ _ hs fun a s₁ x σ₁ h₁ hs₁ l₁ r₁ => by
    cases r₁
    cases a with
    | true => exact h₁ s₁ _ _ hs₁ fun v s₂ d σ₂ hp hs₂ l₂ r₂ => q v s₂ d σ₂ hp hs₂ (l₁.trans l₂) r₂
    | false => exact h₁ s₁ _ _ hs₁ fun v s₂ d σ₂ hp hs₂ l₂ r₂ => q v s₂ d σ₂ hp hs₂ (l₁.trans l₂) r₂)

-- lists of expressions
theorem v_nil {pos : Pos} {P : List D → Sig → Prop} (h : P [] σ) : VS c A env σ pos [] P := fun s _ _ hs q => wpAny_items_nil (q _ _ _ _ h hs (.refl _) .nil)
theorem v_cons {pos : Pos} {e : Expr} {rest : List Expr} {P : List D → Sig → Prop} (h : EV c A env σ e fun d σ₁ => VS c A env σ₁ pos rest fun ds σ₂ => P (d :: ds) σ₂)
    (he : starEach (e :: rest) env = (false, eval e env) :: starEach rest env := by rfl) : VS c A env σ pos (e :: rest) P := fun s Q E hs q =>
  wpAny_items_cons (h s _ _ hs fun a s₁ d σ₁ h₁ hs₁ l₁ r₁ => h₁ s₁ _ _ hs₁ fun vs s₂ ds σ₂ hp hs₂ l₂ r₂ => q _ s₂ _ σ₂ hp hs₂ (l₁.trans l₂) (.cons (r₁.mono l₂) r₂)) he
theorem e_tup {elts : List Expr} {k : Nat} {pos : Pos} {P : D → Sig → Prop} (h : VS c A env σ pos elts fun ds σ₁ => ds.length ≤ sizeLine ∧ P (.tup ds) σ₁) : EV c A env σ (.Tuple elts k pos) P := fun s Q E hs q =>
  wpAny_Tuple (h s _ _ hs fun vs s₁ ds σ₁ h₁ hs₁ l₁ r₁ => ⟨by rw [r₁.length]; exact h₁.1, q _ _ _ _ h₁.2 (hs₁.heap (hs₁.st.push _)) (l₁.trans (.push _ _)) (.tup (Heap.get?_push_size _ rfl) (r₁.mono (.push _ _)))⟩)
theorem e_list {elts : List Expr} {pos : Pos} {P : D → Sig → Prop} (h : VS c A env σ pos elts fun ds σ₁ => ds.length ≤ sizeLine ∧ ∀ a, P (.ref a) ((a, .list ds) :: σ₁)) : EV c A env σ (.List elts pos) P := fun s Q E hs q =>
  wpAny_List (h s _ _ hs fun vs s₁ ds σ₁ h₁ hs₁ l₁ r₁ => ⟨by rw [r₁.length]; exact h₁.1, q _ _ _ _ (h₁.2 _) (hs₁.heap (hs₁.st.new (fun _ _ e => Heap.get?_push_of_some _ e) (Nat.le_refl _) ⟨vs, 0, Heap.get?_push_size _ rfl, r₁.mono (.push _ _)⟩)) (l₁.trans (.push _ _)) (.ref _)⟩)

-- tests
theorem t_cmp {l r : Expr} {op : CmpOp} {pos : Pos} {P : Bool → Sig → Prop} (h : EV c A env σ l fun d σ₁ => EV c A env σ₁ r fun e σ₂ => OP2 DR c A σ₂ (compareOp op) d e fun x σ₃ => ∃ b, x = .bool b ∧ P b σ₃) (hm : behindInMarks op r = false := by with_unfolding_all rfl) : TS c A env σ (.Compare l [op] [r] pos) P :=
  fun s Q E hs q => wpAny_isTrue_Compare1 (h s _ _ hs fun a s₁ d σ₁ h₁ hs₁ l₁ r₁ => h₁ s₁ _ _ hs₁ fun b s₂ e σ₂ h₂ hs₂ l₂ r₂ => h₂ a b s₂ _ _ hs₂ (r₁.mono l₂) r₂ fun v s₃ d₃ σ₃ hp hs₃ l₃ r₃ => by
    obtain ⟨x, rfl, hp⟩ := hp
    cases r₃
    exact wpAny_truthy_bool (q _ _ _ _ hp hs₃ (l₁.trans (l₂.trans l₃)) rfl)) hm
theorem t_not {x : Expr} {pos : Pos} {P : Bool → Sig → Prop} (h : TS c A env σ x fun b σ₁ => P (!b) σ₁) : TS c A env σ (.UnaryOp .Not x pos) P :=
  fun s Q E hs q => wpAny_isTrue_Not (h s _ _ hs fun a s₁ x σ₁ h₁ hs₁ l₁ r₁ => by cases r₁; exact q _ _ _ _ h₁ hs₁ l₁ rfl)
theorem t_bool {op : BoolOp} {es : List Expr} {pos : Pos} {P : Bool → Sig → Prop} (h : TSs c A env σ op es P) : TS c A env σ (.BoolOp op es pos) P :=
  fun s Q E hs q => wpAny_isTrue_BoolOp (h s _ _ hs q)
theorem t_and_nil {P : Bool → Sig → Prop} (h : P true σ) : TSs c A env σ .And [] P := fun s _ _ hs q => wpAny_allTrue_And_nil (q _ _ _ _ h hs (.refl _) rfl)
theorem t_or_nil {P : Bool → Sig → Prop} (h : P false σ) : TSs c A env σ .Or [] P := fun s _ _ hs q => wpAny_allTrue_Or_nil (q _ _ _ _ h hs (.refl _) rfl)
end
end
section

noncomputable def VB (c : Cx) (A : Around) (env : Env) (σ : Sig) (pos : Pos) (op : BoolOp) (es : List Expr) (P : D → Sig → Prop) : Prop := TT c A DR σ (boolOp pos op (evalEach es env)) P
/-- a while, from its next test on -/
noncomputable def WL (c : Cx) (A : Around) (env : Env) (σ : Sig) (test : Expr) (body : List Stmt) (P : Fl → Sig → Prop) : Prop :=
  ∀ (s : Shared) (R : Result → Shared → Prop), Sok c s σ → (∀ fl s' b σ', P b σ' → Sok c s' σ' → Le s.heap s'.heap → FlR s'.heap fl b → R (.ok fl) s') →
    codeAny (model c.prog c.w) A (.whileLoop test body [] env) R s
/-- a for, from its next item on -/
noncomputable def FL (c : Cx) (A : Around) (env : Env) (σ : Sig) (x : Expr) (it : Addr) (body : List Stmt) (P : Fl → Sig → Prop) : Prop :=
  ∀ (s : Shared) (R : Result → Shared → Prop), Sok c s σ → (∀ fl s' b σ', P b σ' → Sok c s' σ' → Le s.heap s'.heap → FlR s'.heap fl b → R (.ok fl) s') →
    codeAny (model c.prog c.w) A (.forLoop x (.ref it) body [] env) R s
noncomputable def contW (c : Cx) (A : Around) (env : Env) (test : Expr) (body : List Stmt) (P : Fl → Sig → Prop) (fl : Fl) (σ : Sig) : Prop := match fl with
  | .next | .cont => WL c A env σ test body P
  | .brk => P .next σ
  | .ret d => P (.ret d) σ
noncomputable def contL (c : Cx) (A : Around) (env : Env) (x : Expr) (it : Addr) (body : List Stmt) (P : Fl → Sig → Prop) (fl : Fl) (σ : Sig) : Prop := match fl with
  | .next | .cont => FL c A env σ x it body P
  | .brk => P .next σ
  | .ret d => P (.ret d) σ
noncomputable def NX (c : Cx) (A : Around) (σ : Sig) (it : Addr) (P : Option D → Sig → Prop) : Prop := TT c A OR σ (pyNext (.ref it)) P
noncomputable def D.flat : D → Bool
  | .none | .bool _ | .int _ | .str _ => true
  | _ => false

section
variable {c : Cx} {A : Around} {env : Env} {σ : Sig}

theorem TT.weak {α β : Type} {R : Heap → α → β → Prop} {t : Sem α} {P : β → Sig → Prop} {σ' : Sig} (k : σ'.Sublist σ) (h : TT c A R σ' t P) : TT c A R σ t P :=
  fun s Q E hs q => h s Q E ⟨hs.st.sub k, hs.gens, hs.os⟩ q
theorem TT.bind {α β γ δ : Type} {R : Heap → α → β → Prop} {R' : Heap → γ → δ → Prop} {t : Sem α} {f : α → Sem γ} {P : δ → Sig → Prop}
    (h : TT c A R σ t fun b σ₁ => ∀ (a : α) (s : Shared) (Q : γ → Shared → Prop) (E : Value → Shared → Prop), Sok c s σ₁ → R s.heap a b → (∀ a s' b σ', P b σ' → Sok c s' σ' → Le s.heap s'.heap → R' s'.heap a b → Q a s') →
      wpAny (model c.prog c.w) A (f a) Q E s) : TT c A R' σ (t >>= f) P := fun s Q E hs q =>
  wpAny_bind (h s _ _ hs fun a s₁ b σ₁ h₁ hs₁ l₁ r₁ => h₁ a s₁ _ _ hs₁ r₁ fun v s₂ d σ₂ hp hs₂ l₂ r₂ => q v s₂ d σ₂ hp hs₂ (l₁.trans l₂) r₂)

-- tests
theorem t_and {x : Expr} {rest : List Expr} {P : Bool → Sig → Prop} (h : TS c A env σ x fun b σ₁ => br b (TSs c A env σ₁ .And rest P) (P false σ₁)) : TSs c A env σ .And (x :: rest) P :=
  fun s Q E hs q => wpAny_allTrue_And_cons (h s _ _ hs fun a s₁ b σ₁ h₁ hs₁ l₁ r₁ => by
    cases r₁
    cases a with
    | true => exact h₁ s₁ _ _ hs₁ fun v s₂ d σ₂ hp hs₂ l₂ r₂ => q v s₂ d σ₂ hp hs₂ (l₁.trans l₂) r₂
    | false => exact q _ _ _ _ h₁ hs₁ l₁ rfl)
theorem t_or {x : Expr} {rest : List Expr} {P : Bool → Sig → Prop} (h : TS c A env σ x fun b σ₁ => br b (P true σ₁) (TSs c A env σ₁ .Or rest P)) : TSs c A env σ .Or (x :: rest) P :=
  fun s Q E hs q => wpAny_allTrue_Or_cons (h s _ _ hs fun a s₁ b σ₁ h₁ hs₁ l₁ r₁ => by
    cases r₁
    cases a with
    | false => exact h₁ s₁ _ _ hs₁ fun v s₂ d σ₂ hp hs₂ l₂ r₂ => q v s₂ d σ₂ hp hs₂ (l₁.trans l₂) r₂
    | true => exact q _ _ _ _ h₁ hs₁ l₁ rfl)
theorem t_val {e : Expr} {P : Bool → Sig → Prop} (h : EV c A env σ e fun d σ₁ => ∃ b, d = .bool b ∧ P b σ₁)
    (he : isTrue e env (eval e env) = (do let v ← eval e env; standAt e.pos; holding [v] (truthy v)) := by rfl) : TS c A env σ e P :=
  fun s Q E hs q => wpAny_isTrue_value (h s _ _ hs fun a s₁ x σ₁ h₁ hs₁ l₁ r₁ => by
    obtain ⟨b, rfl, hp⟩ := h₁
    cases r₁
    exact wpAny_truthy_bool (q _ _ _ _ hp hs₁ l₁ rfl)) he

-- and, or as values (of bools)
theorem e_boolop {op : BoolOp} {es : List Expr} {pos : Pos} {P : D → Sig → Prop} (h : VB c A env σ pos op es P) : EV c A env σ (.BoolOp op es pos) P :=
  fun s Q E hs q => by rw [arm_eval_BoolOp]; exact h s Q E hs q
theorem b_one {op : BoolOp} {e : Expr} {pos : Pos} {P : D → Sig → Prop} (h : EV c A env σ e P) : VB c A env σ pos op [e] P := fun s Q E hs q => h s Q E hs q
theorem b_and {e e' : Expr} {rest : List Expr} {pos : Pos} {P : D → Sig → Prop} (h : EV c A env σ e fun d σ₁ => ∃ b, d = .bool b ∧ br b (VB c A env σ₁ pos .And (e' :: rest) P) (P (.bool false) σ₁)) : VB c A env σ pos .And (e :: e' :: rest) P :=
  fun s Q E hs q => by
    show wpAny _ _ (do
      let v ← eval e env
      standAt pos
      let t ← holding [v] (truthy v)
      match BoolOp.And, t with
      | .And, false | .Or, true => pure v
      | _, _ => boolOp pos .And (evalEach (e' :: rest) env)) _ _ _
    refine wpAny_bind (h s _ _ hs fun a s₁ x σ₁ h₁ hs₁ l₁ r₁ => ?_)
    obtain ⟨b, rfl, hp⟩ := h₁
    cases r₁
    refine wpAny_bind (wpAny_standAt (wpAny_bind (wpAny_holding (wpAny_truthy_bool ?_))))
    cases b with
    | true => exact hp s₁ _ _ hs₁ fun v s₂ d σ₂ hp hs₂ l₂ r₂ => q v s₂ d σ₂ hp hs₂ (l₁.trans l₂) r₂
    | false => exact wpAny_pure (q _ _ _ _ hp hs₁ l₁ (.bool _))
theorem b_or {e e' : Expr} {rest : List Expr} {pos : Pos} {P : D → Sig → Prop} (h : EV c A env σ e fun d σ₁ => ∃ b, d = .bool b ∧ br b (P (.bool true) σ₁) (VB c A env σ₁ pos .Or (e' :: rest) P)) : VB c A env σ pos .Or (e :: e' :: rest) P :=
  fun s Q E hs q => by
    show wpAny _ _ (do
      let v ← eval e env
      standAt pos
      let t ← holding [v] (truthy v)
      match BoolOp.Or, t with
      | .And, false | .Or, true => pure v
      | _, _ => boolOp pos .Or (evalEach (e' :: rest) env)) _ _ _
    refine wpAny_bind (h s _ _ hs fun a s₁ x σ₁ h₁ hs₁ l₁ r₁ => ?_)
    obtain ⟨b, rfl, hp⟩ := h₁
    cases r₁
    refine wpAny_bind (wpAny_standAt (wpAny_bind (wpAny_holding (wpAny_truthy_bool ?_))))
    cases b with
    | false => exact hp s₁ _ _ hs₁ fun v s₂ d σ₂ hp hs₂ l₂ r₂ => q v s₂ d σ₂ hp hs₂ (l₁.trans l₂) r₂
    | true => exact wpAny_pure (q _ _ _ _ hp hs₁ l₁ (.bool _))

-- statements
theorem x_nil {P : Fl → Sig → Prop} (h : P .next σ) : XS c A env σ [] P := fun s _ _ hs q => wpAny_execs_nil (q _ _ _ _ h hs (.refl _) .next)
theorem x_cons {st : Stmt} {rest : List Stmt} {P : Fl → Sig → Prop} (h : X1 c A env σ st (contF c A env rest P)) : XS c A env σ (st :: rest) P := fun s Q E hs q => by
  rw [execs_cons]
  refine wpAny_bind (h s _ _ hs fun a s₁ x σ₁ h₁ hs₁ l₁ r₁ => ?_)
  cases r₁ with
  | next => exact h₁ s₁ _ _ hs₁ fun v s₂ d σ₂ hp hs₂ l₂ r₂ => q v s₂ d σ₂ hp hs₂ (l₁.trans l₂) r₂
  | brk => exact wpAny_pure (q _ _ _ _ h₁ hs₁ l₁ .brk)
  | cont => exact wpAny_pure (q _ _ _ _ h₁ hs₁ l₁ .cont)
  | ret r => exact wpAny_pure (q _ _ _ _ h₁ hs₁ l₁ (.ret r))
theorem x_ret {e : Expr} {pos : Pos} {rest : List Stmt} {P : Fl → Sig → Prop} (h : EV c A env σ e fun d σ₁ => P (.ret d) σ₁) : XS c A env σ (.Return (some e) pos :: rest) P :=
  x_cons fun s Q E hs q => wpAny_Return_some (h s _ _ hs fun a s₁ x σ₁ h₁ hs₁ l₁ r₁ => q _ _ (.ret x) _ h₁ hs₁ l₁ (.ret r₁))
theorem x_ret0 {pos : Pos} {rest : List Stmt} {P : Fl → Sig → Prop} (h : P (.ret .none) σ) : XS c A env σ (.Return none pos :: rest) P :=
  x_cons fun s Q E hs q => wpAny_Return_none (q _ _ (.ret .none) _ h hs (.refl _) (.ret .none))
theorem x_expr {e : Expr} {pos : Pos} {rest : List Stmt} {P : Fl → Sig → Prop} (h : EV c A env σ e fun d σ₁ => d.flat = true ∧ XS c A env σ₁ rest P)
    (hi : interactive env = false := by rfl) (hw : swapsWith e none pos.line env = pure false := by rfl) : XS c A env σ (.Expr e pos :: rest) P :=
  x_cons fun s Q E hs q => wpAny_Expr (h s _ _ hs fun a s₁ x σ₁ h₁ hs₁ l₁ r₁ => by
    have z := q .next s₁ .next σ₁ h₁.2 hs₁ l₁ .next
    have f := h₁.1
    cases r₁ <;> first | exact z | cases f) hi hw
theorem x_asg {t e : Expr} {pos : Pos} {rest : List Stmt} {P : Fl → Sig → Prop} (h : EV c A env σ e fun d σ₁ => AS c A env σ₁ t d fun σ₂ => XS c A env σ₂ rest P)
    (hw : swapsWith e (some t) pos.line env = pure false := by rfl) (hz : swappedStores [t] e env = pure none := by rfl) (ha : assignEach [t] env = [(false, assign t env)] := by rfl) :
    XS c A env σ (.Assign [t] e pos :: rest) P := x_cons fun s Q E hs q => by
  rw [arm_exec_Assign]
  refine wpAny_bind (wpAny_standAt (wpAny_bind ?_))
  show wpAny _ _ (swapsWith e (some t) pos.line env) _ _ _
  rw [hw]
  refine wpAny_pure ?_
  rw [if_neg Bool.false_ne_true]
  refine wpAny_bind (h s _ _ hs fun a s₁ x σ₁ h₁ hs₁ l₁ r₁ => wpAny_bind ?_)
  rw [hz]
  refine wpAny_pure ?_
  rw [ha]
  show wpAny _ _ (do assignAll a [assign t env]; pure Flow.next) _ _ _
  exact wpAny_bind (h₁ a s₁ _ _ hs₁ r₁ fun s₂ σ₂ h₂ hs₂ l₂ => wpAny_pure (q _ _ .next _ h₂ hs₂ (l₁.trans l₂) .next))
theorem x_if {t : Expr} {b o rest : List Stmt} {pos : Pos} {P : Fl → Sig → Prop} (h : TS c A env σ t fun x σ₁ => br x (XS c A env σ₁ b (contF c A env rest P)) (XS c A env σ₁ o (contF c A env rest P))) :
    XS c A env σ (.If t b o pos :: rest) P := x_cons fun s Q E hs q =>
  wpAny_If (h s _ _ hs fun a s₁ x σ₁ h₁ hs₁ l₁ r₁ => by
    cases r₁
    cases a with
    | true => exact h₁ s₁ _ _ hs₁ fun v s₂ d σ₂ hp hs₂ l₂ r₂ => q v s₂ d σ₂ hp hs₂ (l₁.trans l₂) r₂
    | false => exact h₁ s₁ _ _ hs₁ fun v s₂ d σ₂ hp hs₂ l₂ r₂ => q v s₂ d σ₂ hp hs₂ (l₁.trans l₂) r₂)
theorem x_while {t : Expr} {b rest : List Stmt} {pos : Pos} {P : Fl → Sig → Prop} (h : WL c A env σ t b (contF c A env rest P)) : XS c A env σ (.While t b [] pos :: rest) P :=
  x_cons fun s Q E hs q => wpAny_While (h s _ hs q)
theorem x_for {t i : Expr} {b rest : List Stmt} {pos : Pos} {P : Fl → Sig → Prop} (h : EV c A env σ i fun d σ₁ => OP1 DR c A σ₁ pyIter d fun x σ₂ => ∃ it, x = .ref it ∧ FL c A env σ₂ t it b (contF c A env rest P))
    (hz : ∀ x, foldedSetIterable i env x = pure x := by intro _; rfl) : XS c A env σ (.For t i b [] pos :: rest) P :=
  x_cons fun s Q E hs q => wpAny_For (h s _ _ hs fun a s₁ x σ₁ h₁ hs₁ l₁ r₁ => h₁ a s₁ _ _ hs₁ r₁ fun v s₂ d σ₂ hp hs₂ l₂ r₂ => by
    obtain ⟨it, rfl, hp⟩ := hp
    cases r₂
    exact hp s₂ _ hs₂ fun fl s₃ b σ₃ h₃ hs₃ l₃ r₃ => q fl s₃ b σ₃ h₃ hs₃ (l₁.trans (l₂.trans l₃)) r₃) hz

theorem wl_turn {t : Expr} {b : List Stmt} {P : Fl → Sig → Prop} (h : TS c A env σ t fun x σ₁ => br x (XS c A env σ₁ b (contW c A env t b P)) (P .next σ₁)) : WL c A env σ t b P := fun s R hs q => by
  refine codeAny_loop' rfl (fun n s' => n = 0 ∧ s' = s) (fun n s' hn => ?_) 0 ⟨rfl, rfl⟩
  obtain ⟨rfl, rfl⟩ := hn
  show wpAny _ A ((whileTurn t b [] env).onRaise (fun x => do noteFrame x env; theTreesLotGoes x)) _ _ _
  refine wpAny_noted ?_
  unfold whileTurn
  refine wpAny_bind (h _ _ _ hs fun a s₁ x σ₁ h₁ hs₁ l₁ r₁ => ?_)
  cases r₁
  cases a with
  | false => exact wpAny_bind (wpAny_execs_nil (wpAny_pure (q .next s₁ .next σ₁ h₁ hs₁ l₁ .next)))
  | true =>
    refine wpAny_bind (h₁ s₁ _ _ hs₁ fun fl s₂ y σ₂ h₂ hs₂ l₂ r₂ => ?_)
    have k := fun (z : WL c A env σ₂ t b P) => z s₂ R hs₂ fun fl s₃ b σ₃ h₃ hs₃ l₃ r₃ => q fl s₃ b σ₃ h₃ hs₃ (l₁.trans (l₂.trans l₃)) r₃
    cases r₂ with
    | next => exact wpAny_pure (.inr ⟨rfl, k h₂⟩)
    | cont => exact wpAny_pure (.inr ⟨rfl, k h₂⟩)
    | brk => exact wpAny_pure (q .next s₂ .next σ₂ h₂ hs₂ (l₁.trans l₂) .next)
    | ret r => exact wpAny_pure (q _ s₂ _ σ₂ h₂ hs₂ (l₁.trans l₂) (.ret r))
theorem fl_turn {x : Str} {px : Pos} {it : Addr} {b : List Stmt} {P : Fl → Sig → Prop}
    (h : NX c A σ it fun o σ₁ => match o with
      | none => P .next σ₁
      | some d => AS c A env σ₁ (.Name x px) d fun σ₂ => XS c A env σ₂ b (contL c A env (.Name x px) it b P)) : FL c A env σ (.Name x px) it b P := fun s R hs q => by
  refine codeAny_loop' rfl (fun n s' => n = 0 ∧ s' = s) (fun n s' hn => ?_) 0 ⟨rfl, rfl⟩
  obtain ⟨rfl, rfl⟩ := hn
  show wpAny _ A ((forTurn (.Name x px) (.ref it) b [] env).onRaise (fun x => do noteFrame x env; theTreesLotGoes x)) _ _ _
  refine wpAny_noted ?_
  unfold forTurn
  refine wpAny_bind (wpAny_standAt (wpAny_bind (wpAny_onRaise (h _ _ _ hs fun a s₁ o σ₁ h₁ hs₁ l₁ r₁ => ?_))))
  cases r₁ with
  | none => exact wpAny_pure (.inr ⟨rfl, codeAny_block (wpAny_execs_nil (q .next s₁ .next σ₁ h₁ hs₁ l₁ .next))⟩)
  | some r =>
    refine wpAny_bind (wpAny_pure (wpAny_bind (h₁ _ s₁ _ _ hs₁ r fun s₂ σ₂ h₂ hs₂ l₂ => wpAny_bind (h₂ s₂ _ _ hs₂ fun fl s₃ y σ₃ h₃ hs₃ l₃ r₃ => ?_))))
    have k := fun (z : FL c A env σ₃ (.Name x px) it b P) => z s₃ R hs₃ fun fl s₄ b σ₄ h₄ hs₄ l₄ r₄ => q fl s₄ b σ₄ h₄ hs₄ (l₁.trans (l₂.trans (l₃.trans l₄))) r₄
    cases r₃ with
    | next => exact wpAny_pure (.inr ⟨rfl, k h₃⟩)
    | cont => exact wpAny_pure (.inr ⟨rfl, k h₃⟩)
    | brk => exact wpAny_pure (q .next s₃ .next σ₃ h₃ hs₃ (l₁.trans (l₂.trans l₃)) .next)
    | ret r => exact wpAny_pure (q _ s₃ _ σ₃ h₃ hs₃ (l₁.trans (l₂.trans l₃)) (.ret r))

-- places
theorem noCls {p : Prop} [Decidable p] (hk : env.scope.kind = .function) : (env.scope.kind == .class || (env.scope.kind == .module && decide p)) = false := by rw [hk]; rfl
theorem a_loc {L : Addr} {m m' : List (Str × Option D)} {f : AO → Sig} {g : Sig} {x : Str} {d : D} {pos : Pos} {P : Sig → Prop} (S : Sel σ L (.fr m) f g) (U : UpdM m x (some d) m') (hL : env.locals = L)
    (hk : env.scope.kind = .function) (hl : env.kindOf x = some .local) (h : P (f (.fr m'))) : AS c A env σ (.Name x pos) d P := fun v s Q E hs r q => by
  obtain ⟨mm, hn, hf⟩ := hs.st.at S
  subst hL
  refine PyProof.Rows.assign_Name (wpAny_storeName_local hl hn (fun h' hn' hsb => ?_) (by rw [hk]; rfl))
  have l := hs.st.le S hsb.extBut
  exact q _ _ h (hs.mk' (hs.st.same S hsb ⟨_, hn', (hf.mono l).upd U (.some (r.mono l))⟩)) l
theorem a_cell {a : Addr} {o : Option D} {f : AO → Sig} {g : Sig} {x : Str} {d : D} {pos : Pos} {P : Sig → Prop} (S : Sel σ a (.cell o) f g) (hc : env.cells.lookup x = some a)
    (hk : env.scope.kind = .function) (hl : env.kindOf x = some .cell) (h : P (f (.cell (some d)))) : AS c A env σ (.Name x pos) d P := fun v s Q E hs r q => by
  obtain ⟨oc, w, hw, hwd, _⟩ := hs.st.at S
  refine PyProof.Rows.assign_Name ?_
  have hb : (env.kindOf x == some .globalImplicit && env.blockKind != .function) = false := by rw [hl]; rfl
  unfold storeName
  rw [hb, if_neg Bool.false_ne_true, hl]
  dsimp only
  rw [show (env.scope.kind == .class && some NameKind.cell == some NameKind.cell) = false from by rw [hk]; rfl, if_neg Bool.false_ne_true]
  unfold cellOf
  rw [hc]
  refine wpAny_bind (wpAny_pure (wpAny_bind (wpAny_load hw ?_)))
  rw [hwd]
  dsimp only
  refine wpAny_update hw ?_
  have e := Heap.SameBut.update s.heap a fun o => { o with data := .cell (some v) }
  have l := hs.st.le S e.extBut
  exact q _ _ h (hs.heap (hs.st.same S e ⟨_, some v, Heap.get?_update_self _ hw rfl, rfl, .some (r.mono l)⟩)) l
theorem e_cell {a : Addr} {d : D} {f : AO → Sig} {g : Sig} {x : Str} {pos : Pos} {P : D → Sig → Prop} (S : Sel σ a (.cell (some d)) f g) (hc : env.cells.lookup x = some a)
    (hk : env.scope.kind = .function) (hl : env.kindOf x = some .cell) (h : P d σ) (hd : (x == ("__debug__" : Str)) = false := by decide +kernel) : EV c A env σ (.Name x pos) P := fun s Q E hs q => by
  obtain ⟨oc, w, hw, hwd, r⟩ := hs.st.at S
  refine wpAny_Name ?_ hd
  have hb : env.blockKind = .function := by unfold Env.blockKind; rw [hk]; rfl
  unfold loadName
  rw [hk, hb, hl]
  unfold cellOf
  rw [hc]
  dsimp only
  cases r with
  | some r => exact wpAny_bind (wpAny_pure (wpAny_bind (wpAny_bind (wpAny_load hw (by rw [hwd]; exact wpAny_pure (wpAny_pure (q _ _ _ _ h hs (.refl _) r)))))))
end
end
section

/-- the room that n more frames want -/
structure Rm (A : Around) (n : Nat) : Prop where
  h : A.handled = none
  d : A.depth + n + 1 < recursionLimit
  u : A.units + 8 * n + 100 < cLine
theorem Rm.mono {A : Around} {n m : Nat} (r : Rm A n) (h : m ≤ n) : Rm A m := ⟨r.h, by have := r.d; omega, by have := r.u; omega⟩
theorem Rm.deeper {A : Around} {n : Nat} (r : Rm A (n + 1)) (env : Env) : Rm (A.deeper env) n :=
  ⟨r.h, by have := r.d; show A.depth + 1 + n + 1 < _; omega, by have := r.u; show A.units + 3 + 8 * n + 100 < _; omega⟩

noncomputable abbrev SB (c : Cx) (A : Around) (σ : Sig) (value slice : Expr) (d e : D) (P : D → Sig → Prop) : Prop := OP2 DR c A σ (subscriptTail value slice) d e P
noncomputable def SI (c : Cx) (A : Around) (σ : Sig) (o i d : D) (P : Sig → Prop) : Prop :=
  ∀ (ov iv v : Value) (s : Shared) (Q : Unit → Shared → Prop) (E : Value → Shared → Prop), Sok c s σ → DR s.heap ov o → DR s.heap iv i → DR s.heap v d →
    (∀ s' σ', P σ' → Sok c s' σ' → Le s.heap s'.heap → Q () s') → wpAny (model c.prog c.w) A (setItem ov iv v) Q E s

section
variable {c : Cx} {A : Around} {env : Env} {σ : Sig}

-- iterators
theorem i_list {l : Addr} {ds : List D} {f : AO → Sig} {g : Sig} {P : D → Sig → Prop} (S : Sel σ l (.list ds) f g) (h : ∀ it, P (.ref it) ((it, .lit l 0) :: σ)) : OP1 DR c A σ pyIter (.ref l) P := fun v s Q E hs r q => by
  cases r
  obtain ⟨vs, n, hl, r⟩ := hs.st.at S
  exact wpAny_pyIter_list ⟨_, hl, rfl, n, rfl⟩ (q _ _ _ _ (h _) (hs.heap (hs.st.new (fun _ _ e => Heap.get?_push_of_some _ e) (Nat.le_refl _) ⟨_, Heap.get?_push_size _ rfl, rfl, rfl⟩)) (.push _ _) (.ref _))
theorem i_tup {ds : List D} {P : D → Sig → Prop} (h : ∀ it, P (.ref it) ((it, .tit ds 0) :: σ)) : OP1 DR c A σ pyIter (.tup ds) P := fun v s Q E hs r q => by
  cases r with
  | @tup t vs n _ ht rs =>
    have it : s.heap.IsTuple t (List.toArray vs) := ⟨_, ht, rfl, n, rfl⟩
    exact wpAny_pyIter_tuple it (q _ _ _ _ (h _) (hs.heap (hs.st.new (fun _ _ e => Heap.get?_push_of_some _ e) (Nat.le_refl _)
      ⟨t, vs, ⟨_, Heap.get?_push_size _ rfl, rfl, rfl⟩, it.push _, rs.mono (.push _ _)⟩)) (.push _ _) (.ref _))
theorem i_rng {r : Addr} {a b : Int} {f : AO → Sig} {g : Sig} {P : D → Sig → Prop} (S : Sel σ r (.rng a b 1) f g) (hb : Builtin.Range.small a b 1 = true) (h : ∀ it, P (.ref it) ((it, .rit a (Builtin.Range.rangeSize a b 1) 1) :: σ)) :
    OP1 DR c A σ pyIter (.ref r) P := fun v s Q E hs r q => by
  cases r
  obtain ⟨t, u, v, hr⟩ := hs.st.at S
  exact wpAny_pyIter_range hr hb (q _ _ _ _ (h _) (hs.heap (hs.st.new (fun _ _ e => Heap.get?_push_of_some _ e) (Nat.le_refl _) (Heap.get?_push_size _ rfl))) (.push _ _) (.ref _))
theorem n_list {it l : Addr} {k : Nat} {ds : List D} {d : D} {f f' : AO → Sig} {g g' : Sig} {P : Option D → Sig → Prop} (S : Sel σ it (.lit l k) f g) (S' : Sel σ l (.list ds) f' g') (hk : ds[k]? = some d)
    (h : P (some d) (f (.lit l (k + 1)))) : NX c A σ it P := fun s Q E hs q => by
  obtain ⟨vs, n, hl, r⟩ := hs.st.at S'
  obtain ⟨v, hv, rv⟩ := r.get hk
  refine wpAny_pyNext_list_item (items := List.toArray vs) (hs.st.at S) ⟨_, hl, rfl, n, rfl⟩ (by simpa using hv) fun h' hi hsb => ?_
  have l := hs.st.le S hsb.extBut
  exact q _ _ _ _ h (hs.heap (hs.st.same S hsb hi)) l (.some (rv.mono l))
theorem n_list0 {it l : Addr} {k : Nat} {ds : List D} {f f' : AO → Sig} {g g' : Sig} {P : Option D → Sig → Prop} (S : Sel σ it (.lit l k) f g) (S' : Sel σ l (.list ds) f' g') (hh : A.handled = none) (hk : ds.length ≤ k)
    (h : P none g) : NX c A σ it P := fun s Q E hs q => by
  obtain ⟨vs, n, hl, r⟩ := hs.st.at S'
  refine wpAny_pyNext_list_end (items := List.toArray vs) hh (hs.st.at S) ⟨_, hl, rfl, n, rfl⟩ (by simpa using by rw [r.length]; exact hk) fun h' hsb => ?_
  exact q _ _ _ _ h (hs.heap (hs.st.drop S hsb)) (hs.st.le S hsb) .none
theorem n_tup {it : Addr} {k : Nat} {ds : List D} {d : D} {f : AO → Sig} {g : Sig} {P : Option D → Sig → Prop} (S : Sel σ it (.tit ds k) f g) (hk : ds[k]? = some d)
    (h : P (some d) (f (.tit ds (k + 1)))) : NX c A σ it P := fun s Q E hs q => by
  obtain ⟨t, vs, hi, ht, r⟩ := hs.st.at S
  obtain ⟨v, hv, rv⟩ := r.get hk
  refine wpAny_pyNext_tuple_item (items := List.toArray vs) hi ht (by simpa using hv) fun h' hi' hsb => ?_
  have l := hs.st.le S hsb.extBut
  obtain ⟨o', g', q1, n, q2⟩ := ht
  exact q _ _ _ _ h (hs.heap (hs.st.same S hsb ⟨t, vs, hi', ⟨o', l _ _ ⟨q1, _, _, q2⟩ g', q1, n, q2⟩, r.mono l⟩)) l (.some (rv.mono l))
theorem n_tup0 {it : Addr} {k : Nat} {ds : List D} {f : AO → Sig} {g : Sig} {P : Option D → Sig → Prop} (S : Sel σ it (.tit ds k) f g) (hh : A.handled = none) (hk : ds.length ≤ k)
    (h : P none g) : NX c A σ it P := fun s Q E hs q => by
  obtain ⟨t, vs, hi, ht, r⟩ := hs.st.at S
  refine wpAny_pyNext_tuple_end (items := List.toArray vs) hh hi ht (by simpa using by rw [r.length]; exact hk) fun h' hsb => ?_
  exact q _ _ _ _ h (hs.heap (hs.st.drop S hsb)) (hs.st.le S hsb) .none
theorem n_rng {it : Addr} {x left : Int} {f : AO → Sig} {g : Sig} {P : Option D → Sig → Prop} (S : Sel σ it (.rit x left 1) f g) (hl : 0 < left) (h : P (some (.int x)) (f (.rit (x + 1) (left - 1) 1))) : NX c A σ it P := fun s Q E hs q => by
  refine wpAny_pyNext_range_item (hs.st.at S) hl fun h' hi hsb => ?_
  exact q _ _ _ _ h (hs.mk' (hs.st.same S hsb hi)) (hs.st.le S hsb.extBut) (.some (.int _ _))
theorem n_rng0 {it : Addr} {x left : Int} {f : AO → Sig} {g : Sig} {P : Option D → Sig → Prop} (S : Sel σ it (.rit x left 1) f g) (hh : A.handled = none) (hl : left ≤ 0) (h : P none g) : NX c A σ it P := fun s Q E hs q => by
  refine wpAny_pyNext_range_end hh (hs.st.at S) hl fun h' hsb => ?_
  exact q _ _ _ _ h (hs.heap (hs.st.drop S hsb)) (hs.st.le S hsb) .none

-- subscripts
theorem subscripted_any (slice : Expr) (o i : Value) : ∃ ops, subscripted slice false o i = operate ops (getItem o i) := by
  unfold subscripted
  split
  · exact ⟨_, rfl⟩
  · rename_i h; cases h
  · exact ⟨_, rfl⟩
theorem e_sub {value slice : Expr} {pos : Pos} {P : D → Sig → Prop} (h : EV c A env σ value fun d σ₁ => EV c A env σ₁ slice fun e σ₂ => SB c A σ₂ value slice d e P) : EV c A env σ (.Subscript value slice pos) P :=
  fun s Q E hs q => Subscript_ (h s _ _ hs fun a s₁ d σ₁ h₁ hs₁ l₁ r₁ => h₁ s₁ _ _ hs₁ fun b s₂ e σ₂ h₂ hs₂ l₂ r₂ => h₂ a b s₂ _ _ hs₂ (r₁.mono l₂) r₂ fun v s₃ d₃ σ₃ hp hs₃ l₃ r₃ => q v s₃ d₃ σ₃ hp hs₃ (l₁.trans (l₂.trans l₃)) r₃)
theorem sb_list {value slice : Expr} {l : Addr} {ds : List D} {k : Int} {d : D} {f : AO → Sig} {g : Sig} {P : D → Sig → Prop} (S : Sel σ l (.list ds) f g) (h0 : 0 ≤ k) (hf : k < 2 ^ 63) (hk : ds[k.toNat]? = some d)
    (h : P d σ) : SB c A σ value slice (.ref l) (.int k) P := fun v w s Q E hs r r' q => by
  cases r
  cases r'
  obtain ⟨vs, n, hl, r⟩ := hs.st.at S
  obtain ⟨x, hx, rx⟩ := r.get hk
  obtain ⟨ops, ho⟩ := subscripted_any slice (.ref l) (.int k _)
  have il : s.heap.IsList l (List.toArray vs) := ⟨_, hl, rfl, n, rfl⟩
  exact tail_any il.typeIs slot_list_getitem.lookup (wpAny_getItem_list il h0 hf (by simpa using hx) (q _ _ _ _ h hs (.refl _) rx)) ho
theorem sb_tup {value slice : Expr} {ds : List D} {k : Int} {d : D} {P : D → Sig → Prop} (h0 : 0 ≤ k) (hf : k < 2 ^ 63) (hk : ds[k.toNat]? = some d)
    (h : P d σ) : SB c A σ value slice (.tup ds) (.int k) P := fun v w s Q E hs r r' q => by
  cases r' with
  | int _ tk =>
  cases r with
  | @tup t vs n _ ht rs =>
    obtain ⟨x, hx, rx⟩ := rs.get hk
    obtain ⟨ops, ho⟩ := subscripted_any slice (.ref t) (.int k tk)
    have it : IsTup s.heap t (List.toArray vs) := ⟨_, ht, rfl, n, rfl⟩
    have lt : k.toNat < vs.length := (List.getElem?_eq_some_iff.mp hx).1
    have sx : seqIndex? k (List.toArray vs).size = some k.toNat := by
      rw [List.size_toArray]
      unfold seqIndex?
      obtain ⟨j, rfl⟩ := Int.eq_ofNat_of_zero_le h0
      simp only [Int.toNat_natCast] at lt
      have h1 : ¬ ((j : Int) < 0) := by omega
      simp [h1]
      omega
    exact tail_any it.typeIs slot_tuple_getitem.lookup (getItem_tuple it (by omega) hf sx (by simpa using hx) (q _ _ _ _ h hs (.refl _) rx)) ho
theorem a_sub {o i : Expr} {d : D} {pos : Pos} {P : Sig → Prop} (h : EV c A env σ o fun d₁ σ₁ => EV c A env σ₁ i fun d₂ σ₂ => SI c A σ₂ d₁ d₂ d P) : AS c A env σ (.Subscript o i pos) d P := fun v s Q E hs r q => by
  rw [arm_assign_Subscript]
  refine wpAny_bind (wpAny_holding (h s _ _ hs fun a s₁ d₁ σ₁ h₁ hs₁ l₁ r₁ => wpAny_bind (wpAny_holding (h₁ s₁ _ _ hs₁ fun b s₂ e σ₂ h₂ hs₂ l₂ r₂ => ?_))))
  exact wpAny_bind (wpAny_standAt (wpAny_bind (wpAny_holding (h₂ a b v s₂ _ _ hs₂ (r₁.mono l₂) r₂ (r.mono (l₁.trans l₂)) fun s₃ σ₃ hp hs₃ l₃ => wpAny_release (q s₃ σ₃ hp hs₃ (l₁.trans (l₂.trans l₃)))))))
theorem list_put {prog : Program} {w : World} {E : Value → Shared → Prop} {s : Shared} {l : Addr} {items : Array Value} {n : Nat} {k : Int} {t : Tok} {v : Value} {Q : Unit → Shared → Prop} (hl : IsL s.heap l items n) (h0 : 0 ≤ k) (hf : Builtin.List.listFitsIndex k = true) (hj : k < items.size)
    (hQ : Q () { s with heap := s.heap.update l (Obj.mapSeq (·.setIfInBounds k.toNat v)) }) : wpAny (model prog w) A (setItem (.ref l) (.int k t) v) Q E s := by
  have il : s.heap.IsList l items := hl.isList
  unfold setItem
  try with_reducible refine wpAny_holding ?_
  refine wpAny_bind (wpAny_sequenceKey il.typeIs (by decide) ?_)
  refine wpAny_bind (wpAny_callSpecial?_slot (name := Str.ofString "__setitem__") il.typeIs slot_list_setitem ?_)
  refine wpAny_call_entry slot_list_setitem il.typeIs entry_list_setitem ?_ (args_list_setitem _ _ _)
  show wpAny _ _ (Builtin.List.listSubscript? (.int k t) >>= _) _ _ s
  refine wpAny_bind (wpAny_listSubscript_int hf ?_)
  obtain ⟨j, rfl⟩ := Int.eq_ofNat_of_zero_le h0
  have hj' : j < items.size := by omega
  show wpAny _ _ ((seqItemAt l j >>= fun r => pure (r.map (j, ·))) >>= _) _ _ s
  refine wpAny_bind (wpAny_bind (wpAny_seqItemAt hl rfl (wpAny_pure ?_)))
  rw [show items[j]? = some items[j] from Array.getElem?_eq_getElem hj']
  show wpAny _ _ (setSeqItemAt l j v >>= _) _ _ s
  refine wpAny_bind (wpAny_setSeqItemAt hl rfl ?_)
  first
    | exact wpAny_bind (wpAny_pure (wpAny_pure ⟨.none, rfl, wpAny_pure hQ⟩))
    | exact wpAny_pure ⟨.none, rfl, wpAny_pure hQ⟩
theorem si_list {l : Addr} {ds : List D} {k : Int} {d : D} {f : AO → Sig} {g : Sig} {P : Sig → Prop} (S : Sel σ l (.list ds) f g) (h0 : 0 ≤ k) (hf : k < 2 ^ 63) (hk : k < ds.length)
    (h : P (f (.list (ds.set k.toNat d)))) : SI c A σ (.ref l) (.int k) d P := fun ov iv v s Q E hs r r' r'' q => by
  cases r
  cases r'
  obtain ⟨vs, n, hl, r⟩ := hs.st.at S
  obtain ⟨j, rfl⟩ := Int.eq_ofNat_of_zero_le h0
  have e := Heap.SameBut.update s.heap l (Obj.mapSeq (·.setIfInBounds j v))
  have le := hs.st.le S e.extBut
  refine list_put (items := List.toArray vs) hl h0 (fitsIndex_of h0 hf) (by rw [List.size_toArray, r.length]; exact hk) (q _ _ h (hs.heap (hs.st.same S e ⟨vs.set j v, if ((List.toArray vs).setIfInBounds j v).size == (List.toArray vs).size then n else n + 1, ?_, (r.mono le).set j (r''.mono le)⟩)) le)
  have := IsL.update hl (·.setIfInBounds j v)
  rw [List.setIfInBounds_toArray] at this ⊢
  exact this

-- ints
theorem o_add {i j : Int} {P : D → Sig → Prop} (h : P (.int (i + j)) σ) : OP2 DR c A σ (binaryOp .Add) (.int i) (.int j) P := fun v w s Q E hs r r' q => by cases r; cases r'; exact add_int (q _ _ _ _ h hs.tok (.refl _) (.int _ _))
theorem o_sub {i j : Int} {P : D → Sig → Prop} (h : P (.int (i - j)) σ) : OP2 DR c A σ (binaryOp .Sub) (.int i) (.int j) P := fun v w s Q E hs r r' q => by cases r; cases r'; exact sub_int (q _ _ _ _ h hs.tok (.refl _) (.int _ _))
theorem o_mod {i j : Int} {P : D → Sig → Prop} (hj : j ≠ 0) (h : P (.int (i.fmod j)) σ) : OP2 DR c A σ (binaryOp .Mod) (.int i) (.int j) P := fun v w s Q E hs r r' q => by cases r; cases r'; exact mod_int' hj (q _ _ _ _ h hs.tok (.refl _) (.int _ _))
theorem o_div {i j : Int} {P : D → Sig → Prop} (hj : j ≠ 0) (hp : Builtin.divisionGoesByPylong i j = false) (h : P (.int (i.fdiv j)) σ) : OP2 DR c A σ (binaryOp .FloorDiv) (.int i) (.int j) P := fun v w s Q E hs r r' q => by
  cases r; cases r'; exact floordiv_int hj (q _ _ _ _ h hs.tok (.refl _) (.int _ _)) (.inl hp)
theorem o_mul {i j : Int} {P : D → Sig → Prop} (hm : IntMulOk i j) (h : P (.int (i * j)) σ) : OP2 DR c A σ (binaryOp .Mult) (.int i) (.int j) P := fun v w s Q E hs r r' q => by cases r; cases r'; exact mul_int (q _ _ _ _ h hs.tok (.refl _) (.int _ _)) hm
theorem o_pow {i n : Int} {P : D → Sig → Prop} (h0 : 0 ≤ n) (hb : (Builtin.Int.intBits i : Int) * n ≤ 2 ^ 27) (h : P (.int (i ^ n.toNat)) σ) : OP2 DR c A σ (binaryOp .Pow) (.int i) (.int n) P := fun v w s Q E hs r r' q => by
  cases r; cases r'; exact pow_int h0 hb (q _ _ _ _ h hs.tok (.refl _) (.int _ _))
theorem o_neg {i : Int} {P : D → Sig → Prop} (h : P (.int (-i)) σ) : OP1 DR c A σ (unaryOp .USub) (.int i) P := fun v s Q E hs r q => by cases r; exact neg_int (q _ _ _ _ h hs.tok (.refl _) (.int _ _))
theorem o_not {b : Bool} {P : D → Sig → Prop} (h : P (.bool (!b)) σ) : OP1 DR c A σ (unaryOp .Not) (.bool b) P := fun v s Q E hs r q => by cases r; exact not_value (wpAny_truthy_bool (q _ _ _ _ h hs (.refl _) (.bool _)))
theorem o_eqi {i j : Int} {P : D → Sig → Prop} (h : P (.bool (i == j)) σ) : OP2 DR c A σ (compareOp .Eq) (.int i) (.int j) P := fun v w s Q E hs r r' q => by cases r; cases r'; exact eq_int (q _ _ _ _ h hs (.refl _) (.bool _))
theorem o_nei {i j : Int} {P : D → Sig → Prop} (h : P (.bool (i != j)) σ) : OP2 DR c A σ (compareOp .NotEq) (.int i) (.int j) P := fun v w s Q E hs r r' q => by cases r; cases r'; exact ne_int (q _ _ _ _ h hs (.refl _) (.bool _))
theorem o_lt {i j : Int} {P : D → Sig → Prop} (h : P (.bool (decide (i < j))) σ) : OP2 DR c A σ (compareOp .Lt) (.int i) (.int j) P := fun v w s Q E hs r r' q => by cases r; cases r'; exact lt_int (q _ _ _ _ h hs (.refl _) (.bool _))
theorem o_le {i j : Int} {P : D → Sig → Prop} (h : P (.bool (decide (i ≤ j))) σ) : OP2 DR c A σ (compareOp .LtE) (.int i) (.int j) P := fun v w s Q E hs r r' q => by cases r; cases r'; exact le_int (q _ _ _ _ h hs (.refl _) (.bool _))
theorem o_gt {i j : Int} {P : D → Sig → Prop} (h : P (.bool (decide (j < i))) σ) : OP2 DR c A σ (compareOp .Gt) (.int i) (.int j) P := fun v w s Q E hs r r' q => by cases r; cases r'; exact gt_int (q _ _ _ _ h hs (.refl _) (.bool _))
theorem o_ge {i j : Int} {P : D → Sig → Prop} (h : P (.bool (decide (j ≤ i))) σ) : OP2 DR c A σ (compareOp .GtE) (.int i) (.int j) P := fun v w s Q E hs r r' q => by cases r; cases r'; exact ge_int (q _ _ _ _ h hs (.refl _) (.bool _))
theorem o_eqs {x y : Str} {P : D → Sig → Prop} (h : P (.bool (x == y)) σ) : OP2 DR c A σ (compareOp .Eq) (.str x) (.str y) P := fun v w s Q E hs r r' q => by cases r; cases r'; exact eq_str (q _ _ _ _ h hs (.refl _) (.bool _))
noncomputable def D.isNone : D → Bool | .none => true | _ => false
theorem o_isnone {d : D} {P : D → Sig → Prop} (h : P (.bool d.isNone) σ) : OP2 DR c A σ (compareOp .Is) d .none P := fun v w s Q E hs r r' q => by
  cases r'
  refine is_none (q _ _ _ _ h hs (.refl _) ?_)
  cases r <;> exact .bool _
end
end
section

noncomputable abbrev cellD (p : Int × Int) : D := .tup [.int p.1, .int p.2]
noncomputable def cellP (p : Int × Int) : PyData := .tuple [.int p.1, .int p.2]
noncomputable def cm (l : List (Int × Int)) : List D := l.map cellD
noncomputable def im (l : List Int) : List D := l.map .int
theorem cm_append (a b : List (Int × Int)) : cm (a ++ b) = cm a ++ cm b := List.map_append
theorem cm_one (p : Int × Int) : cm [p] = [cellD p] := rfl
theorem cm_length (a : List (Int × Int)) : (cm a).length = a.length := List.length_map ..
theorem cm_get (a : List (Int × Int)) (k : Nat) : (cm a)[k]? = (a[k]?).map cellD := List.getElem?_map ..
theorem cm_set (a : List (Int × Int)) (k : Nat) (p : Int × Int) : (cm a).set k (cellD p) = cm (a.set k p) := by unfold cm; rw [List.map_set]
theorem im_length (a : List Int) : (im a).length = a.length := List.length_map ..

section
variable {h : Heap} {v : Value} {vs : List Value}
theorem reads_pair {i j : Int} (r : DR h v (.tup [.int i, .int j])) : ∃ as, Reads h v (.tuple [.int i, .int j]) as := by
  cases r with
  | tup e rs =>
    cases rs with
    | cons a rs =>
      cases rs with
      | cons b rs =>
        cases rs
        cases a
        cases b
        exact ⟨_, reads_tuple_at e rfl rfl (.cons (.int _ _) (.cons (.int _ _) .nil))⟩
theorem reads_cells {l : List (Int × Int)} (r : DRs h vs (cm l)) : ∃ as, ReadsAll h vs (l.map cellP) as := by
  induction l generalizing vs with
  | nil => cases r; exact ⟨_, .nil⟩
  | cons p l ih =>
    cases r with
    | cons a r =>
      obtain ⟨as, q⟩ := reads_pair (show DR h _ (.tup [.int p.1, .int p.2]) from a)
      obtain ⟨bs, q'⟩ := ih r
      exact ⟨_, .cons q q'⟩
theorem reads_ints {l : List Int} (r : DRs h vs (im l)) : ∃ as, ReadsAll h vs (l.map .int) as := by
  induction l generalizing vs with
  | nil => cases r; exact ⟨_, .nil⟩
  | cons p l ih =>
    cases r with
    | cons a r =>
      cases a
      obtain ⟨bs, q'⟩ := ih r
      exact ⟨_, .cons (.int _ _) q'⟩
theorem eqv_pair (p q : Int × Int) : PyData.eqv (cellP p) (cellP q) = decide (p = q) := by
  obtain ⟨a, b⟩ := p
  obtain ⟨a', b'⟩ := q
  simp only [cellP, PyData.eqv, PyData.eqvAll, Bool.and_true, Prod.mk.injEq]
  by_cases h1 : a = a' <;> by_cases h2 : b = b' <;> simp [h1, h2]
theorem eqv_cells : ∀ (l k : List (Int × Int)), PyData.eqvAll (l.map cellP) (k.map cellP) = decide (l = k)
  | [], [] => by simp [PyData.eqvAll]
  | [], _ :: _ => by simp [PyData.eqvAll]
  | _ :: _, [] => by simp [PyData.eqvAll]
  | p :: l, q :: k => by
    simp only [List.map_cons, PyData.eqvAll, eqv_pair, eqv_cells l k, List.cons.injEq]
    by_cases h1 : p = q <;> by_cases h2 : l = k <;> simp [h1, h2]
theorem eqv_ints : ∀ (l k : List Int), PyData.eqvAll (l.map .int) (k.map .int) = decide (l = k)
  | [], [] => by simp [PyData.eqvAll]
  | [], _ :: _ => by simp [PyData.eqvAll]
  | _ :: _, [] => by simp [PyData.eqvAll]
  | p :: l, q :: k => by
    simp only [List.map_cons, PyData.eqvAll, PyData.eqv, eqv_ints l k, List.cons.injEq]
    by_cases h1 : p = q <;> by_cases h2 : l = k <;> simp [h1, h2]
theorem lay_pair (p : Int × Int) : (cellP p).canLay0 = true ∧ (cellP p).depth ≤ 1 := by
  simp [cellP, PyData.canLay0, PyData.canLayAll0, PyData.depth, PyData.depthAll]
theorem lay_cells : ∀ l : List (Int × Int), PyData.canLayAll0 (l.map cellP) = true ∧ PyData.depthAll (l.map cellP) ≤ 1
  | [] => by simp [PyData.canLayAll0, PyData.depthAll]
  | p :: l => by
    have a := lay_pair p
    have b := lay_cells l
    simp only [List.map_cons, PyData.canLayAll0, PyData.depthAll, a.1, b.1, Bool.and_self, true_and]
    have := a.2; have := b.2; omega
theorem lay_ints : ∀ l : List Int, PyData.canLayAll0 (l.map .int) = true ∧ PyData.depthAll (l.map .int) ≤ 1
  | [] => by simp [PyData.canLayAll0, PyData.depthAll]
  | p :: l => by
    have b := lay_ints l
    simp only [List.map_cons, PyData.canLayAll0, PyData.depthAll, PyData.canLay0, PyData.depth, b.1, Bool.and_self, true_and]
    have := b.2; omega
end

section
variable {c : Cx} {A : Around} {env : Env} {σ : Sig}
theorem shaped_pair (p : Int × Int) : SeqAt.shaped (cellP p) = true := by
  have a := lay_pair p
  unfold SeqAt.shaped
  rw [a.1, Bool.true_and]
  exact decide_eq_true (Nat.le_trans a.2 (by decide))
theorem shaped_cells (l : List (Int × Int)) : SeqAt.shaped (.list (l.map cellP)) = true := by
  have a := lay_cells l
  unfold SeqAt.shaped
  simp only [PyData.canLay0, PyData.depth, a.1, Bool.true_and]
  exact decide_eq_true (by have := a.2; omega)
theorem shaped_ints (l : List Int) : SeqAt.shaped (.list (l.map .int)) = true := by
  have a := lay_ints l
  unfold SeqAt.shaped
  simp only [PyData.canLay0, PyData.depth, a.1, Bool.true_and]
  exact decide_eq_true (by have := a.2; omega)
theorem o_eqc {n : Nat} (hr : Rm A n) {p q : Int × Int} {P : D → Sig → Prop} (h : P (.bool (decide (p = q))) σ) : OP2 DR c A σ (compareOp .Eq) (cellD p) (cellD q) P := fun v w s Q E hs r r' k => by
  obtain ⟨as, ra⟩ := reads_pair (show DR s.heap v (.tup [.int p.1, .int p.2]) from r)
  obtain ⟨bs, rb⟩ := reads_pair (show DR s.heap w (.tup [.int q.1, .int q.2]) from r')
  exact eq_dataH ra rb (shaped_pair p) (shaped_pair q) (by have := hr.u; omega) (by rw [show PyData.eqv (.tuple [.int p.1, .int p.2]) (.tuple [.int q.1, .int q.2]) = decide (p = q) from eqv_pair p q]; exact k _ _ _ _ h hs (.refl _) (.bool _))
theorem o_nec {n : Nat} (hr : Rm A n) {p q : Int × Int} {P : D → Sig → Prop} (h : P (.bool (decide (p ≠ q))) σ) : OP2 DR c A σ (compareOp .NotEq) (cellD p) (cellD q) P := fun v w s Q E hs r r' k => by
  obtain ⟨as, ra⟩ := reads_pair (show DR s.heap v (.tup [.int p.1, .int p.2]) from r)
  obtain ⟨bs, rb⟩ := reads_pair (show DR s.heap w (.tup [.int q.1, .int q.2]) from r')
  exact ne_dataH ra rb (shaped_pair p) (shaped_pair q) (by have := hr.u; omega) (by rw [show PyData.eqv (.tuple [.int p.1, .int p.2]) (.tuple [.int q.1, .int q.2]) = decide (p = q) from eqv_pair p q, ← decide_not]; exact k _ _ _ _ h hs (.refl _) (.bool _))
theorem o_eqcl {n : Nat} (hr : Rm A n) {a b : Addr} {l k : List (Int × Int)} {f f' : AO → Sig} {g g' : Sig} {P : D → Sig → Prop} (S : Sel σ a (.list (cm l)) f g) (S' : Sel σ b (.list (cm k)) f' g') (h : P (.bool (decide (l = k))) σ) :
    OP2 DR c A σ (compareOp .Eq) (.ref a) (.ref b) P := fun v w s Q E hs r r' q => by
  cases r; cases r'
  obtain ⟨vs, n, hl, r⟩ := hs.st.at S
  obtain ⟨ws, m, hk, r'⟩ := hs.st.at S'
  obtain ⟨as, ra⟩ := reads_cells r
  obtain ⟨bs, rb⟩ := reads_cells r'
  exact eq_dataH (reads_list_at hl rfl rfl (by simpa using ra)) (reads_list_at hk rfl rfl (by simpa using rb)) (shaped_cells l) (shaped_cells k) (by have := hr.u; omega)
    (by rw [show PyData.eqv (.list (l.map cellP)) (.list (k.map cellP)) = decide (l = k) from by rw [PyData.eqv]; exact eqv_cells l k]; exact q _ _ _ _ h hs (.refl _) (.bool _))
theorem o_necl {n : Nat} (hr : Rm A n) {a b : Addr} {l k : List (Int × Int)} {f f' : AO → Sig} {g g' : Sig} {P : D → Sig → Prop} (S : Sel σ a (.list (cm l)) f g) (S' : Sel σ b (.list (cm k)) f' g') (h : P (.bool (decide (l ≠ k))) σ) :
    OP2 DR c A σ (compareOp .NotEq) (.ref a) (.ref b) P := fun v w s Q E hs r r' q => by
  cases r; cases r'
  obtain ⟨vs, n, hl, r⟩ := hs.st.at S
  obtain ⟨ws, m, hk, r'⟩ := hs.st.at S'
  obtain ⟨as, ra⟩ := reads_cells r
  obtain ⟨bs, rb⟩ := reads_cells r'
  exact ne_dataH (reads_list_at hl rfl rfl (by simpa using ra)) (reads_list_at hk rfl rfl (by simpa using rb)) (shaped_cells l) (shaped_cells k) (by have := hr.u; omega)
    (by rw [show PyData.eqv (.list (l.map cellP)) (.list (k.map cellP)) = decide (l = k) from by rw [PyData.eqv]; exact eqv_cells l k, ← decide_not]; exact q _ _ _ _ h hs (.refl _) (.bool _))
theorem o_neil {n : Nat} (hr : Rm A n) {a b : Addr} {l k : List Int} {f f' : AO → Sig} {g g' : Sig} {P : D → Sig → Prop} (S : Sel σ a (.list (im l)) f g) (S' : Sel σ b (.list (im k)) f' g') (h : P (.bool (decide (l ≠ k))) σ) :
    OP2 DR c A σ (compareOp .NotEq) (.ref a) (.ref b) P := fun v w s Q E hs r r' q => by
  cases r; cases r'
  obtain ⟨vs, n, hl, r⟩ := hs.st.at S
  obtain ⟨ws, m, hk, r'⟩ := hs.st.at S'
  obtain ⟨as, ra⟩ := reads_ints r
  obtain ⟨bs, rb⟩ := reads_ints r'
  exact ne_dataH (reads_list_at hl rfl rfl (by simpa using ra)) (reads_list_at hk rfl rfl (by simpa using rb)) (shaped_ints l) (shaped_ints k) (by have := hr.u; omega)
    (by rw [show PyData.eqv (.list (l.map PyData.int)) (.list (k.map PyData.int)) = decide (l = k) from by rw [PyData.eqv]; exact eqv_ints l k, ← decide_not]; exact q _ _ _ _ h hs (.refl _) (.bool _))
theorem any_cells (l : List (Int × Int)) (p : Int × Int) : ((l.map cellP).any fun y => PyData.eqv y (cellP p)) = decide (p ∈ l) := by
  induction l with
  | nil => simp
  | cons q l ih =>
    rw [List.map_cons, List.any_cons, ih, eqv_pair, Bool.eq_iff_iff]
    simp only [Bool.or_eq_true, decide_eq_true_eq, List.mem_cons]
    exact or_congr_left eq_comm
theorem any_ints (l : List Int) (p : Int) : ((l.map PyData.int).any fun y => PyData.eqv y (.int p)) = decide (p ∈ l) := by
  induction l with
  | nil => simp
  | cons q l ih =>
    rw [List.map_cons, List.any_cons, ih, Bool.eq_iff_iff]
    simp only [Bool.or_eq_true, decide_eq_true_eq, List.mem_cons, PyData.eqv, beq_iff_eq]
    exact or_congr_left eq_comm
theorem o_inc {n : Nat} (hr : Rm A n) {b : Addr} {p : Int × Int} {l : List (Int × Int)} {f : AO → Sig} {g : Sig} {P : D → Sig → Prop} (S : Sel σ b (.list (cm l)) f g) (h : P (.bool (decide (p ∈ l))) σ) :
    OP2 DR c A σ (compareOp .In) (cellD p) (.ref b) P := fun v w s Q E hs r r' q => by
  cases r'
  obtain ⟨vs, n, hl, rs⟩ := hs.st.at S
  obtain ⟨as, ra⟩ := reads_cells rs
  obtain ⟨bs, rb⟩ := reads_pair (show DR s.heap v (.tup [.int p.1, .int p.2]) from r)
  exact SeqAt.in_list_reads (reads_list_at hl rfl rfl (by simpa using ra)) rb (lay_cells l).1 (lay_pair p).1 (by have := hr.u; have := (lay_pair p).2; have : (PyData.tuple [.int p.1, .int p.2]) = cellP p := rfl; have z := Nat.min_le_right (PyData.depthAll (l.map cellP)) (cellP p).depth; rw [this]; omega)
    (by rw [show (List.any (l.map cellP) fun y => PyData.eqv y (.tuple [.int p.1, .int p.2])) = decide (p ∈ l) from any_cells l p]; exact q _ _ _ _ h hs (.refl _) (.bool _))
theorem o_notini {n : Nat} (hr : Rm A n) {b : Addr} {p : Int} {l : List Int} {f : AO → Sig} {g : Sig} {P : D → Sig → Prop} (S : Sel σ b (.list (im l)) f g) (h : P (.bool (decide (p ∉ l))) σ) :
    OP2 DR c A σ (compareOp .NotIn) (.int p) (.ref b) P := fun v w s Q E hs r r' q => by
  cases r'
  cases r
  obtain ⟨vs, n, hl, rs⟩ := hs.st.at S
  obtain ⟨as, ra⟩ := reads_ints rs
  exact SeqAt.notIn_list_reads (reads_list_at hl rfl rfl (by simpa using ra)) (.int _ _) (lay_ints l).1 rfl (by have := hr.u; have z := Nat.min_le_left (PyData.depthAll (l.map PyData.int)) (PyData.int p).depth; have := (lay_ints l).2; omega)
    (by rw [any_ints l p, ← decide_not]; exact q _ _ _ _ h hs (.refl _) (.bool _))

-- dicts keyed by ints
noncomputable def kAt {κ : Type} [DecidableEq κ] (kvs : List (κ × D)) (k : κ) : Option D := (kvs.find? fun kv => kv.1 = k).map (·.2)
noncomputable def kPut {κ : Type} [DecidableEq κ] (kvs : List (κ × D)) (k : κ) (d : D) : List (κ × D) := if kvs.any (fun kv => kv.1 = k) then kvs.map (fun kv => if kv.1 = k then (kv.1, d) else kv) else kvs ++ [(k, d)]
theorem KV.at {h : Heap} {κ : Type} [DecidableEq κ] {vk : List (κ × Value)} {kvs : List (κ × D)} (r : KV h vk kvs) (k : κ) : OR h (valueAt vk k) (kAt kvs k) := by
  induction r with
  | nil => exact .none
  | @cons k' v d vs ds a r ih =>
    unfold valueAt kAt at *
    rw [List.find?_cons, List.find?_cons]
    by_cases e : k' = k
    · simp only [e, decide_true, Option.map_some]; exact .some a
    · simp only [e, decide_false]; exact ih
theorem KV.any {h : Heap} {κ : Type} [DecidableEq κ] {vk : List (κ × Value)} {kvs : List (κ × D)} (r : KV h vk kvs) (k : κ) : vk.any (fun kv => kv.1 = k) = kvs.any (fun kv => kv.1 = k) := by
  induction r with
  | nil => rfl
  | cons _ _ ih => rw [List.any_cons, List.any_cons, ih]
theorem KV.snoc {h : Heap} {κ : Type} {vk : List (κ × Value)} {kvs : List (κ × D)} (r : KV h vk kvs) {k : κ} {v : Value} {d : D} (a : DR h v d) : KV h (vk ++ [(k, v)]) (kvs ++ [(k, d)]) := by
  induction r with
  | nil => exact .cons a .nil
  | cons b _ ih => exact .cons b ih
theorem KV.repl {h : Heap} {κ : Type} [DecidableEq κ] {vk : List (κ × Value)} {kvs : List (κ × D)} (r : KV h vk kvs) {k : κ} {v : Value} {d : D} (a : DR h v d) :
    KV h (vk.map fun kv => if kv.1 = k then (kv.1, v) else kv) (kvs.map fun kv => if kv.1 = k then (kv.1, d) else kv) := by
  induction r with
  | nil => exact .nil
  | @cons k' v' d' vs ds b r ih =>
    rw [List.map_cons, List.map_cons]
    by_cases e : k' = k
    · simp only [e, if_true]; exact .cons a ih
    · simp only [e, if_false]; exact .cons b ih
theorem KV.put {h : Heap} {κ : Type} [DecidableEq κ] {vk : List (κ × Value)} {kvs : List (κ × D)} (r : KV h vk kvs) {k : κ} {v : Value} {d : D} (a : DR h v d) : KV h (stored vk k v) (kPut kvs k d) := by
  unfold stored kPut
  rw [r.any k]
  split
  · exact r.repl a
  · exact r.snoc a
theorem KV.length {h : Heap} {κ : Type} {vk : List (κ × Value)} {kvs : List (κ × D)} (r : KV h vk kvs) : vk.length = kvs.length := by
  induction r with
  | nil => rfl
  | cons _ _ ih => rw [List.length_cons, List.length_cons, ih]
end
end
section

noncomputable abbrev GA (c : Cx) (A : Around) (σ : Sig) (attr : Str) (d : D) (P : D → Sig → Prop) : Prop := OP1 DR c A σ (fun v => getAttr v attr true) d P
noncomputable abbrev PA (c : Cx) (A : Around) (σ : Sig) (o : D) (attr : Str) (d : D) (P : Sig → Prop) : Prop :=
  ∀ (ov v : Value) (s : Shared) (Q : Unit → Shared → Prop) (E : Value → Shared → Prop), Sok c s σ → DR s.heap ov o → DR s.heap v d →
    (∀ s' σ', P σ' → Sok c s' σ' → Le s.heap s'.heap → Q () s') → wpAny (model c.prog c.w) A (setAttr ov attr v) Q E s
/-- a method of a value is called -/
noncomputable def MT (c : Cx) (A : Around) (env : Env) (σ : Sig) (d : D) (name : Str) (pos : Pos) (args : List Expr) (P : D → Sig → Prop) : Prop :=
  ∀ (v : Value) (pl : Sem Bool) (s : Shared) (Q : Value → Shared → Prop) (E : Value → Shared → Prop), Sok c s σ → DR s.heap v d →
    (∀ a s' b σ', P b σ' → Sok c s' σ' → Le s.heap s'.heap → DR s'.heap a b → Q a s') →
    wpAny (model c.prog c.w) A (getMethod v name pl) (fun r s₁ => wpAny (model c.prog c.w) A (callWith pos r.1 r.2 (backTo pos (starEach args env)) []) Q E s₁) E s

noncomputable def notStar : Expr → Bool
  | .Starred .. => false
  | _ => true
noncomputable def plainStarts (es : List Expr) : Bool := es.all notStar

section
variable {c : Cx} {A : Around} {env : Env} {σ : Sig}
theorem starEach_plain : ∀ (es : List Expr), plainStarts es = true → starEach es env = es.map fun e => (false, eval e env)
  | [], _ => rfl
  | e :: rest, h => by
    have h' : plainStarts rest = true := by unfold plainStarts at h ⊢; rw [List.all_cons, Bool.and_eq_true] at h; exact h.2
    have he : notStar e = true := by unfold plainStarts at h; rw [List.all_cons, Bool.and_eq_true] at h; exact h.1
    rw [List.map_cons, ← starEach_plain rest h']
    cases e <;> first | rfl | cases he
theorem back_plain {es : List Expr} {pos : Pos} (h : plainStarts es = true) : (backTo pos (starEach es env)).any (·.1) = false := by
  rw [starEach_plain es h]
  unfold backTo
  rw [List.map_map, List.any_map, List.any_eq_false]
  intro x hx
  simp
theorem args_of {f : Value} {s : Shared} {es : List Expr} {pos : Pos} {E : Value → Shared → Prop} {Q : Args → Shared → Prop} {M : Model} (hp : plainStarts es = true) (h : wpAny M A (spliced (backTo pos (starEach es env))) (fun vs s' => Q ⟨vs, []⟩ s') E s) :
    wpAny M A (evalArgs f true (backTo pos (starEach es env)) []) Q E s := by
  cases es with
  | nil =>
    exact fun Γ p hΓ => evalArgs_nil3 (h Γ p hΓ) Γ p hΓ
  | cons e rest =>
    have e1 : starEach (e :: rest) env = (false, eval e env) :: starEach rest env := by
      rw [starEach_plain _ hp, starEach_plain rest (by unfold plainStarts at hp ⊢; rw [List.all_cons, Bool.and_eq_true] at hp; exact hp.2)]; rfl
    rw [e1] at h ⊢
    exact evalArgs_plain h
/-- the arguments, then the call -/
theorem callW {s : Shared} {f : Value} {first : List Value} {es : List Expr} {pos : Pos} {E : Value → Shared → Prop} {Q : Value → Shared → Prop} (hp : plainStarts es = true)
    (hk : ∀ h, (∀ b o, c.B.get? b = some o → h.get? b = some o) → ∃ k, (k = Keeper.frame ∨ k = Keeper.machine ∨ k = Keeper.boundFrame) ∧ Looks (model c.prog c.w) h (keeperOf f) k)
    (h : wpAny (model c.prog c.w) A (spliced (backTo pos (starEach es env))) (fun vs s₁ => (∀ b o, c.B.get? b = some o → s₁.heap.get? b = some o) ∧ wpAny (model c.prog c.w) A (call f (first ++ vs)) Q E s₁) E s) :
    wpAny (model c.prog c.w) A (callWith pos f first (backTo pos (starEach es env)) []) Q E s :=
  callWith_of (P := fun h => ∀ b o, c.B.get? b = some o → h.get? b = some o) (by rw [back_plain hp]; rfl) hk (args_of hp h)
theorem keep_K {f : Value} (hk : keepIn c.K f = true) (h : Heap) (X : ∀ b o, c.B.get? b = some o → h.get? b = some o) :
    ∃ k, (k = Keeper.frame ∨ k = Keeper.machine ∨ k = Keeper.boundFrame) ∧ Looks (model c.prog c.w) h (keeperOf f) k := keeps_K hk h (c.X.keeps X)
theorem keep_blt {f : Value} (hf : f.onHeap = false) (h : Heap) (X : ∀ b o, c.B.get? b = some o → h.get? b = some o) :
    ∃ k, (k = Keeper.frame ∨ k = Keeper.machine ∨ k = Keeper.boundFrame) ∧ Looks (model c.prog c.w) h (keeperOf f) k :=
  ⟨.machine, .inr (.inl rfl), Looks.of_pure (by cases f <;> first | rfl | cases hf)⟩

-- calls by a name
theorem e_call {x : Str} {p pos : Pos} {args : List Expr} {a : Addr} {P : D → Sig → Prop} (e : nsIn c.K mainGlobals x = some (some (.ref a))) (hk : env.scope.kind = .function) (hl : env.kindOf x = some .globalImplicit)
    (hg : env.globals = mainGlobals) (hf : keepIn c.K (.ref a) = true) (h : VS c A env σ pos args fun ds σ₁ => CL c A σ₁ (.ref a) ds P) (hp : plainStarts args = true := by rfl) (hd : (x == ("__debug__" : Str)) = false := by decide +kernel) :
    EV c A env σ (.Call (.Name x p) args [] pos) P := fun s Q E hs q =>
  wpAny_Call_NameR (wpAny_Name (wp_glob hs.st.XK hk hl hg e (callW hp (keep_K hf) (h s _ _ hs fun vs s₁ ds σ₁ h₁ hs₁ l₁ r₁ => ⟨hs₁.st.keep, h₁ vs s₁ _ _ hs₁ r₁ fun v s₂ d σ₂ hp hs₂ l₂ r₂ => q v s₂ d σ₂ hp hs₂ (l₁.trans l₂) r₂⟩))) hd)
theorem wp_blt {M : Model} {E : Value → Shared → Prop} {s : Shared} {x : Str} {v : Value} {Q : Value → Shared → Prop} (hs : Sok c s σ) (hk : env.scope.kind = .function) (hl : env.kindOf x = some .globalImplicit)
    (hg : env.globals = mainGlobals) (hb : env.builtins = builtinsNs) (e : nsIn c.K mainGlobals x = some none) (hx : x ≠ "__name__") (eb : bootBuiltins x = some v) (h : Q v s) : wpAny M A (loadName env x) Q E s := by
  have hbk : env.blockKind = .function := by unfold Env.blockKind; rw [hk]; rfl
  obtain ⟨mb, hn, hm⟩ := c.bn
  unfold loadName
  rw [hk, hbk, hl]
  unfold loadGlobal
  rw [hg, hb]
  refine wpAny_bind ((looks_nsIn hs.st.XK e).here (wpAny_bind (wpAny_nsGet (hn.keeps hs.st.keep) ?_)))
  rw [hm x hx, eb]
  exact wpAny_pure h
theorem e_callB {x : Str} {p pos : Pos} {args : List Expr} {fv : Value} {P : D → Sig → Prop} (e : nsIn c.K mainGlobals x = some none) (hx : x ≠ "__name__") (eb : bootBuiltins x = some fv) (hf : fv.onHeap = false)
    (hk : env.scope.kind = .function) (hl : env.kindOf x = some .globalImplicit) (hg : env.globals = mainGlobals) (hb : env.builtins = builtinsNs) (h : VS c A env σ pos args fun ds σ₁ => CL c A σ₁ fv ds P)
    (hp : plainStarts args = true := by rfl) (hd : (x == ("__debug__" : Str)) = false := by decide +kernel) : EV c A env σ (.Call (.Name x p) args [] pos) P := fun s Q E hs q =>
  wpAny_Call_NameR (wpAny_Name (wp_blt hs hk hl hg hb e hx eb (callW hp (keep_blt hf) (h s _ _ hs fun vs s₁ ds σ₁ h₁ hs₁ l₁ r₁ => ⟨hs₁.st.keep, h₁ vs s₁ _ _ hs₁ r₁ fun v s₂ d σ₂ hp hs₂ l₂ r₂ => q v s₂ d σ₂ hp hs₂ (l₁.trans l₂) r₂⟩))) hd)

-- a method's call
theorem e_meth {o : Expr} {name : Str} {apos pos : Pos} {args : List Expr} {P : D → Sig → Prop} (h : EV c A env σ o fun d σ₁ => MT c A env σ₁ d name pos args P)
    (hbase : attributeBase o name env (eval o env) = eval o env := by rfl) (hline : (apos.endLine == pos.line) = true := by rfl) (hp : plainStarts args = true := by rfl) (hn : decide (args.length < 30) = true := by rfl) :
    EV c A env σ (.Call (.Attribute o name apos) args [] pos) P := fun s Q E hs q => by
  rw [arm_eval_Call, hbase]
  refine wpAny_bind (h s _ _ hs fun v s₁ d σ₁ h₁ hs₁ l₁ r₁ => wpAny_bind (wpAny_standAt ?_))
  have hform : methodCallForm (args.length + ([] : List Keyword).length) (backTo pos (starEach args env)) (backToKw pos (keywordEach [] env)) = true := by
    have z : (backTo pos (starEach args env)).all (fun x => !x.1) = true := by
      rw [List.all_eq_true]
      intro x hx
      have := List.any_eq_false.mp (back_plain (env := env) (pos := pos) hp) x hx
      simpa using this
    have hn' := of_decide_eq_true hn
    unfold methodCallForm
    rw [z]
    simp [backToKw, keywordEach, hn']
  have hpos : methodCallPos true o env apos pos = pure pos := by unfold methodCallPos; simp [hline]
  unfold methodCall calleeOf
  rw [hform]
  refine wpAny_bind (wpAny_holding (wpAny_mono (h₁ v _ s₁ Q E hs₁ r₁ fun a s₂ b σ₂ hp hs₂ l₂ r₂ => q a s₂ b σ₂ hp hs₂ (l₁.trans l₂) r₂) (fun r s₂ h₂ => ?_) fun _ _ x => x))
  rw [hpos]
  exact wpAny_bind (wpAny_pure h₂)

-- instances
theorem look_ns {es : List DictEntry} {k : Nat} (hk : ∀ e ∈ es, ∃ x t, e.key = .str x t) (name : Str) : lookIn name (dictOf es k) = some (getS name es) := by
  rw [lookIn_dict]
  unfold getL getS
  cases q : es.find? (fun e => e.key.isStr name) with
  | some e => rfl
  | none =>
    have nr : es.any (·.refKey) = false := by
      rw [List.any_eq_false]
      intro e he
      obtain ⟨n, t, h⟩ := hk e he
      simp [DictEntry.refKey, h]
    dsimp only
    rw [nr]; rfl
theorem DR.handed {h : Heap} {v : Value} {d : D} (r : DR h v d) : handedIn v = true := by cases r <;> rfl
/-- what the class must be like for its instances' own attributes to be read -/
noncomputable def attrOk (K : Frag) (C : Addr) (name : Str) : Bool := plainGet K C name && hasDictIn K C && (findIn K (.ref C) name == some none)
theorem e_attr {o : Expr} {attr : Str} {pos : Pos} {P : D → Sig → Prop} (h : EV c A env σ o fun d σ₁ => GA c A σ₁ attr d P) (hbase : attributeBase o attr env (eval o env) = eval o env := by rfl) : EV c A env σ (.Attribute o attr pos) P := fun s Q E hs q => by
  rw [arm_eval_Attribute, hbase]
  refine wpAny_bind (h s _ _ hs fun v s₁ d σ₁ h₁ hs₁ l₁ r₁ => wpAny_bind (wpAny_standAt (wpAny_bind (wpAny_holding (h₁ v s₁ _ _ hs₁ r₁ fun w s₂ e σ₂ hp hs₂ l₂ r₂ => ?_)))))
  exact wpAny_bind (wpAny_letTemporaryGo (wpAny_pure (q _ _ _ _ hp hs₂ (l₁.trans l₂) r₂)))
theorem ga_inst {x C dx : Addr} {attr : Str} {d : D} {m : List (Str × Option D)} {k : Nat} {f f' : AO → Sig} {g g' : Sig} {P : D → Sig → Prop} (S : Sel σ x (.inst C dx) f g) (S' : Sel σ dx (.ns m k) f' g') (hm : (attr, some d) ∈ m)
    (hC : attrOk c.K C attr = true) (h : P d σ) : GA c A σ attr (.ref x) P := fun v s Q E hs r q => by
  cases r
  have hx := hs.st.at S
  obtain ⟨es, j, hod, -, hk, hf⟩ := hs.st.at S'
  obtain ⟨w, hw, rw'⟩ := hf.at hm
  have hl := look_ns (k := j) hk
  simp only [attrOk, Bool.and_eq_true, beq_iff_eq] at hC
  obtain ⟨⟨h1, h2⟩, h3⟩ := hC
  have I : InstAt s.heap x (instObj C dx) C (some (dictOf es j)) := ⟨hx, rfl, rfl, hod⟩
  exact get_value hs.st.XK I (plainGet_of h1).1 (findObj_own h2 h3 rfl (by rw [hl, hw])) rw'.handed (q _ _ _ _ h hs.tok (.refl _) rw')
noncomputable def methOk (K : Frag) (C : Addr) (name : Str) (f : Addr) : Bool := plainGet K C name && (findIn K (.ref C) name == some (some (.ref f))) && isFn K (.ref f) && keepIn K (.ref f)
theorem mt_inst {x C dx a : Addr} {name : Str} {pos : Pos} {args : List Expr} {m : List (Str × Option D)} {k : Nat} {f f' : AO → Sig} {g g' : Sig} {P : D → Sig → Prop} (S : Sel σ x (.inst C dx) f g) (S' : Sel σ dx (.ns m k) f' g')
    (hm : (m.map (·.1)).contains name = false) (hC : methOk c.K C name a = true) (h : VS c A env σ pos args fun ds σ₁ => CL c A σ₁ (.ref a) (.ref x :: ds) P) (hp : plainStarts args = true := by rfl) : MT c A env σ (.ref x) name pos args P :=
  fun v pl s Q E hs r q => by
  cases r
  have hx := hs.st.at S
  obtain ⟨es, j, hod, -, hk, hf⟩ := hs.st.at S'
  have hl := look_ns (k := j) hk
  have hno : getS name es = none := hf.2.2 name fun z => by rw [List.contains_iff_mem.mpr z] at hm; cases hm
  simp only [methOk, Bool.and_eq_true, beq_iff_eq] at hC
  obtain ⟨⟨⟨h1, h2⟩, h3⟩, h4⟩ := hC
  have I : InstAt s.heap x (instObj C dx) C (some (dictOf es j)) := ⟨hx, rfl, rfl, hod⟩
  refine method_fn hs.st.XK I (plainGet_of h1).1 (plainGet_of h1).2 h2 (beq_iff_eq.mp h3) (by show (lookIn name (dictOf es j)).map _ = _; rw [hl, hno]; rfl) ?_
  exact callW hp (keep_K h4) (h s _ _ hs fun vs s₁ ds σ₁ h₁ hs₁ l₁ r₁ => ⟨hs₁.st.keep, h₁ (.ref x :: vs) s₁ _ _ hs₁ (.cons (.ref _) r₁) fun v s₂ d σ₂ hp hs₂ l₂ r₂ => q v s₂ d σ₂ hp hs₂ (l₁.trans l₂) r₂⟩)
end
end
section

/-- how a def's frame ends -/
noncomputable def retP (P : D → Sig → Prop) (fl : Fl) (σ : Sig) : Prop := ∃ σ', σ'.Sublist σ ∧ P (match fl with | .ret d => d | _ => .none) σ'
theorem retP_ret {P : D → Sig → Prop} {d : D} {σ σ' : Sig} (k : σ'.Sublist σ) (h : P d σ') : retP P (.ret d) σ := ⟨σ', k, h⟩
theorem retP_next {P : D → Sig → Prop} {σ σ' : Sig} (k : σ'.Sublist σ) (h : P .none σ') : retP P .next σ := ⟨σ', k, h⟩
theorem mem_lookup {β : Type} : ∀ {l : List (Str × β)} {x : Str} {v : β}, (l.map (·.1)).Nodup → (x, v) ∈ l → l.lookup x = some v
  | (y, w) :: l, x, v, hn, hm => by
    rw [List.map_cons] at hn
    have hn' := List.nodup_cons.mp hn
    rw [List.lookup_cons]
    rcases List.mem_cons.mp hm with h | h
    · cases h; simp
    · have : x ≠ y := fun e => hn'.1 (List.mem_map.mpr ⟨(x, v), h, e⟩)
      have : (x == y) = false := by simpa using this
      simp only [this]
      exact mem_lookup hn'.2 h
theorem lookup_out {β : Type} : ∀ {l : List (Str × β)} {x : Str}, x ∉ l.map (·.1) → l.lookup x = none
  | [], _, _ => rfl
  | (y, w) :: l, x, h => by
    rw [List.map_cons, List.mem_cons, not_or] at h
    rw [List.lookup_cons]
    have : (x == y) = false := by simpa using h.1
    simp only [this]
    exact lookup_out h.2
theorem zip_keys {β : Type} : ∀ {names : List Str} {ws : List β}, names.length = ws.length → (names.zip ws).map (·.1) = names
  | [], [], _ => rfl
  | [], _ :: _, h => by cases h
  | _ :: _, [], h => by cases h
  | x :: names, w :: ws, h => by rw [List.zip_cons_cons, List.map_cons, zip_keys (by simpa using h)]
theorem zip_rel {h : Heap} : ∀ {names : List Str} {ws : List Value} {ds : List D}, DRs h ws ds → ∀ p ∈ names.zip (ds.map some), ∃ v d, p.2 = some d ∧ (p.1, v) ∈ names.zip ws ∧ DR h v d
  | [], _, _, _, p, hp => by simp at hp
  | x :: names, _, _, .nil, p, hp => by simp at hp
  | x :: names, _, _, .cons (v := v) (d := d) a r, p, hp => by
    rw [List.map_cons, List.zip_cons_cons] at hp
    rcases List.mem_cons.mp hp with rfl | hp
    · exact ⟨v, d, rfl, .head _, a⟩
    · obtain ⟨v', d', h1, h2, h3⟩ := zip_rel r p hp
      exact ⟨v', d', h1, .tail _ h2, h3⟩
theorem frame_start {h : Heap} {names rest : List Str} {ws : List Value} {ds : List D} (r : DRs h ws ds) (hl : names.length = ds.length) (hn : (names ++ rest).Nodup) :
    FR h (fun x => (names.zip ws).reverse.lookup x) (names.zip (ds.map some) ++ rest.map fun x => (x, none)) := by
  have hw : names.length = ws.length := by rw [hl, r.length]
  have kz : ((names.zip ws).map (·.1)) = names := zip_keys hw
  have kd : ((names.zip (ds.map some)).map (·.1)) = names := zip_keys (by simpa using hl)
  have nn := List.nodup_append.mp hn
  have kr : ((names.zip ws).reverse.map (·.1)).Nodup := by rw [List.map_reverse, kz]; exact List.pairwise_reverse.mpr (nn.1.imp fun e => e.symm)
  have km : (names.zip (ds.map some) ++ rest.map fun x => (x, (none : Option D))).map (·.1) = names ++ rest := by
    rw [List.map_append, kd, List.map_map]; congr 1; exact List.map_id rest
  refine ⟨by rw [km]; exact hn, fun p hp => ?_, fun x hx => ?_⟩
  · rcases List.mem_append.mp hp with hp | hp
    · obtain ⟨v, d, h1, h2, h3⟩ := zip_rel r p hp
      rw [h1]
      dsimp only
      rw [mem_lookup kr (List.mem_reverse.mpr h2)]
      exact .some h3
    · obtain ⟨x, hx, rfl⟩ := List.mem_map.mp hp
      dsimp only
      rw [lookup_out (by rw [List.map_reverse, kz, List.mem_reverse]; exact fun z => nn.2.2 _ z _ hx rfl)]
      exact .none
  · rw [km, List.mem_append, not_or] at hx
    exact lookup_out (by rw [List.map_reverse, kz, List.mem_reverse]; exact hx.1)
theorem frame_none {h : Heap} {names : List Str} (hn : names.Nodup) : FR h (fun _ => none) (names.map fun x => (x, none)) := by
  have km : (names.map fun x => (x, (none : Option D))).map (·.1) = names := by rw [List.map_map]; exact List.map_id names
  refine ⟨by rw [km]; exact hn, fun p hp => ?_, fun x hx => rfl⟩
  obtain ⟨x, hx, rfl⟩ := List.mem_map.mp hp
  exact .none

/-- f is called, as code -/
noncomputable def CC (c : Cx) (A : Around) (σ : Sig) (f : Value) (ds : List D) (P : D → Sig → Prop) : Prop :=
  ∀ (vs : List Value) (s : Shared) (R : Result → Shared → Prop), Sok c s σ → DRs s.heap vs ds →
    (∀ v s' d σ', P d σ' → Sok c s' σ' → Le s.heap s'.heap → DR s'.heap v d → R (.ok (.ret v)) s') → codeAny (model c.prog c.w) A (.call f ⟨vs, []⟩) R s
theorem CC.cl {c : Cx} {A : Around} {σ : Sig} {f : Value} {ds : List D} {P : D → Sig → Prop} (h : CC c A σ f ds P) : CL c A σ f ds P := fun vs s Q E hs r q => wpAny_call (h vs s _ hs r q)
theorem CC.mono {c : Cx} {A : Around} {σ : Sig} {f : Value} {ds : List D} {P P' : D → Sig → Prop} (h : CC c A σ f ds P) (k : ∀ b σ', P b σ' → P' b σ') : CC c A σ f ds P' :=
  fun vs s R hs hd q => h vs s R hs hd fun a s' b σ' hp => q a s' b σ' (k b σ' hp)

section
variable {c : Cx} {A : Around} {env : Env} {σ : Sig}
theorem cc_def {n : Nat} {f : Addr} {name qual : Str} {params : Arguments} {body : List Stmt} {scope : Scope} {dV kV doc pm cdv ct oc : Value} {an od : Option Addr} {osl : Array (Option Value)} {ds ds' : List D} {names rest : List Str}
    {m : List (Str × Option D)} {P : D → Sig → Prop} (ho : c.K.lookup f = some ⟨oc, od, .func (fnOf name qual params body scope dV kV doc pm an cdv ct), osl⟩) (hcd : codeIn c.K cdv qual = true) (hr : Rm A (n + 1))
    (hbind : ∀ (s : Shared) (vs : List Value), c.K.In s.heap → DRs s.heap vs ds → ∃ ws, BindsTo s (fnOf name qual params body scope dV kV doc pm an cdv ct) ⟨vs, []⟩ (names.zip ws) ∧ DRs s.heap ws ds')
    (hl : names.length = ds'.length) (hn : (names ++ rest).Nodup) (hloc : (names.all fun y => scope.names.lookup y == some .local) = true) (hcell : (scope.names.all fun x => x.2 != .cell) = true)
    (hm : m = names.zip (ds'.map some) ++ rest.map fun x => (x, none))
    (h : ∀ L A', A' = A.deeper (envOf qual scope L f cdv) → Rm A' n → XS c A' (envOf qual scope L f cdv) ((L, .fr m) :: σ) body (retP P))
    (hco : scope.isCoroutine = false := by rfl) (hgen : scope.isGenerator = false := by rfl) (hk : scope.kind = .function := by rfl) : CC c A σ (.ref f) ds P := fun vs s R hs r q => by
  obtain ⟨ws, hb, rw'⟩ := hbind s vs hs.st.XK r
  refine (codeAny_call_def (fd := fnOf name qual params body scope dV kV doc pm an cdv ct) (body := body) (by have := hr.d; omega) (hs.st.XK _ _ ho) rfl (c.nl.keeps hs.st.keep) (codeRec_of hs.st.XK hcd) rfl hb
    (fun x hx => by have := List.all_eq_true.mp hcell x hx; simpa using this) (fun y hy => ?_) (fun h₁ hns hk₁ => ?_) hco hgen hk)
  · obtain ⟨a, b⟩ := y
    have := List.all_eq_true.mp hloc a (List.of_mem_zip hy).1
    exact beq_iff_eq.mp this
  · have le : Le s.heap h₁ := .keeps hk₁
    have st : St c h₁ ((s.heap.objs.size, .fr m) :: σ) := hs.st.new hk₁ (Nat.le_refl _) ⟨_, hns, by rw [hm]; exact frame_start (rw'.mono le) hl hn⟩
    refine h s.heap.objs.size _ rfl (hr.deeper _) _ _ _ (hs.mk' st) fun fl s' b σ' hp hs' l' r' => ?_
    obtain ⟨σ'', k, hp⟩ := hp
    cases r' with
    | next => exact q _ _ _ _ hp ⟨hs'.st.sub k, hs'.gens, hs'.os⟩ (le.trans l') .none
    | brk => exact q _ _ _ _ hp ⟨hs'.st.sub k, hs'.gens, hs'.os⟩ (le.trans l') .none
    | cont => exact q _ _ _ _ hp ⟨hs'.st.sub k, hs'.gens, hs'.os⟩ (le.trans l') .none
    | ret r => exact q _ _ _ _ hp ⟨hs'.st.sub k, hs'.gens, hs'.os⟩ (le.trans l') r

theorem Rm.creation {n : Nat} (hr : Rm A (n + 1)) (C : Addr) (rest : List Value) : Rm (A.under (.builtin "type.__call__" ⟨.ref C :: rest, []⟩)) n := by
  have hw : (Code.builtin "type.__call__" ⟨.ref C :: rest, []⟩).weight = 1 := by kernel_rfl
  have hu : (Code.builtin "type.__call__" ⟨.ref C :: rest, []⟩).cUnits = 1 := by kernel_rfl
  refine ⟨hr.h, ?_, ?_⟩
  · have := hr.d
    show A.depth + (Code.builtin "type.__call__" ⟨.ref C :: rest, []⟩).weight + n + 1 < _
    omega
  · have := hr.u
    show A.units + (Code.builtin "type.__call__" ⟨.ref C :: rest, []⟩).cUnits + 8 * n + 100 < _
    omega
theorem cc_cls {n : Nat} {C fI : Addr} {ds : List D} {names : List Str} {m : List (Str × Option D)} {P : D → Sig → Prop} (hm : makesIn c.K C = true) (hi : findIn c.K (.ref C) "__init__" = some (some (.ref fI))) (hf : isFn c.K (.ref fI) = true) (hr : Rm A (n + 1))
    (hnd : names.Nodup) (hm' : m = names.map fun x => (x, none))
    (h : ∀ x dx A', Rm A' n → CC c A' ((x, .inst C dx) :: (dx, .ns m 0) :: σ) (.ref fI) (.ref x :: ds) fun d σ' => d = .none ∧ P (.ref x) σ') : CC c A σ (.ref C) ds P := fun vs s R hs r q => by
  obtain ⟨hh, g, dr, t, os⟩ := s
  have k1 : ∀ b o, hh.get? b = some o → (hh.push emptyDict).get? b = some o := fun _ _ e => Heap.get?_push_of_some _ e
  have st1 : St c (hh.push emptyDict) ((hh.objs.size, .ns m 0) :: σ) := hs.st.new k1 (Nat.le_refl _) ⟨[], 0, Heap.get?_push_size _ rfl, Nat.le_refl _, (fun _ he => nomatch he), by rw [hm']; exact frame_none hnd⟩
  have k2 : ∀ b o, (hh.push emptyDict).get? b = some o → ((hh.push emptyDict).push (instObj C hh.objs.size)).get? b = some o := fun _ _ e => Heap.get?_push_of_some _ e
  have st2 : St c ((hh.push emptyDict).push (instObj C hh.objs.size)) ((hh.objs.size + 1, .inst C hh.objs.size) :: (hh.objs.size, .ns m 0) :: σ) :=
    st1.new k2 (by rw [Heap.size_push]; exact Nat.le_refl _) (by have := Heap.get?_push_size (hh.push emptyDict) (o := instObj C hh.objs.size) rfl; rw [Heap.size_push] at this; exact this)
  have le : Le hh ((hh.push emptyDict).push (instObj C hh.objs.size)) := (Le.keeps k1).trans (.keeps k2)
  refine make_core (makes_of hs.st.XK hm) (looks_findIn hs.st.XK hi) (fun self => bind_fn hs.st.XK self (beq_iff_eq.mp hf)) (.inl rfl) ?_
  refine h (hh.objs.size + 1) hh.objs.size _ (hr.creation C vs) (.ref (hh.objs.size + 1) :: vs) ⟨(hh.push emptyDict).push (instObj C hh.objs.size), g, dr, t, os⟩ _ ⟨st2, hs.gens, hs.os⟩ (.cons (.ref _) (r.mono le)) fun v s' d σ' hp hs' l' r' => ?_
  obtain ⟨rfl, hp⟩ := hp
  cases r'
  exact ⟨rfl, q _ _ _ _ hp hs' (le.trans l') (.ref _)⟩

-- an attribute is stored
theorem putL_len (name : Str) (hsh : Int) (key v : Value) : ∀ es : List DictEntry, (putL name hsh key v es).length ≤ es.length + 1
  | [] => Nat.le_refl _
  | e :: r => by
    unfold putL
    split
    · simp
    · have := putL_len name hsh key v r; simp only [List.length_cons]; omega
theorem putL_keys {name : Str} {hsh : Int} {t : Tok} {v : Value} : ∀ {es : List DictEntry}, (∀ e ∈ es, ∃ x t, e.key = .str x t) → ∀ e ∈ putL name hsh (.str name t) v es, ∃ x t, e.key = .str x t
  | [], _, e, he => by
    rcases List.mem_cons.mp he with rfl | he
    · exact ⟨name, t, rfl⟩
    · cases he
  | e' :: r, h, e, he => by
    unfold putL at he
    split at he
    · rcases List.mem_cons.mp he with rfl | he
      · exact h e' (.head _)
      · exact h e (.tail _ he)
    · rcases List.mem_cons.mp he with rfl | he
      · exact h _ (.head _)
      · exact putL_keys (fun x hx => h x (.tail _ hx)) e he
theorem getS_putL (name : Str) (hsh : Int) (t : Tok) (v : Value) (y : Str) : ∀ es : List DictEntry, getS y (putL name hsh (.str name t) v es) = if y = name then some v else getS y es
  | [] => by
    unfold putL getS
    rw [List.find?_cons]
    by_cases h : y = name
    · subst h; simp [Value.isStr]
    · have : (Value.str name t).isStr y = false := by simpa [Value.isStr] using Ne.symm h
      simp [this, h]
  | e :: r => by
    have ih := getS_putL name hsh t v y r
    unfold putL
    by_cases h : e.key.isStr name = true
    · rw [if_pos h]
      unfold getS
      rw [List.find?_cons, List.find?_cons]
      by_cases q : y = name
      · subst q; simp [h]
      · have : e.key.isStr y = false := by
          cases z : e.key.isStr y with
          | false => rfl
          | true => exact absurd (Value.isStr_inj _ _ _ z h) q
        simp [this, q]
    · rw [if_neg h]
      unfold getS at ih ⊢
      rw [List.find?_cons, List.find?_cons]
      cases z : e.key.isStr y with
      | true =>
        have : y ≠ name := fun q => h (q ▸ z)
        simp [this]
      | false => simpa using ih
noncomputable def putOk (K : Frag) (C : Addr) (name : Str) : Bool := (findIn K (.ref C) "__setattr__" == some (some (.builtin "object.__setattr__"))) && plainOver K C && (takerIn K C name == some none) && hasDictIn K C
theorem a_attr {o : Expr} {attr : Str} {d : D} {pos : Pos} {P : Sig → Prop} (h : EV c A env σ o fun d₁ σ₁ => PA c A σ₁ d₁ attr d P) : AS c A env σ (.Attribute o attr pos) d P := fun v s Q E hs r q => by
  rw [arm_assign_Attribute]
  refine wpAny_bind (wpAny_holding (h s _ _ hs fun a s₁ d₁ σ₁ h₁ hs₁ l₁ r₁ => wpAny_bind (wpAny_standAt (wpAny_bind (wpAny_holding ?_)))))
  exact h₁ a v s₁ _ _ hs₁ r₁ (r.mono l₁) fun s₂ σ₂ hp hs₂ l₂ => wpAny_release (q s₂ σ₂ hp hs₂ (l₁.trans l₂))
theorem pa_inst {x C dx : Addr} {attr : Str} {d : D} {m m' : List (Str × Option D)} {k : Nat} {f f' : AO → Sig} {g g' : Sig} {P : Sig → Prop} (S : Sel σ x (.inst C dx) f g) (S' : Sel σ dx (.ns m k) f' g') (U : UpdM m attr (some d) m')
    (hC : putOk c.K C attr = true) (hz : k < 1000) (h : P (f' (.ns m' (k + 1)))) : PA c A σ (.ref x) attr d P := fun ov v s Q E hs r r' q => by
  cases r
  have hx := hs.st.at S
  obtain ⟨es, j, hod, hle, hk, hf⟩ := hs.st.at S'
  have hl := look_ns (k := j) hk
  simp only [putOk, Bool.and_eq_true, beq_iff_eq] at hC
  obtain ⟨⟨⟨h1, h2⟩, h3⟩, h4⟩ := hC
  have I : InstAt s.heap x (instObj C dx) C (some (dictOf es j)) := ⟨hx, rfl, rfl, hod⟩
  obtain ⟨cd, hc, hd'⟩ := any_some h4
  refine set_plain hs.st.XK I h1 (osa_open (s := { s with toks := s.toks + 1 }) hs.st.XK I h2 h3 fun b => ?_)
  refine wpAny_bind (wpAny_pure (wpAny_bind (wpAny_bind (wpAny_loadPart hx (wpAny_bind (looks_clsIn hs.st.XK hc _ _ _ _ (fun _ _ e => e) ?_))))))
  rw [hd']
  refine wpAny_pure (a := some dx) (wpAny_bind (wpAny_pure (wpAny_bind ?_)))
  unfold nsSet
  refine wpAny_bind (wpAny_bind (wpAny_askSetting (wpAny_pure (wpAny_bind (wpAny_mkText (wpAny_bind (wpAny_loadPart hod ?_)))))))
  have nr : es.toArray.any (·.refKey) = false := by
    rw [← Array.any_toList, List.any_eq_false]
    intro e he
    obtain ⟨n, t, h⟩ := hk e he
    simp [DictEntry.refKey, h]
  dsimp only
  rw [aRefKeyMayBeTheName_at, nr, Bool.and_false]
  refine wpAny_updatePart hod ?_
  have pd := putName_dict attr (PyData.keyHash c.w.params attr) (.str attr (s.toks + 1)) v es j
  have e := Heap.SameBut.update s.heap dx (Obj.putName attr (PyData.keyHash c.w.params attr) (.str attr (s.toks + 1)) v)
  have l := hs.st.le S' e.extBut
  have ge : (s.heap.update dx (Obj.putName attr (PyData.keyHash c.w.params attr) (.str attr (s.toks + 1)) v)).get? dx = some (dictOf (putL attr (PyData.keyHash c.w.params attr) (.str attr (s.toks + 1)) v es) (putN attr es j)) := by
    rw [← pd]; exact Heap.get?_update_self _ hod (by rw [pd]; rfl)
  have len := putL_len attr (PyData.keyHash c.w.params attr) (.str attr (s.toks + 1)) v es
  refine wpAny_bind (wpAny_lookBehind ge (pastItsLine_dict (by rw [List.size_toArray, sizeLine_eq]; omega)) (wpAny_pure ?_))
  refine q _ _ h (hs.mk' (hs.st.same S' e ⟨_, _, ge, by omega, putL_keys hk, ?_⟩)) l
  have := (hf.mono l).upd U (.some (r'.mono l))
  have eq : (fun y => getS y (putL attr (PyData.keyHash c.w.params attr) (.str attr (s.toks + 1)) v es)) = fun y => if y = attr then some v else getS y es := by
    funext y; exact getS_putL attr _ _ v y es
  rw [eq]; exact this
end
end
section

section
variable {c : Cx} {A : Around} {env : Env} {σ : Sig}

theorem KV.keys {h : Heap} {κ : Type} {vk : List (κ × Value)} {kvs : List (κ × D)} (r : KV h vk kvs) : vk.map (·.1) = kvs.map (·.1) := by
  induction r with
  | nil => rfl
  | cons _ _ ih => rw [List.map_cons, List.map_cons, ih]
-- built-ins
theorem cl_len {l : Addr} {ds : List D} {f : AO → Sig} {g : Sig} {P : D → Sig → Prop} (S : Sel σ l (.list ds) f g) (hf : ds.length < 2 ^ 62) (h : P (.int ds.length) σ) : CL c A σ (.builtin "len") [.ref l] P := fun vs s Q E hs r q => by
  cases r with
  | cons a r =>
    cases r
    cases a
    obtain ⟨vs, n, hl, r⟩ := hs.st.at S
    have z := r.length
    refine call_len_list (items := List.toArray vs) ⟨_, hl, rfl, n, rfl⟩ (by rw [List.size_toArray]; omega) ?_
    rw [List.size_toArray, z]
    exact q _ _ _ _ h hs.tok (.refl _) (.int _ _)
theorem cl_lenT {ds : List D} {P : D → Sig → Prop} (hf : ds.length < 2 ^ 62) (h : P (.int ds.length) σ) : CL c A σ (.builtin "len") [.tup ds] P := fun vs s Q E hs r q => by
  cases r with
  | cons a r =>
    cases r
    cases a with
    | @tup t ws n _ ht rs =>
      have z := rs.length
      refine len_tuple (items := List.toArray ws) ⟨_, ht, rfl, n, rfl⟩ (by rw [List.size_toArray]; omega) ?_
      rw [List.size_toArray, z]
      exact q _ _ _ _ h hs.tok (.refl _) (.int _ _)
theorem cl_range {n : Int} {P : D → Sig → Prop} (h : ∀ a, P (.ref a) ((a, .rng 0 n 1) :: σ)) : CL c A σ (.type "range") [.int n] P := fun vs s Q E hs r q => by
  cases r with
  | cons a r =>
    cases r
    cases a
    exact call_range_1 (q _ _ _ _ (h _) (hs.mk' (hs.st.new (fun _ _ e => Heap.get?_push_of_some _ e) (Nat.le_refl _) ⟨_, _, _, Heap.get?_push_size _ rfl⟩)) (.push _ _) (.ref _))
theorem cl_set {P : D → Sig → Prop} (h : ∀ a, P (.ref a) ((a, .iset []) :: σ)) : CL c A σ (.type "set") [] P := fun vs s Q E hs r q => by
  cases r
  refine call_set_0 fun led => q _ _ _ _ (h _) (hs.heap (hs.st.new (fun _ _ e => Heap.get?_push_of_some _ e) (Nat.le_refl _) ?_)) (.push _ _) (.ref _)
  refine ⟨fun _ => false, 0, ⟨_, #[], 0, _, Heap.get?_push_size _ rfl, ⟨rfl, rfl, rfl⟩, rfl, fun e he => (nomatch he), fun k => ⟨fun e => (nomatch e), fun ⟨e, he, _⟩ => (nomatch he)⟩, by decide, ?_, rfl⟩, Nat.le_refl _, fun k => ⟨fun e => (nomatch e), fun e => (nomatch e)⟩⟩
  cases led <;> rfl
theorem cl_tuple {l : Addr} {ds : List D} {f : AO → Sig} {g : Sig} {P : D → Sig → Prop} (S : Sel σ l (.list ds) f g) (hf : ds.length ≤ sizeLine) (h : P (.tup ds) σ) : CL c A σ (.type "tuple") [.ref l] P := fun vs s Q E hs r q => by
  cases r with
  | cons a r =>
    cases r
    cases a
    obtain ⟨vs, n, hl, r⟩ := hs.st.at S
    refine call_tuple_list (items := List.toArray vs) ⟨_, hl, rfl, n, rfl⟩ (fun h' hk => ?_) (by rw [List.size_toArray, r.length]; exact hf)
    have hk' : ∀ b o, s.heap.get? b = some o → (h'.push { cls := .type "tuple", data := .seq (List.toArray vs) }).get? b = some o := fun b o e => Heap.get?_push_of_some _ (hk b o e)
    exact q _ _ _ _ h (hs.heap (hs.st.keeps hk')) (.keeps hk') (.tup (Heap.get?_push_size _ rfl) (r.mono (.keeps hk')))
theorem cl_listD {n : Nat} {d : Addr} {kvs : List (Int × D)} {f : AO → Sig} {g : Sig} {P : D → Sig → Prop} (hr : Rm A n) (S : Sel σ d (.idict kvs) f g) (hf : kvs.length ≤ sizeLine) (h : ∀ a, P (.ref a) ((a, .list (im (kvs.map (·.1)))) :: σ)) :
    CL c A σ (.type "list") [.ref d] P := fun vs s Q E hs r q => by
  cases r with
  | cons a r =>
    cases r
    cases a
    obtain ⟨vk, hd, r⟩ := hs.st.at S
    obtain ⟨ep, hat⟩ := hd.dictAt
    refine kdl_call (kdl_dict (knd := intKind c.prog c.w) (kvs := vk) (ep := ep) (hs.st.notSys S)) hr.h hat (by rw [r.length]; exact hf) fun h' tk acc c' hk hD hacc => ?_
    obtain ⟨acc⟩ := acc
    refine q _ _ _ _ (h _) (hs.mk' (hs.st.new hk (Nat.le_refl _) ⟨acc, c', hD, ?_⟩)) (.keeps hk) (.ref _)
    rw [← r.keys]
    have key : ∀ (l : List (Int × Value)) (ac : List Value), ac.length = l.length → (∀ (j : Nat) (v : Value), ac[j]? = some v → ∃ (k : Int) (x : Value), l[j]? = some (k, x) ∧ (intKind c.prog c.w).is k v = true) → DRs h' ac (im (l.map (·.1))) := by
      intro l
      induction l with
      | nil => intro ac hl _; cases ac with | nil => exact .nil | cons _ _ => cases hl
      | cons p l ih =>
        intro ac hl ha
        cases ac with
        | nil => cases hl
        | cons v ac =>
          obtain ⟨k, x, h1, h2⟩ := ha 0 v rfl
          simp only [List.getElem?_cons_zero, Option.some.injEq] at h1
          subst h1
          obtain ⟨t, rfl⟩ := Value.isInt_shape h2
          exact .cons (.int _ _) (ih ac (by simpa using hl) fun j v hv => by simpa using ha (j + 1) v (by simpa using hv))
    exact key vk acc (by simpa using hacc.1) fun j v hv => hacc.2 j v (by simpa using hv)

-- lists
theorem no_dict_list {h : Heap} {l : Addr} {vs : List Value} {n : Nat} (hl : h.get? l = some (listOf (List.toArray vs) n)) : ∀ a, Value.ref l = .ref a → ∃ o, h.get? a = some o ∧ o.dict = none := fun a e => by cases e; exact ⟨_, hl, rfl⟩
theorem mt_append {l : Addr} {ds : List D} {e : Expr} {f : AO → Sig} {g : Sig} {pos : Pos} {P : D → Sig → Prop} (S : Sel σ l (.list ds) f g)
    (h : EV c A env σ e fun d σ₁ => ∃ ds f g, Sel σ₁ l (.list ds) f g ∧ ds.length ≤ sizeLine ∧ P .none (f (.list (ds ++ [d])))) (hp : plainStarts [e] = true := by rfl) : MT c A env σ (.ref l) "append" pos [e] P := fun v pl s Q E hs r q => by
  cases r
  obtain ⟨vs, n, hl, r⟩ := hs.st.at S
  refine getMethod_builtin (T := "list") ⟨_, hl, rfl⟩ PySem.F.plainAttrs_list PySem.F.slot_list_append PySem.F.type_list_append (no_dict_list hl) ?_
  rw [show backTo pos (starEach [e] env) = [(false, eval e env)] from by rw [starEach_plain _ hp]; rfl]
  refine PySem.P.append_list (h s _ _ hs fun a s₁ d σ₁ h₁ hs₁ l₁ r₁ => ?_)
  obtain ⟨ds', f', g', S', hz, hp'⟩ := h₁
  obtain ⟨ws, m, hw, r'⟩ := hs₁.st.at S'
  have e' := Heap.SameBut.update s₁.heap l (Obj.mapSeq fun xs => xs.push a)
  have le := hs₁.st.le S' e'.extBut
  have ge := IsL.update hw (fun xs => xs.push a)
  rw [show (List.toArray ws).push a = List.toArray (ws ++ [a]) from List.push_toArray ..] at ge
  exact ⟨List.toArray ws, m, by rw [List.size_toArray, r'.length]; exact hz, hw, q _ _ _ _ hp' (hs₁.heap (hs₁.st.same S' e' ⟨ws ++ [a], _, ge, (r'.mono le).snoc (r₁.mono le)⟩)) (l₁.trans le) .none⟩
theorem mt_pop {l : Addr} {ds : List D} {d : D} {f : AO → Sig} {g : Sig} {pos : Pos} {P : D → Sig → Prop} (S : Sel σ l (.list ds) f g) (hd : ds.getLast? = some d) (hz : ds.length ≤ sizeLine)
    (h : P d (f (.list ds.dropLast))) : MT c A env σ (.ref l) "pop" pos [] P := fun v pl s Q E hs r q => by
  cases r
  obtain ⟨vs, n, hl, r⟩ := hs.st.at S
  refine getMethod_builtin (T := "list") ⟨_, hl, rfl⟩ PySem.F.plainAttrs_list PySem.F.slot_list_pop PySem.F.type_list_pop (no_dict_list hl) ?_
  rw [List.getLast?_eq_getElem?] at hd
  obtain ⟨x, hx, rx⟩ := r.get hd
  have e' := Heap.SameBut.update s.heap l (Obj.mapSeq fun xs => xs.eraseIdxIfInBounds ((List.toArray vs).size - 1))
  have le := hs.st.le S e'.extBut
  have ge := IsL.update hl (fun xs => xs.eraseIdxIfInBounds ((List.toArray vs).size - 1))
  have k : (List.toArray vs).eraseIdxIfInBounds ((List.toArray vs).size - 1) = List.toArray vs.dropLast := by
    rw [List.size_toArray, List.eraseIdxIfInBounds_toArray, List.eraseIdx_length_sub_one]
  rw [k] at ge
  exact PySem.P.pop_list (items := List.toArray vs) (y := x) hl (by rw [← r.length] at hx; simpa using hx) (q _ _ _ _ h (hs.heap (hs.st.same S e' ⟨vs.dropLast, _, ge, (r.mono le).dropLast⟩)) le (rx.mono le)) (by rw [List.size_toArray, r.length]; exact hz)
theorem mt_reverse {l : Addr} {ds : List D} {f : AO → Sig} {g : Sig} {pos : Pos} {P : D → Sig → Prop} (S : Sel σ l (.list ds) f g) (hz : ds.length ≤ sizeLine)
    (h : P .none (f (.list ds.reverse))) : MT c A env σ (.ref l) "reverse" pos [] P := fun v pl s Q E hs r q => by
  cases r
  obtain ⟨vs, n, hl, r⟩ := hs.st.at S
  refine getMethod_builtin (T := "list") ⟨_, hl, rfl⟩ PySem.F.plainAttrs_list PySem.F.slot_list_reverse PySem.F.type_list_reverse (no_dict_list hl) ?_
  have e' := Heap.SameBut.update s.heap l (Obj.mapSeq fun xs => xs.reverse)
  have le := hs.st.le S e'.extBut
  have ge := IsL.update hl (fun xs => xs.reverse)
  rw [show (List.toArray vs).reverse = List.toArray vs.reverse from List.reverse_toArray ..] at ge
  exact PySem.P.reverse_list (items := List.toArray vs) hl (q _ _ _ _ h (hs.heap (hs.st.same S e' ⟨vs.reverse, _, ge, (r.mono le).rev⟩)) le .none) (by rw [List.size_toArray, r.length]; exact hz)
theorem o_addl {a b : Addr} {xs ys : List D} {f f' : AO → Sig} {g g' : Sig} {P : D → Sig → Prop} (S : Sel σ a (.list xs) f g) (S' : Sel σ b (.list ys) f' g') (hz : xs.length + ys.length ≤ sizeLine)
    (h : ∀ r, P (.ref r) ((r, .list (xs ++ ys)) :: σ)) : OP2 DR c A σ (binaryOp .Add) (.ref a) (.ref b) P := fun v w s Q E hs r r' q => by
  cases r; cases r'
  obtain ⟨vs, n, hl, r⟩ := hs.st.at S
  obtain ⟨ws, m, hk, r'⟩ := hs.st.at S'
  refine PySem.P.add_list (items := List.toArray vs) (items2 := List.toArray ws) hl hk (q _ _ _ _ (h _) (hs.heap (hs.st.new (fun _ _ e => Heap.get?_push_of_some _ e) (Nat.le_refl _) ⟨vs ++ ws, 0, ?_, (r.append r').mono (.push _ _)⟩)) (.push _ _) (.ref _))
    (by rw [List.size_toArray, List.size_toArray, r.length, r'.length]; exact hz)
  rw [List.append_toArray]
  exact Heap.get?_push_size _ rfl
theorem DRs.rep {h : Heap} {vs : List Value} {ds : List D} (r : DRs h vs ds) : ∀ k, DRs h (List.replicate k vs).flatten (List.replicate k ds).flatten
  | 0 => .nil
  | k + 1 => by rw [List.replicate_succ, List.replicate_succ, List.flatten_cons, List.flatten_cons]; exact r.append (r.rep k)
theorem fold_rep (vs : List Value) : ∀ (k : Nat) (a : List Value), List.foldl (fun x1 x2 => x1 ++ x2) (List.toArray a) (List.replicate k (List.toArray vs)) = List.toArray (a ++ (List.replicate k vs).flatten)
  | 0, a => by simp
  | k + 1, a => by rw [List.replicate_succ, List.foldl_cons, List.append_toArray, fold_rep vs k, List.replicate_succ, List.flatten_cons, List.append_assoc]
theorem o_mull {a : Addr} {xs : List D} {x : Int} {f : AO → Sig} {g : Sig} {P : D → Sig → Prop} (S : Sel σ a (.list xs) f g) (hlo : 0 ≤ x) (hne : xs ≠ []) (hz : xs.length * x.toNat ≤ 2 ^ 24) (hx : x < 2 ^ 62)
    (h : ∀ r, P (.ref r) ((r, .list (List.replicate x.toNat xs).flatten) :: σ)) : OP2 DR c A σ (binaryOp .Mult) (.ref a) (.int x) P := fun v w s Q E hs r r' q => by
  cases r
  cases r' with
  | int _ u =>
  obtain ⟨vs, n, hl, r⟩ := hs.st.at S
  have z := r.length
  have nv : (List.toArray vs).isEmpty = false := by
    cases vs with
    | nil => cases r; exact absurd rfl hne
    | cons _ _ => rfl
  refine wpAny_binaryOp_repeat_ref (T := "list") (U := "int") (by decide) ⟨_, hl, rfl⟩ (fun s' => typeIs_int s' x u) noFill_list_mul PySem.F.fills_int_mul PySem.F.slot_int_rmul repeat_list PySem.F.slot_int_index.lookup
    (call_meets PySem.F.slot_int_rmul (typeIs_int s x u) PySem.F.entry_int_rmul (PySem.F.args_int_rmul_2 _ _) (int___rmul___int_list x u a (List.toArray vs) n)
      ⟨hl, rfl, ⟨_, hl, rfl⟩, call_meets PySem.F.slot_list_mul ⟨_, hl, rfl⟩ PySem.F.entry_list_mul (PySem.F.args_list_mul_2 _ _)
        (AutoListH.list___mul___list_int_3 a (List.toArray vs) n x u (by simp [Builtin.List.listFitsIndex]; omega) (by rw [List.size_toArray, z]; omega) (by rw [List.size_toArray, z]; simp [Builtin.List.listTooLong, sizeLine]; omega))
        ⟨hl, ?_⟩⟩)
  rw [nv, if_neg Bool.false_ne_true, show (#[] : Array Value) = List.toArray [] from rfl, fold_rep]
  exact q _ _ _ _ (h _) (hs.heap (hs.st.new (fun _ _ e => Heap.get?_push_of_some _ e) (Nat.le_refl _) ⟨_, 0, Heap.get?_push_size _ rfl, ((r.rep _).mono (.push _ _))⟩)) (.push _ _) (.ref _)
end
end
section

inductive PR (h : Heap) : List (Value × Value) → List (Int × D) → Prop
  | nil : PR h [] []
  | cons {i : Int} {t : Tok} {v : Value} {d : D} {vs : List (Value × Value)} {ds : List (Int × D)} : DR h v d → PR h vs ds → PR h ((.int i t, v) :: vs) ((i, d) :: ds)
noncomputable def VP (c : Cx) (A : Around) (env : Env) (σ : Sig) (pos : Pos) (ks : List (Option Expr)) (es : List Expr) (P : List (Int × D) → Sig → Prop) : Prop := TT c A PR σ (evalPairs (pairTrees ks es env pos)) P
noncomputable def kMerge (kvs : List (Int × D)) : List (Int × D) := kvs.foldl (fun acc kv => kPut acc kv.1 kv.2) []

theorem KH.at {h : Heap} {vk : List (List Int × Addr × Value)} {kvs : List (List Int × D)} (r : KH h vk kvs) (k : List Int) : OR h ((atKey vk k).map (·.2)) (kAt kvs k) := by
  induction r with
  | nil => exact .none
  | @cons k' a v d vs ds b r ih =>
    unfold atKey kAt at *
    rw [List.find?_cons, List.find?_cons]
    by_cases e : k' = k
    · simp only [e, decide_true, Option.map_some]; exact .some b
    · simp only [e, decide_false]; exact ih
theorem KH.has {h : Heap} {vk : List (List Int × Addr × Value)} {kvs : List (List Int × D)} (r : KH h vk kvs) (k : List Int) : (atKey vk k).isSome = kvs.any (fun kv => kv.1 = k) := by
  induction r with
  | nil => rfl
  | @cons k' a v d vs ds b r ih =>
    unfold atKey at *
    rw [List.find?_cons, List.any_cons]
    by_cases e : k' = k
    · simp [e]
    · simp only [e, decide_false, Bool.false_or]; exact ih
theorem KH.snoc {h : Heap} {vk : List (List Int × Addr × Value)} {kvs : List (List Int × D)} (r : KH h vk kvs) {k : List Int} {a : Addr} {v : Value} {d : D} (b : DR h v d) : KH h (vk ++ [(k, a, v)]) (kvs ++ [(k, d)]) := by
  induction r with
  | nil => exact .cons b .nil
  | cons x _ ih => exact .cons x ih
theorem KH.repl {h : Heap} {vk : List (List Int × Addr × Value)} {kvs : List (List Int × D)} (r : KH h vk kvs) {k : List Int} {v : Value} {d : D} (b : DR h v d) :
    KH h (vk.map (putAt k v)) (kvs.map fun kv => if kv.1 = k then (kv.1, d) else kv) := by
  induction r with
  | nil => exact .nil
  | @cons k' a v' d' vs ds x r ih =>
    rw [List.map_cons, List.map_cons]
    unfold putAt
    by_cases e : k' = k
    · simp only [e, if_true]; exact .cons b ih
    · simp only [e, if_false]; exact .cons x ih
theorem KH.put {h : Heap} {vk : List (List Int × Addr × Value)} {kvs : List (List Int × D)} (r : KH h vk kvs) {k : List Int} {a : Addr} {v : Value} {d : D} (b : DR h v d) : KH h (storedH vk k a v) (kPut kvs k d) := by
  have e := r.has k
  unfold kPut
  rw [← e]
  cases q : atKey vk k with
  | none => rw [storedH_new q]; exact r.snoc b
  | some p => rw [storedH_old q]; exact r.repl b
theorem KH.length {h : Heap} {vk : List (List Int × Addr × Value)} {kvs : List (List Int × D)} (r : KH h vk kvs) : vk.length = kvs.length := by
  induction r with
  | nil => rfl
  | cons _ _ ih => rw [List.length_cons, List.length_cons, ih]
theorem tupleKey_of {c : Cx} {h : Heap} {v : Value} {ks : List Int} (r : DR h v (.tup (im ks))) : ∃ a, v = .ref a ∧ IsTupleKey (intKind c.prog c.w) h ks a := by
  cases r with
  | @tup a vs n _ e rs =>
    refine ⟨a, rfl, _, _, n, e, rfl, rfl, ?_⟩
    show ItemsAre (intKind c.prog c.w) ks vs
    clear e
    induction ks generalizing vs with
    | nil => cases rs; exact .nil
    | cons k ks ih =>
      cases rs with
      | cons x rs =>
        cases x
        exact .cons (intKind_is _ _ _ _) (ih rs)

section
variable {c : Cx} {A : Around} {env : Env} {σ : Sig}

-- dicts
theorem e_dict0 {pos : Pos} {P : D → Sig → Prop} (h : ∀ d, P (.ref d) ((d, .idict []) :: σ)) : EV c A env σ (.Dict [] [] pos) P := fun s Q E hs q =>
  wpAny_Dict_empty (q _ _ _ _ (h _) (hs.heap (hs.st.new (fun _ _ e => Heap.get?_push_of_some _ e) (Nat.le_refl _) ⟨[], ⟨_, #[], 0, Heap.get?_push_size _ rfl, ⟨rfl, rfl, rfl⟩, rfl, (fun _ he => (nomatch he)), .nil, .nil⟩, .nil⟩)) (.push _ _) (.ref _))
theorem e_dictS {pos : Pos} {P : D → Sig → Prop} (h : ∀ d, P (.ref d) ((d, .sdict []) :: σ)) : EV c A env σ (.Dict [] [] pos) P := fun s Q E hs q =>
  wpAny_Dict_empty (q _ _ _ _ (h _) (hs.heap (hs.st.new (fun _ _ e => Heap.get?_push_of_some _ e) (Nat.le_refl _) ⟨[], ⟨_, #[], 0, Heap.get?_push_size _ rfl, ⟨rfl, rfl, rfl⟩, rfl, (fun _ he => (nomatch he)), .nil, .nil⟩, .nil⟩)) (.push _ _) (.ref _))
theorem e_dictT {pos : Pos} {P : D → Sig → Prop} (h : ∀ d, P (.ref d) ((d, .tdict []) :: σ)) : EV c A env σ (.Dict [] [] pos) P := fun s Q E hs q =>
  wpAny_Dict_empty (q _ _ _ _ (h _) (hs.heap (hs.st.new (fun _ _ e => Heap.get?_push_of_some _ e) (Nat.le_refl _) ⟨[], Heap.DictOfH.new _, .nil⟩)) (.push _ _) (.ref _))
theorem vp_nil {pos : Pos} {P : List (Int × D) → Sig → Prop} (h : P [] σ) : VP c A env σ pos [] [] P := fun s _ _ hs q => pairTrees_nil_walk (q _ _ _ _ h hs (.refl _) .nil)
theorem vp_cons {pos : Pos} {k v : Expr} {ks : List (Option Expr)} {vs : List Expr} {P : List (Int × D) → Sig → Prop}
    (h : EV c A env σ k fun dk σ₁ => ∃ i, dk = .int i ∧ EV c A env σ₁ v fun dv σ₂ => VP c A env σ₂ pos ks vs fun kvs σ₃ => P ((i, dv) :: kvs) σ₃) : VP c A env σ pos (some k :: ks) (v :: vs) P := fun s Q E hs q =>
  pairTrees_cons_walk (h s _ _ hs fun a s₁ d σ₁ h₁ hs₁ l₁ r₁ => by
    obtain ⟨i, rfl, h₁⟩ := h₁
    cases r₁
    exact h₁ s₁ _ _ hs₁ fun b s₂ dv σ₂ h₂ hs₂ l₂ r₂ => h₂ s₂ _ _ hs₂ fun r s₃ kvs σ₃ hp hs₃ l₃ r₃ => q _ _ _ _ hp hs₃ (l₁.trans (l₂.trans l₃)) (.cons (r₂.mono l₃) r₃))
theorem PR.carries {h : Heap} {vs : List (Value × Value)} {ds : List (Int × D)} (r : PR h vs ds) : ∃ kvs, Carries (intKind c.prog c.w) vs kvs ∧ KV h kvs ds := by
  induction r with
  | nil => exact ⟨[], trivial, .nil⟩
  | @cons i t v d vs ds a r ih =>
    obtain ⟨kvs, h1, h2⟩ := ih
    exact ⟨(i, v) :: kvs, ⟨intKind_is _ _ _ _, rfl, h1⟩, .cons a h2⟩
theorem KV.merged {h : Heap} {more : List (Int × Value)} {mored : List (Int × D)} (r : KV h more mored) : ∀ {vk : List (Int × Value)} {kvs : List (Int × D)}, KV h vk kvs → KV h (merged vk more) (mored.foldl (fun acc kv => kPut acc kv.1 kv.2) kvs) := by
  induction r with
  | nil => intro vk kvs k; exact k
  | cons a _ ih => intro vk kvs k; exact ih (k.put a)
theorem e_dict {ks : List (Option Expr)} {es : List Expr} {pos : Pos} {P : D → Sig → Prop} (h : ∀ d, VP c A env ((d, .idict []) :: σ) pos ks es fun kvs σ₁ => ∃ f g, Sel σ₁ d (.idict []) f g ∧ P (.ref d) (f (.idict (kMerge kvs))))
    (hall : ks.all (·.isSome) = true := by rfl) (hl : ks.length = es.length := by rfl) (h0 : ks ≠ [] := by intro h; cases h) (hlen : ks.length ≤ 15 := by decide) : EV c A env σ (.Dict ks es pos) P := fun s Q E hs q => by
  have st : St c (s.heap.push { cls := .type "dict", data := .dict #[] }) ((s.heap.objs.size, .idict []) :: σ) :=
    hs.st.new (fun _ _ e => Heap.get?_push_of_some _ e) (Nat.le_refl _) ⟨[], ⟨_, #[], 0, Heap.get?_push_size _ rfl, ⟨rfl, rfl, rfl⟩, rfl, (fun _ he => (nomatch he)), .nil, .nil⟩, .nil⟩
  refine wpAny_Dict_walk (knd := intKind c.prog c.w) hall hl h0 hlen (h s.heap.objs.size _ _ _ (hs.heap st) fun vs s₁ kvs σ₁ h₁ hs₁ l₁ r₁ => ?_)
  obtain ⟨f, g, S, hp⟩ := h₁
  obtain ⟨kv, c1, c2⟩ := r₁.carries (c := c)
  obtain ⟨vk, hd, kn⟩ := hs₁.st.at S
  cases kn
  refine ⟨kv, c1, hd, fun h' hd' hsb => ?_⟩
  have le := hs₁.st.le S hsb.extBut
  exact q _ _ _ _ hp (hs₁.mk' (hs₁.st.same S hsb ⟨_, hd', (c2.mono le).merged .nil⟩)) ((Le.push _ _).trans (l₁.trans le)) (.ref _)
theorem o_ini {k : Int} {d : Addr} {kvs : List (Int × D)} {f : AO → Sig} {g : Sig} {P : D → Sig → Prop} (S : Sel σ d (.idict kvs) f g) (h : P (.bool (kAt kvs k).isSome) σ) : OP2 DR c A σ (compareOp .In) (.int k) (.ref d) P := fun v w s Q E hs r r' q => by
  cases r; cases r'
  obtain ⟨vk, hd, kv⟩ := hs.st.at S
  refine wpAny_in_of (intKind_is c.prog c.w k _) (hs.st.notSys S) hd.mapOf ?_
  have e : (valueAt vk k).isSome = (kAt kvs k).isSome := by
    have := kv.at k
    revert this
    generalize valueAt vk k = x
    generalize kAt kvs k = y
    intro z
    cases z <;> rfl
  rw [e]
  exact q _ _ _ _ h hs.tok (.refl _) (.bool _)
theorem o_notini' {k : Int} {d : Addr} {kvs : List (Int × D)} {f : AO → Sig} {g : Sig} {P : D → Sig → Prop} (S : Sel σ d (.idict kvs) f g) (h : P (.bool (!(kAt kvs k).isSome)) σ) : OP2 DR c A σ (compareOp .NotIn) (.int k) (.ref d) P := fun v w s Q E hs r r' q => by
  cases r; cases r'
  obtain ⟨vk, hd, kv⟩ := hs.st.at S
  refine wpAny_notIn_of (intKind_is c.prog c.w k _) (hs.st.notSys S) hd.mapOf ?_
  have e : (valueAt vk k).isSome = (kAt kvs k).isSome := by
    have := kv.at k
    revert this
    generalize valueAt vk k = x
    generalize kAt kvs k = y
    intro z
    cases z <;> rfl
  rw [e]
  exact q _ _ _ _ h hs.tok (.refl _) (.bool _)
theorem sb_idict {value slice : Expr} {k : Int} {d : Addr} {x : D} {kvs : List (Int × D)} {f : AO → Sig} {g : Sig} {P : D → Sig → Prop} (S : Sel σ d (.idict kvs) f g) (hk : kAt kvs k = some x)
    (h : P x σ) : SB c A σ value slice (.ref d) (.int k) P := fun v w s Q E hs r r' q => by
  cases r
  cases r' with
  | int _ tk =>
  obtain ⟨vk, hd, kv⟩ := hs.st.at S
  obtain ⟨ops, ho⟩ := subscripted_any slice (.ref d) (.int k tk)
  have := kv.at k
  rw [hk] at this
  generalize e : valueAt vk k = y at this
  cases this with
  | some r => exact tail_any hd.mapOf.typeIs slot_dict_getitem.lookup (wpAny_getItem_of (intKind_is c.prog c.w k tk) hd.mapOf e (q _ _ _ _ h hs.tok (.refl _) r)) ho
theorem si_idict {k : Int} {d : Addr} {x : D} {kvs : List (Int × D)} {f : AO → Sig} {g : Sig} {P : Sig → Prop} (S : Sel σ d (.idict kvs) f g) (hz : kvs.length ≤ sizeLine) (h : P (f (.idict (kPut kvs k x)))) : SI c A σ (.ref d) (.int k) x P :=
  fun ov iv v s Q E hs r r' r'' q => by
  cases r; cases r'
  obtain ⟨vk, hd, kv⟩ := hs.st.at S
  refine wpAny_setItem_pairs (intKind_is c.prog c.w k _) hd (fun h' hd' hsb => ?_) (by rw [kv.length]; exact hz)
  have le := hs.st.le S hsb.extBut
  exact q _ _ h (hs.mk' (hs.st.same S hsb ⟨_, hd', (kv.mono le).put (r''.mono le)⟩)) le
theorem si_sdict {k : Str} {d : Addr} {x : D} {kvs : List (Str × D)} {f : AO → Sig} {g : Sig} {P : Sig → Prop} (S : Sel σ d (.sdict kvs) f g) (hz : kvs.length ≤ sizeLine) (h : P (f (.sdict (kPut kvs k x)))) : SI c A σ (.ref d) (.str k) x P :=
  fun ov iv v s Q E hs r r' r'' q => by
  cases r; cases r'
  obtain ⟨vk, hd, kv⟩ := hs.st.at S
  refine wpAny_setItem_pairs (strKind_is c.prog c.w k _) hd (fun h' hd' hsb => ?_) (by rw [kv.length]; exact hz)
  have le := hs.st.le S hsb.extBut
  exact q _ _ h (hs.mk' (hs.st.same S hsb ⟨_, hd', (kv.mono le).put (r''.mono le)⟩)) le
theorem si_tdict {n : Nat} {ks : List Int} {d : Addr} {x : D} {kvs : List (List Int × D)} {f : AO → Sig} {g : Sig} {P : Sig → Prop} (hr : Rm A n) (S : Sel σ d (.tdict kvs) f g) (hz : kvs.length ≤ sizeLine) (h : P (f (.tdict (kPut kvs ks x)))) :
    SI c A σ (.ref d) (.tup (im ks)) x P := fun ov iv v s Q E hs r r' r'' q => by
  cases r
  obtain ⟨a, rfl, hk⟩ := tupleKey_of (c := c) r'
  obtain ⟨xs, hd, kh⟩ := hs.st.at S
  refine wpAny_setItem_heap (knd := tupleKind (intKind c.prog c.w)) (k := ks) (tupleKind_room_in1 (by have := hr.u; omega)) hk hd (fun h' hd' hsb => ?_) (by rw [kh.length]; exact hz)
  have le := hs.st.le S hsb.extBut
  exact q _ _ h (hs.mk' (hs.st.same S hsb ⟨_, hd', (kh.mono le).put (r''.mono le)⟩)) le
theorem no_dict_dict {h : Heap} {d : Addr} {o : Obj} (hd : h.get? d = some o) (e : o.ExactDict) : ∀ a, Value.ref d = .ref a → ∃ o, h.get? a = some o ∧ o.dict = none := fun a z => by cases z; exact ⟨_, hd, e.2.1⟩
theorem mt_getT {n : Nat} {d : Addr} {kvs : List (List Int × D)} {e₁ e₂ : Expr} {f : AO → Sig} {g : Sig} {pos : Pos} {P : D → Sig → Prop} (hr : Rm A n) (S : Sel σ d (.tdict kvs) f g)
    (h : EV c A env σ e₁ fun d₁ σ₁ => EV c A env σ₁ e₂ fun d₂ σ₂ => ∃ ks kvs f g, d₁ = .tup (im ks) ∧ Sel σ₂ d (.tdict kvs) f g ∧ P ((kAt kvs ks).getD d₂) σ₂) (hp : plainStarts [e₁, e₂] = true := by rfl) :
    MT c A env σ (.ref d) "get" pos [e₁, e₂] P := fun v pl s Q E hs r q => by
  cases r
  obtain ⟨xs, hd, kh⟩ := hs.st.at S
  have ld := hs.st.notSys S
  obtain ⟨o, es, ep, g1, g2, _⟩ := id hd
  refine getMethod_builtin hd.typeIs PySem.F.plainAttrs_dict PySem.F.slot_dict_get PySem.F.type_dict_get (no_dict_dict g1 g2) ?_
  rw [show backTo pos (starEach [e₁, e₂] env) = [(false, eval e₁ env), (false, eval e₂ env)] from by rw [starEach_plain _ hp]; rfl]
  refine wpAny_dict_get2_heap (knd := tupleKind (intKind c.prog c.w)) (tupleKind_room_in1 (by have := hr.u; omega)) ld (h s _ _ hs fun a s₁ d₁ σ₁ h₁ hs₁ l₁ r₁ => h₁ s₁ _ _ hs₁ fun b s₂ d₂ σ₂ h₂ hs₂ l₂ r₂ => ?_)
  obtain ⟨ks, kvs', f', g', rfl, S', hp'⟩ := h₂
  obtain ⟨xs', hd', kh'⟩ := hs₂.st.at S'
  obtain ⟨a', rfl, hk⟩ := tupleKey_of (c := c) (r₁.mono l₂)
  refine ⟨a', ks, xs', rfl, hk, hd', q _ _ _ _ hp' hs₂.tok (l₁.trans l₂) ?_⟩
  have := kh'.at ks
  revert this
  generalize (atKey xs' ks).map (·.2) = x
  generalize kAt kvs' ks = y
  intro z
  cases z with
  | none => exact r₂
  | some z => exact z
theorem mt_getS {d : Addr} {kvs : List (Str × D)} {e₁ e₂ : Expr} {f : AO → Sig} {g : Sig} {pos : Pos} {P : D → Sig → Prop} (S : Sel σ d (.sdict kvs) f g)
    (h : EV c A env σ e₁ fun d₁ σ₁ => EV c A env σ₁ e₂ fun d₂ σ₂ => ∃ x kvs f g, d₁ = .str x ∧ Sel σ₂ d (.sdict kvs) f g ∧ P ((kAt kvs x).getD d₂) σ₂) (hp : plainStarts [e₁, e₂] = true := by rfl) :
    MT c A env σ (.ref d) "get" pos [e₁, e₂] P := fun v pl s Q E hs r q => by
  cases r
  obtain ⟨vk, hd, kv⟩ := hs.st.at S
  have ld := hs.st.notSys S
  obtain ⟨o, es, ep, g1, g2, _⟩ := id hd
  refine getMethod_builtin hd.mapOf.typeIs PySem.F.plainAttrs_dict PySem.F.slot_dict_get PySem.F.type_dict_get (no_dict_dict g1 g2) ?_
  rw [show backTo pos (starEach [e₁, e₂] env) = [(false, eval e₁ env), (false, eval e₂ env)] from by rw [starEach_plain _ hp]; rfl]
  refine wpAny_dict_get2 (knd := strKind c.prog c.w) ld (h s _ _ hs fun a s₁ d₁ σ₁ h₁ hs₁ l₁ r₁ => h₁ s₁ _ _ hs₁ fun b s₂ d₂ σ₂ h₂ hs₂ l₂ r₂ => ?_)
  obtain ⟨x, kvs', f', g', rfl, S', hp'⟩ := h₂
  obtain ⟨vk', hd', kv'⟩ := hs₂.st.at S'
  cases r₁ with
  | str _ tk =>
  refine ⟨x, _, strKind_is c.prog c.w x tk, hd'.mapOf, q _ _ _ _ hp' hs₂.tok (l₁.trans l₂) ?_⟩
  have := kv'.at x
  revert this
  generalize valueAt vk' x = x
  generalize kAt kvs' _ = y
  intro z
  cases z with
  | none => exact r₂
  | some z => exact z

-- sets
theorem o_notins {k : Int} {a : Addr} {is : List Int} {f : AO → Sig} {g : Sig} {P : D → Sig → Prop} (S : Sel σ a (.iset is) f g) (h : P (.bool (decide (k ∉ is))) σ) : OP2 DR c A σ (compareOp .NotIn) (.int k) (.ref a) P := fun v w s Q E hs r r' q => by
  cases r; cases r'
  obtain ⟨S', n, hS, hn, hm⟩ := hs.st.at S
  refine wpAny_notInSet_of (intKind_is c.prog c.w k _) rfl hS ?_
  have e : (!S' k) = decide (k ∉ is) := by
    rw [Bool.eq_iff_iff]
    simp only [Bool.not_eq_true', decide_eq_true_eq, ← hm, Bool.not_eq_true]
  rw [e]
  exact q _ _ _ _ h hs.tok (.refl _) (.bool _)
theorem mt_add {a : Addr} {is : List Int} {e : Expr} {f : AO → Sig} {g : Sig} {pos : Pos} {P : D → Sig → Prop} (S : Sel σ a (.iset is) f g)
    (h : EV c A env σ e fun d σ₁ => ∃ k is f g, d = .int k ∧ Sel σ₁ a (.iset is) f g ∧ is.length + 1 < scanBound ∧ P .none (f (.iset (k :: is)))) (hp : plainStarts [e] = true := by rfl) : MT c A env σ (.ref a) "add" pos [e] P := fun v pl s Q E hs r q => by
  cases r
  obtain ⟨S', n, hS, hn, hm⟩ := hs.st.at S
  refine getMethod_set_add hS ?_
  refine callW hp (keep_blt rfl) ?_
  rw [show backTo pos (starEach [e] env) = [(false, eval e env)] from by rw [starEach_plain _ hp]; rfl]
  refine spliced_cons (h s _ _ hs fun x s₁ d σ₁ h₁ hs₁ l₁ r₁ => spliced_nil ⟨hs₁.st.keep, ?_⟩)
  obtain ⟨k, is', f', g', rfl, S₁, hz, hp'⟩ := h₁
  cases r₁ with
  | int _ tk =>
  obtain ⟨S'', n', hS', hn', hm'⟩ := hs₁.st.at S₁
  refine call_set_add (intKind_is c.prog c.w k tk) rfl hS' (by omega) fun h' hsb hS'' => ?_
  refine q _ _ _ _ hp' (hs₁.mk' (hs₁.st.same S₁ hsb ⟨_, _, hS'', ?_, fun j => ?_⟩)) (l₁.trans (hs₁.st.le S₁ hsb.extBut)) .none
  · rw [List.length_cons]; split <;> omega
  · simp only [Bool.or_eq_true, decide_eq_true_eq, List.mem_cons, hm']
    exact or_comm

-- slices
theorem e_take {value upper : Expr} {p pos : Pos} {P : D → Sig → Prop} (h : EV c A env σ value fun d σ₁ => EV c A env σ₁ upper fun e σ₂ => ∃ l k ds f g, d = .ref l ∧ e = .int k ∧ 0 ≤ k ∧ Sel σ₂ l (.list ds) f g ∧ ds.length ≤ sizeLine ∧
      ∀ a, P (.ref a) ((a, .list (ds.take k.toNat)) :: σ₂)) : EV c A env σ (.Subscript value (.Slice none (some upper) none p) pos) P := fun s Q E hs q => by
  refine Subscript_ (h s _ _ hs fun o s₁ d σ₁ h₁ hs₁ l₁ r₁ => wpAny_Slice (wpAny_pure (h₁ s₁ _ _ hs₁ fun u s₂ e σ₂ h₂ hs₂ l₂ r₂ => wpAny_pure ?_)))
  obtain ⟨l, k, ds, f, g, rfl, rfl, h0, S, hz, hp⟩ := h₂
  cases r₁
  cases r₂ with
  | int _ tk =>
  have k1 : ∀ b o, s₂.heap.get? b = some o → (s₂.heap.push { cls := .type "slice", data := .fields #[.none, .int k tk, .none] }).get? b = some o := fun _ _ e => Heap.get?_push_of_some _ e
  have st := hs₂.st.keeps k1
  obtain ⟨vs, n, hl, r⟩ := st.at S
  obtain ⟨ops, ho⟩ := subscripted_any (.Slice none (some upper) none p) (.ref l) (.ref s₂.heap.objs.size)
  obtain ⟨j, rfl⟩ := Int.eq_ofNat_of_zero_le h0
  have il : (s₂.heap.push { cls := .type "slice", data := .fields #[.none, .int j tk, .none] }).IsList l (List.toArray vs) := ⟨_, hl, rfl, n, rfl⟩
  refine tail_any (s := { s₂ with heap := _ }) ⟨_, hl, rfl⟩ slot_list_getitem.lookup (wpAny_getItem_list_slice (s := { s₂ with heap := _ }) il (Heap.IsSliceOf.new _ _ _ _) .none (.int j tk) .none (by simp) ?_ (by rw [List.size_toArray, r.length]; exact hz)) ho
  rw [slicePick_upto']
  have k2 : ∀ b o, (s₂.heap.push { cls := .type "slice", data := .fields #[.none, .int j tk, .none] }).get? b = some o → ((s₂.heap.push { cls := .type "slice", data := .fields #[.none, .int j tk, .none] }).push { cls := .type "list", data := .seq (List.toArray (vs.take j)) }).get? b = some o := fun _ _ e => Heap.get?_push_of_some _ e
  exact q _ _ _ _ (hp _) (hs₂.heap (st.new k2 (Nat.le_refl _) ⟨vs.take j, 0, Heap.get?_push_size _ rfl, (r.mono (.keeps k2)).take j⟩)) (l₁.trans (l₂.trans ((Le.keeps k1).trans (.keeps k2)))) (.ref _)
theorem e_rev {value step : Expr} {p pos : Pos} {P : D → Sig → Prop} (h : EV c A env σ value fun d σ₁ => EV c A env σ₁ step fun e σ₂ => ∃ l ds f g, d = .ref l ∧ e = .int (-1) ∧ Sel σ₂ l (.list ds) f g ∧ ds.length ≤ sizeLine ∧
      ∀ a, P (.ref a) ((a, .list ds.reverse) :: σ₂)) : EV c A env σ (.Subscript value (.Slice none none (some step) p) pos) P := fun s Q E hs q => by
  refine Subscript_ (h s _ _ hs fun o s₁ d σ₁ h₁ hs₁ l₁ r₁ => wpAny_Slice (wpAny_pure (wpAny_pure (h₁ s₁ _ _ hs₁ fun u s₂ e σ₂ h₂ hs₂ l₂ r₂ => ?_))))
  obtain ⟨l, ds, f, g, rfl, rfl, S, hz, hp⟩ := h₂
  cases r₁
  cases r₂ with
  | int _ tk =>
  have k1 : ∀ b o, s₂.heap.get? b = some o → (s₂.heap.push { cls := .type "slice", data := .fields #[.none, .none, .int (-1) tk] }).get? b = some o := fun _ _ e => Heap.get?_push_of_some _ e
  have st := hs₂.st.keeps k1
  obtain ⟨vs, n, hl, r⟩ := st.at S
  obtain ⟨ops, ho⟩ := subscripted_any (.Slice none none (some step) p) (.ref l) (.ref s₂.heap.objs.size)
  have il : (s₂.heap.push { cls := .type "slice", data := .fields #[.none, .none, .int (-1) tk] }).IsList l (List.toArray vs) := ⟨_, hl, rfl, n, rfl⟩
  refine tail_any (s := { s₂ with heap := _ }) ⟨_, hl, rfl⟩ slot_list_getitem.lookup (wpAny_getItem_list_slice (s := { s₂ with heap := _ }) il (Heap.IsSliceOf.new _ _ _ _) .none .none (.int (-1) tk) (by simp) ?_ (by rw [List.size_toArray, r.length]; exact hz)) ho
  rw [krv_pick]
  have k2 : ∀ b o, (s₂.heap.push { cls := .type "slice", data := .fields #[.none, .none, .int (-1) tk] }).get? b = some o → ((s₂.heap.push { cls := .type "slice", data := .fields #[.none, .none, .int (-1) tk] }).push { cls := .type "list", data := .seq (List.toArray vs.reverse) }).get? b = some o := fun _ _ e => Heap.get?_push_of_some _ e
  exact q _ _ _ _ (hp _) (hs₂.heap (st.new k2 (Nat.le_refl _) ⟨vs.reverse, 0, Heap.get?_push_size _ rfl, (r.mono (.keeps k2)).rev⟩)) (l₁.trans (l₂.trans ((Le.keeps k1).trans (.keeps k2)))) (.ref _)
-- a name grows by a written number
theorem x_inc {L : Addr} {m m' : List (Str × Option D)} {f : AO → Sig} {g : Sig} {x : Str} {i j : Int} {k : Nat} {p' pk pos : Pos} {rest : List Stmt} {P : Fl → Sig → Prop} (S : Sel σ L (.fr m) f g) (hm : (x, some (.int i)) ∈ m) (U : UpdM m x (some (.int (i + j))) m')
    (hL : env.locals = L) (hk : env.scope.kind = .function) (hl : env.kindOf x = some .local) (h : XS c A env (f (.fr m')) rest P) : XS c A env σ (.AugAssign (.Name x p') .Add (.Constant (.int j) k pk) pos :: rest) P := x_cons fun s Q E hs q => by
  obtain ⟨mm, hn, hf⟩ := hs.st.at S
  obtain ⟨v, e, r⟩ := hf.at hm
  subst hL
  cases r with
  | int _ tk =>
  refine wpAny_AugAssign_Name (wpAny_loadName_local hk hl hn e (wpAny_Constant_int (wpAny_iadd_int (wpAny_storeName_local (s := { s with toks := s.toks + 1 + 1 }) hl hn (fun h' hn' hsb => ?_) (by rw [hk]; rfl)))))
  have l := hs.st.le S hsb.extBut
  exact q .next _ .next _ h (hs.mk' (hs.st.same S hsb ⟨_, hn', (hf.mono l).upd U (.some (.int _ _))⟩)) l .next
end
end
section

/-- a list comprehension, from its next item on -/
noncomputable def CP (c : Cx) (A : Around) (env : Env) (σ : Sig) (e : Expr) (it D : Addr) (P : Sig → Prop) : Prop :=
  ∀ (s : Shared) (R : Result → Shared → Prop), Sok c s σ → (∀ s' σ', P σ' → Sok c s' σ' → Le s.heap s'.heap → R (.ok .next) s') →
    codeAny (model c.prog c.w) A (.compLoop e 0 (.ref it) (.ref D) env) R s
/-- an iterator is its own iterator -/
noncomputable def SelfIt (c : Cx) (A : Around) (σ : Sig) (it : Addr) : Prop :=
  ∀ (s : Shared) (Q : Value → Shared → Prop) (E : Value → Shared → Prop), Sok c s σ → Q (.ref it) s → wpAny (model c.prog c.w) A (pyIter (.ref it)) Q E s
/-- the run of a comprehension, from the making of its list on -/
noncomputable def CB (c : Cx) (A : Around) (env : Env) (σ : Sig) (elt iter : Expr) (x : Str) (px : Pos) (scope : Scope) (cl : List (Str × Addr)) (pos : Pos) (names : List Str) (it : Addr) (P : Addr → Addr → Sig → Prop) : Prop :=
  ∀ D L, SelfIt c A ((L, .fr (names.map fun x => (x, none))) :: (D, .list []) :: σ) it ∧
    CP c A (compEnvC scope cl L env) ((L, .fr (names.map fun x => (x, none))) :: (D, .list []) :: σ) (.ListComp elt [⟨.Name x px, iter, [], 0⟩] scope pos) it D (P D L)

section
variable {c : Cx} {A : Around} {env : Env} {σ : Sig}

theorem self_list {it l : Addr} {k : Nat} {f : AO → Sig} {g : Sig} (S : Sel σ it (.lit l k) f g) : SelfIt c A σ it := fun s Q E hs h => wpAny_pyIter_listiter (hs.st.at S) h
theorem self_rng {it : Addr} {x y z : Int} {f : AO → Sig} {g : Sig} (S : Sel σ it (.rit x y z) f g) : SelfIt c A σ it := fun s Q E hs h => wpAny_pyIter_rangeiter (hs.st.at S) h
theorem self_key {it d : Addr} {i n ep : Nat} {f : AO → Sig} {g : Sig} (S : Sel σ it (.kit d i n ep) f g) : SelfIt c A σ it := fun s Q E hs h => wpAny_pyIter_keyiter (hs.st.at S) h

theorem comp_core {elt iter : Expr} {x : Str} {px : Pos} {scope : Scope} {pos : Pos} {names : List Str} {it : Addr} {cl : List (Str × Addr)} {P : Addr → Addr → Sig → Prop} {RR : Value → Addr → Result → Shared → Prop} {E : Value → Shared → Prop} {s : Shared}
    (hs : Sok c s σ) (hclos : closureFor scope env = pure cl) (hcell : (scope.names.all fun x => x.2 != .cell) = true) (hkind : scope.kind = .function) (hnd : names.Nodup)
    (h : CB c A env σ elt iter x px scope cl pos names it P) (q : ∀ D L s' σ', P D L σ' → Sok c s' σ' → Le s.heap s'.heap → RR (.ref D) L (.ok .next) s') :
    wpAny (model c.prog c.w) A (newList []) (fun acc s₃ => wpAny (model c.prog c.w) A (newFunctionEnv scope env.globals cl [] env.qual none .none (some env)) (fun cenv s₄ =>
      codeAny (model c.prog c.w) A (.compStart (.ListComp elt [⟨.Name x px, iter, [], 0⟩] scope pos) 0 (.ref it) acc { cenv with scope := relabel scope env }) (RR acc cenv.locals) s₄) E s₃) E s := by
  have hcell' : ∀ y ∈ scope.names, y.2 ≠ .cell := fun x hx => by have := List.all_eq_true.mp hcell x hx; simpa using this
  refine wpAny_newObj_type (wpAny_newFunctionEnv hcell' (by intro y hy; simp at hy) (fun h₁ hns₁ hsb₁ => ?_) hkind)
  dsimp only at hns₁ hsb₁ ⊢
  have k1 : ∀ b o, s.heap.get? b = some o → (s.heap.push { cls := .type "list", dict := none, data := .seq ([] : List Value).toArray }).get? b = some o := fun _ _ e => Heap.get?_push_of_some _ e
  have st1 : St c (s.heap.push { cls := .type "list", dict := none, data := .seq ([] : List Value).toArray }) ((s.heap.objs.size, .list []) :: σ) := hs.st.new k1 (Nat.le_refl _) ⟨[], 0, Heap.get?_push_size _ rfl, .nil⟩
  generalize hH2 : s.heap.push { cls := .type "list", dict := none, data := .seq ([] : List Value).toArray } = H2 at hns₁ hsb₁ st1 k1 ⊢
  have k2 : ∀ b o, H2.get? b = some o → h₁.get? b = some o := fun b o e => hsb₁.extBut b o (Nat.ne_of_lt (Heap.lt_size e)) (Heap.get?_push_of_some _ e)
  have st2 : St c h₁ ((H2.objs.size, .fr (names.map fun x => (x, none))) :: (s.heap.objs.size, .list []) :: σ) := st1.new k2 (Nat.le_refl _) ⟨_, hns₁, frame_none hnd⟩
  have hs2 : Sok c { s with heap := h₁, toks := s.toks + ([] : List (Str × Value)).length } ((H2.objs.size, .fr (names.map fun x => (x, none))) :: (s.heap.objs.size, .list []) :: σ) := hs.mk' st2
  have le : Le s.heap h₁ := (Le.keeps k1).trans (.keeps k2)
  obtain ⟨h1, h2⟩ := h s.heap.objs.size H2.objs.size
  have loop : codeAny (model c.prog c.w) A (.compLoop (.ListComp elt [⟨.Name x px, iter, [], 0⟩] scope pos) 0 (.ref it) (.ref s.heap.objs.size) (compEnvC scope cl H2.objs.size env))
      (RR (.ref s.heap.objs.size) H2.objs.size) { s with heap := h₁, toks := s.toks + ([] : List (Str × Value)).length } := h2 _ _ hs2 fun s' σ' hp hs' l' => q _ _ s' σ' hp hs' (le.trans l')
  exact codeAny_compStart_list loop (h1 _ _ _ hs2 loop)

noncomputable def namesOk (scope : Scope) : Bool := scope.names.all fun x => x.2 != .local || scope.names.lookup x.1 == some .local
theorem namesOk_of {scope : Scope} (h : namesOk scope = true) : ∀ y ∈ scope.names, y.2 = .local → scope.names.lookup y.1 = some .local := fun y hy e => by
  have := List.all_eq_true.mp h y hy
  rw [e] at this
  simpa using this
theorem e_comp {elt iter : Expr} {x : Str} {px : Pos} {scope : Scope} {pos : Pos} {cl : List (Str × Addr)} {P : D → Sig → Prop} (names : List Str)
    (h : EV c A env σ iter fun d σ₁ => OP1 DR c A σ₁ pyIter d fun y σ₂ => ∃ it, y = .ref it ∧ CB c A env σ₂ elt iter x px scope cl pos names it fun D L σ' => ∃ m f g, Sel σ' L (.fr m) f g ∧ P (.ref D) g)
    (hclos : closureFor scope env = pure cl) (hcell : (scope.names.all fun x => x.2 != .cell) = true) (hkind : scope.kind = .function) (hnd : names.Nodup) (hnames : namesOk scope = true)
    (hz : ∀ x, foldedSetIterable iter env x = pure x := by intro _; rfl) : EV c A env σ (.ListComp elt [⟨.Name x px, iter, [], 0⟩] scope pos) P := fun s Q E hs q => by
  rw [eval_ListComp]
  refine wpAny_comprehension_free (use := none) rfl hz hclos hkind (namesOk_of hnames) (h s _ _ hs fun a s₁ d σ₁ h₁ hs₁ l₁ r₁ => h₁ a s₁ _ _ hs₁ r₁ fun b s₂ y σ₂ h₂ hs₂ l₂ r₂ => ?_)
  obtain ⟨it, rfl, h₂⟩ := h₂
  cases r₂
  refine comp_core (RR := fun acc C => compPost (model c.prog c.w) A E none Q acc C) hs₂ hclos hcell hkind hnd h₂ fun D L s₃ σ₃ h₃ hs₃ l₃ => ?_
  obtain ⟨m, f, g, S, hp⟩ := h₃
  obtain ⟨mm, hn, hf⟩ := hs₃.st.at S
  exact ⟨mm, hn, fun h' hsb => q _ _ _ _ hp (hs₃.heap (hs₃.st.drop S hsb.extBut)) (l₁.trans (l₂.trans (l₃.trans (hs₃.st.le S hsb.extBut)))) (.ref _)⟩
theorem x_asgc {elt iter : Expr} {x y : Str} {px py : Pos} {scope : Scope} {pos spos : Pos} {cl : List (Str × Addr)} {rest : List Stmt} {P : Fl → Sig → Prop} (names : List Str)
    (h : EV c A env σ iter fun d σ₁ => OP1 DR c A σ₁ pyIter d fun z σ₂ => ∃ it, z = .ref it ∧ CB c A env σ₂ elt iter x px scope cl pos names it fun D L σ' => AS c A env σ' (.Name y py) (.ref D) fun σ'' => ∃ m f g, Sel σ'' L (.fr m) f g ∧ XS c A env g rest P)
    (hsw : swapsWith (.ListComp elt [⟨.Name x px, iter, [], 0⟩] scope pos) (some (.Name y py)) spos.line env = pure true)
    (hclos : closureFor scope env = pure cl) (hcell : (scope.names.all fun x => x.2 != .cell) = true) (hkind : scope.kind = .function) (hnd : names.Nodup) (hnames : namesOk scope = true)
    (hz : ∀ x, foldedSetIterable iter env x = pure x := by intro _; rfl) : XS c A env σ (.Assign [.Name y py] (.ListComp elt [⟨.Name x px, iter, [], 0⟩] scope pos) spos :: rest) P := x_cons fun s Q E hs q => by
  rw [exec_Assign_Name_used _ _ _ _ hsw]
  refine wpAny_bind (wpAny_standAt (wpAny_bind ?_))
  show wpAny _ A (do let _ ← comprehension (.ListComp elt [⟨.Name x px, iter, [], 0⟩] scope pos) scope env _ (newList []) false (eval iter env) (some (assign (.Name y py) env))) _ _ s
  refine wpAny_bind (wpAny_mono (wpAny_comprehension_free (use := some (assign (.Name y py) env)) (Q := fun _ s' => Q .next s') rfl hz hclos hkind (namesOk_of hnames)
    (h s _ _ hs fun a s₁ d σ₁ h₁ hs₁ l₁ r₁ => h₁ a s₁ _ _ hs₁ r₁ fun b s₂ y σ₂ h₂ hs₂ l₂ r₂ => ?_)) (fun _ s' hq => wpAny_pure (wpAny_pure hq)) fun _ _ e => e)
  obtain ⟨it, rfl, h₂⟩ := h₂
  cases r₂
  refine comp_core (RR := fun acc C => compPost (model c.prog c.w) A E (some (assign (.Name _ py) env)) (fun _ s' => Q .next s') acc C) hs₂ hclos hcell hkind hnd h₂ fun D L s₃ σ₃ h₃ hs₃ l₃ => ?_
  show wpAny _ A (assign (.Name _ py) env (.ref D)) _ _ _
  refine h₃ (.ref D) s₃ _ _ hs₃ (.ref _) fun s₄ σ₄ h₄ hs₄ l₄ => ?_
  obtain ⟨m, f, g, S, hp⟩ := h₄
  obtain ⟨mm, hn, hf⟩ := hs₄.st.at S
  exact ⟨mm, hn, fun h' hsb => q .next _ .next _ hp (hs₄.heap (hs₄.st.drop S hsb.extBut)) (l₁.trans (l₂.trans (l₃.trans (l₄.trans (hs₄.st.le S hsb.extBut))))) .next⟩
theorem cp_turn {elt iter : Expr} {x : Str} {px : Pos} {scope : Scope} {pos : Pos} {it D : Addr} {P : Sig → Prop}
    (h : NX c A σ it fun o σ₁ => match o with
      | none => P σ₁
      | some d => AS c A env σ₁ (.Name x px) d fun σ₂ => EV c A env σ₂ elt fun y σ₃ => ∃ ds f g, Sel σ₃ D (.list ds) f g ∧ ds.length ≤ sizeLine ∧
          CP c A env (f (.list (ds ++ [y]))) (.ListComp elt [⟨.Name x px, iter, [], 0⟩] scope pos) it D P) :
    CP c A env σ (.ListComp elt [⟨.Name x px, iter, [], 0⟩] scope pos) it D P := fun s R hs q => by
  refine codeAny_loop' rfl (fun n s' => n = 0 ∧ s' = s) (fun n s' hn => ?_) 0 ⟨rfl, rfl⟩
  obtain ⟨rfl, rfl⟩ := hn
  show wpAny _ _ ((compTurn (.ListComp elt [⟨.Name x px, iter, [], 0⟩] scope pos) 0 (.ref it) (.ref D) env).onRaise (fun x => do noteFrame x env; theTreesLotGoes x)) _ _ _
  refine wpAny_noted ?_
  rw [compTurn_list1]
  refine wpAny_bind (wpAny_standAt (wpAny_bind (h _ _ _ hs fun a s₁ o σ₁ h₁ hs₁ l₁ r₁ => ?_)))
  cases r₁ with
  | none => exact wpAny_pure (q s₁ σ₁ h₁ hs₁ l₁)
  | some r =>
    refine wpAny_bind (wpAny_of_eq rfl ?_)
    refine wpAny_bind (h₁ _ s₁ _ _ hs₁ r fun s₂ σ₂ h₂ hs₂ l₂ => wpAny_bind (wpAny_bind (h₂ s₂ _ _ hs₂ fun y s₃ e σ₃ h₃ hs₃ l₃ r₃ => wpAny_bind ?_)))
    obtain ⟨ds, f, g, S, hz, hp⟩ := h₃
    obtain ⟨vs, n, hl, rs⟩ := hs₃.st.at S
    obtain ⟨n', hd'⟩ := Obj.data_mapSeq (o := listOf (List.toArray vs) n) rfl (·.push y)
    have il : s₃.heap.IsList D (List.toArray vs) := ⟨_, hl, rfl, n, rfl⟩
    refine wpAny_call_entry slot_list_append il.typeIs entry_list_append ?_ (args_list_append _ _)
    show wpAny _ _ (updateSeq D (·.push y) >>= fun _ => ret .none) _ _ s₃
    have e' := Heap.SameBut.update s₃.heap D (Obj.mapSeq fun xs => xs.push y)
    have le := hs₃.st.le S e'.extBut
    have ge := IsL.update hl (fun xs => xs.push y)
    rw [show (List.toArray vs).push y = List.toArray (vs ++ [y]) from List.push_toArray ..] at ge
    have z : vs.toArray.size ≤ sizeLine := by rw [List.size_toArray, rs.length]; exact hz
    refine wpAny_bind (wpAny_updateSeq (hz := z) (_hz' := by rw [Array.size_push]; exact Nat.succ_le_succ z) hl rfl (wpAny_pure ⟨.none, rfl, ?_⟩))
    refine wpAny_pure (wpAny_pure (.inr ⟨rfl, ?_⟩))
    exact hp _ R (hs₃.heap (hs₃.st.same S e' ⟨vs ++ [y], _, ge, (rs.mono le).snoc (r₃.mono le)⟩)) fun s' σ' hp hs' l' => q s' σ' hp hs' (l₁.trans (l₂.trans (l₃.trans (le.trans l'))))

-- two names take a pair
theorem a_tup2 {n : Nat} {x y : Expr} {k : Nat} {pos : Pos} {d e : D} {P : Sig → Prop} (hr : Rm A n) (h : AS c A env σ x d fun σ₁ => AS c A env σ₁ y e P)
    (he : assignEach [x, y] env = [(false, assign x env), (false, assign y env)] := by rfl) : AS c A env σ (.Tuple [x, y] k pos) (.tup [d, e]) P := fun v s Q E hs r q => by
  cases r with
  | @tup t vs m _ ht rs =>
  cases rs with
  | @cons v1 _ _ _ r1 rs =>
  cases rs with
  | @cons v2 _ _ _ r2 rs =>
  cases rs
  have it : s.heap.IsTuple t (List.toArray [v1, v2]) := ⟨_, ht, rfl, m, rfl⟩
  refine wpAny_assign_Tuple hr.h it (by rw [he]; rfl) (by rw [he]; rfl) fun h' hx => ?_
  have kp : ∀ b o, s.heap.get? b = some o → h'.get? b = some o := fun b o e => hx b o (Nat.ne_of_lt (Heap.lt_size e)) e
  have st := hs.st.keeps kp
  have le : Le s.heap h' := .keeps kp
  rw [he]
  show wpAny _ _ (assignInOrder [assign x env, assign y env] [v1, v2]) _ _ _
  unfold assignInOrder
  refine wpAny_bind (wpAny_holding (h v1 _ _ _ (hs.heap st) (r1.mono le) fun s₁ σ₁ h₁ hs₁ l₁ => ?_))
  unfold assignInOrder
  refine wpAny_bind (wpAny_holding (h₁ v2 _ _ _ hs₁ (r2.mono (le.trans l₁)) fun s₂ σ₂ h₂ hs₂ l₂ => ?_))
  unfold assignInOrder
  exact wpAny_pure (q _ _ h₂ hs₂ (le.trans (l₁.trans l₂)))

-- a dict's keys
theorem i_dict {d : Addr} {kvs : List (Int × D)} {f : AO → Sig} {g : Sig} {P : D → Sig → Prop} (S : Sel σ d (.idict kvs) f g) (h : ∀ it ep, P (.ref it) ((it, .kit d 0 kvs.length ep) :: f (.idictE kvs ep))) : OP1 DR c A σ pyIter (.ref d) P := fun v s Q E hs r q => by
  cases r
  obtain ⟨vk, hd, kv⟩ := hs.st.at S
  obtain ⟨ep, hat⟩ := hd.dictAt
  refine wpAny_pyIter_dict (hs.st.notSys S) hat ?_
  have e := hs.st.same S (Heap.SameBut.refl d s.heap) (ao' := .idictE kvs ep) ⟨vk, hat, kv⟩
  rw [kv.length]
  exact q _ _ _ _ (h _ ep) (hs.heap (e.new (fun _ _ e => Heap.get?_push_of_some _ e) (Nat.le_refl _) ⟨_, Heap.get?_push_size _ rfl, rfl, rfl⟩)) (.push _ _) (.ref _)
theorem KV.getk {h : Heap} {κ : Type} {vk : List (κ × Value)} {kvs : List (κ × D)} (r : KV h vk kvs) : ∀ {i : Nat} {k : κ} {d : D}, kvs[i]? = some (k, d) → ∃ v, vk[i]? = some (k, v) := by
  induction r with
  | nil => intro i k d e; simp at e
  | cons _ _ ih =>
    intro i k d e
    cases i with
    | zero => simp only [List.getElem?_cons_zero, Option.some.injEq] at e; cases e; exact ⟨_, rfl⟩
    | succ i => simpa using ih (by simpa using e)
theorem n_key {it d : Addr} {i ep : Nat} {kvs : List (Int × D)} {k : Int} {x : D} {f f' : AO → Sig} {g g' : Sig} {P : Option D → Sig → Prop} (S : Sel σ it (.kit d i kvs.length ep) f g) (S' : Sel σ d (.idictE kvs ep) f' g') (hk : kvs[i]? = some (k, x))
    (h : P (some (.int k)) (f (.kit d (i + 1) kvs.length ep))) : NX c A σ it P := fun s Q E hs q => by
  obtain ⟨vk, hat, kv⟩ := hs.st.at S'
  obtain ⟨v, hv⟩ := kv.getk hk
  have hit : s.heap.IsKeyIter it d i vk.length ep := by rw [kv.length]; exact hs.st.at S
  refine wpAny_pyNext_dict_item hit hat hv fun key h' hkey hi hsb => ?_
  obtain ⟨t, rfl⟩ := Value.isInt_shape hkey
  rw [kv.length] at hi
  exact q _ _ _ _ h (hs.heap (hs.st.same S hsb hi)) (hs.st.le S hsb.extBut) (.some (.int _ _))
theorem n_key0 {it d : Addr} {i ep : Nat} {kvs : List (Int × D)} {f f' : AO → Sig} {g g' : Sig} {P : Option D → Sig → Prop} (S : Sel σ it (.kit d i kvs.length ep) f g) (S' : Sel σ d (.idictE kvs ep) f' g') (hh : A.handled = none) (hk : kvs.length ≤ i)
    (h : P none g) : NX c A σ it P := fun s Q E hs q => by
  obtain ⟨vk, hat, kv⟩ := hs.st.at S'
  have hit : s.heap.IsKeyIter it d i vk.length ep := by rw [kv.length]; exact hs.st.at S
  refine wpAny_pyNext_dict_end hh hit hat (by simpa using by rw [kv.length]; exact hk) fun h' hsb => ?_
  exact q _ _ _ _ h (hs.heap (hs.st.drop S hsb)) (hs.st.le S hsb) .none
theorem sb_idictE {value slice : Expr} {k : Int} {d : Addr} {ep : Nat} {x : D} {kvs : List (Int × D)} {f : AO → Sig} {g : Sig} {P : D → Sig → Prop} (S : Sel σ d (.idictE kvs ep) f g) (hk : kAt kvs k = some x)
    (h : P x σ) : SB c A σ value slice (.ref d) (.int k) P := fun v w s Q E hs r r' q => by
  cases r
  cases r' with
  | int _ tk =>
  obtain ⟨vk, hat, kv⟩ := hs.st.at S
  have hd := hat.dictOf
  obtain ⟨ops, ho⟩ := subscripted_any slice (.ref d) (.int k tk)
  have := kv.at k
  rw [hk] at this
  generalize e : valueAt vk k = y at this
  cases this with
  | some r => exact tail_any hd.mapOf.typeIs slot_dict_getitem.lookup (wpAny_getItem_of (intKind_is c.prog c.w k tk) hd.mapOf e (q _ _ _ _ h hs.tok (.refl _) r)) ho
/-- the order of a dict is forgotten -/
theorem x_unE {d : Addr} {ep : Nat} {kvs : List (Int × D)} {f : AO → Sig} {g : Sig} {s : Shared} (S : Sel σ d (.idictE kvs ep) f g) (hs : Sok c s σ) : Sok c s (f (.idict kvs)) := by
  obtain ⟨vk, hat, kv⟩ := hs.st.at S
  have := hs.st.same S (Heap.SameBut.refl d s.heap) (ao' := .idict kvs) ⟨vk, hat.dictOf, kv⟩
  exact ⟨this, hs.gens, hs.os⟩

end
end
section

section
variable {c : Cx} {A : Around} {env : Env} {σ : Sig}
theorem Le.trans' {h h' h'' : Heap} (x : Le h h') (y : Le h' h'') : Le h h'' := x.trans y
theorem cc_def1 {n : Nat} {f : Addr} {name qual : Str} {params : Arguments} {body : List Stmt} {scope : Scope} {dV kV doc pm cdv ct oc : Value} {an od : Option Addr} {osl : Array (Option Value)} {d1 d2 d3 d4 : D} {n1 n2 n3 y : Str} {rest : List Str}
    {m : List (Str × Option D)} {P : D → Sig → Prop} (ho : c.K.lookup f = some ⟨oc, od, .func (fnOf name qual params body scope dV kV doc pm an cdv ct), osl⟩) (hcd : codeIn c.K cdv qual = true) (hr : Rm A (n + 1))
    (hbind : ∀ v1 v2 v3 v4, bindArgs (fnOf name qual params body scope dV kV doc pm an cdv ct) ⟨[v1, v2, v3, v4], []⟩ = pure [(n1, v1), (n2, v2), (n3, v3), (y, v4)])
    (hcells : ∀ n, cellsFrom n scope.names [] = [(y, n)]) (hn : ([n1, n2, n3] ++ rest).Nodup)
    (h1 : scope.names.lookup n1 = some .local) (h2 : scope.names.lookup n2 = some .local) (h3 : scope.names.lookup n3 = some .local) (h4 : scope.names.lookup y = some .cell)
    (hm : m = (n1, some d1) :: (n2, some d2) :: (n3, some d3) :: rest.map fun x => (x, none))
    (h : ∀ L C A', A' = A.deeper (envX qual scope L f cdv [(y, C)]) → Rm A' n → XS c A' (envX qual scope L f cdv [(y, C)]) ((L, .fr m) :: (C, .cell (some d4)) :: σ) body (retP P))
    (hco : scope.isCoroutine = false := by rfl) (hgen : scope.isGenerator = false := by rfl) (hk : scope.kind = .function := by rfl) : CC c A σ (.ref f) [d1, d2, d3, d4] P := fun vs s R hs r q => by
  cases r with
  | @cons v1 _ _ _ r1 r =>
  cases r with
  | @cons v2 _ _ _ r2 r =>
  cases r with
  | @cons v3 _ _ _ r3 r =>
  cases r with
  | @cons v4 _ _ _ r4 r =>
  cases r
  have hlim : s.heap.NoLimit := c.nl.keeps hs.st.keep
  refine codeAny_call_function (by have := hr.d; omega) (hs.st.XK _ _ ho) rfl hco hgen rfl (codeRec_of hs.st.XK hcd) ((BindsTo.of_eq (hbind v1 v2 v3 v4)) _ _ _ _ ?_)
  refine wpAny_newFunctionEnv_cells hk (fun x hx => ?_) fun env' he s' x => ?_
  · rw [hcells]
    simp only [List.mem_cons, List.not_mem_nil, or_false] at hx
    rcases hx with rfl | rfl | rfl | rfl
    · exact .inl h1
    · exact .inl h2
    · exact .inl h3
    · exact .inr ⟨h4, by simp⟩
  rw [hcells] at he
  subst he
  refine ⟨hlim.keeps x.toInCall.keep, codeAny_func ?_⟩
  have le : Le s.heap s'.heap := .keeps x.toInCall.keep
  have hnr : m.map (·.1) = [n1, n2, n3] ++ rest := by rw [hm]; simp [Function.comp_def]
  have k1 : ∀ z (k : NameKind), scope.names.lookup z = some k → Env.kindOf (newEnv scope s.heap.objs.size mainGlobals [(y, s.heap.objs.size + 1)] (qual ++ ".<locals>.") (some f) cdv none builtinsNs) z = some k := fun z k e => e
  have e1 := k1 _ _ h1
  have e2 := k1 _ _ h2
  have e3 := k1 _ _ h3
  have e4 := k1 _ _ h4
  have ns := x.toInCall.ns
  have cell := x.cell y (s.heap.objs.size + 1) (by show List.lookup y [(y, s.heap.objs.size + 1)] = _; simp)
  simp only [bindL, bindC, e1, e2, e3, e4, if_true] at ns cell
  simp only [reduceCtorEq, Option.some.injEq, if_false, if_true] at ns cell
  have f0 : FR s'.heap (fun _ => none) (([n1, n2, n3] ++ rest).map fun x => (x, none)) := frame_none hn
  have f1 := f0.upd (x := n1) .head (.some (r1.mono le))
  have f2 := f1.upd (x := n2) (.tail .head) (.some (r2.mono le))
  have f3 := f2.upd (x := n3) (.tail (.tail .head)) (.some (r3.mono le))
  have hL : s.heap.objs.size ≤ s.heap.objs.size := Nat.le_refl _
  obtain ⟨oc', hoc, hdc⟩ := cell
  have nd : s.heap.objs.size ≠ s.heap.objs.size + 1 := Nat.ne_of_lt (Nat.lt_succ_self _)
  have none_of : ∀ a, s.heap.objs.size ≤ a → c.B.get? a = none ∧ a ≠ sysModules := fun a ha => hs.st.out ha
  have lt_of : ∀ p ∈ σ, p.1 < s.heap.objs.size := fun p hp => by obtain ⟨o, ho, _⟩ := (hs.st.ob p hp).obj; exact Heap.lt_size ho
  have st0 := hs.st.keeps x.toInCall.keep
  have st : St c s'.heap ((s.heap.objs.size, .fr m) :: (s.heap.objs.size + 1, .cell (some d4)) :: σ) := by
    refine ⟨st0.keep, fun p hp => ?_, fun p hp => ?_, ?_⟩
    · rcases List.mem_cons.mp hp with rfl | hp
      · exact ⟨_, ns, by rw [hm]; exact f3⟩
      · rcases List.mem_cons.mp hp with rfl | hp
        · exact ⟨_, _, hoc, hdc, .some (r4.mono le)⟩
        · exact st0.ob p hp
    · rcases List.mem_cons.mp hp with rfl | hp
      · exact none_of _ (Nat.le_refl _)
      · rcases List.mem_cons.mp hp with rfl | hp
        · exact none_of _ (Nat.le_succ _)
        · exact st0.off p hp
    · refine List.nodup_cons.mpr ⟨fun hm => ?_, List.nodup_cons.mpr ⟨fun hm => ?_, hs.st.nd⟩⟩
      · rcases List.mem_cons.mp hm with e | hm
        · exact nd e
        · obtain ⟨p, hp, e⟩ := List.mem_map.mp hm
          have z := lt_of p hp
          rw [e] at z
          exact Nat.lt_irrefl _ z
      · obtain ⟨p, hp, e⟩ := List.mem_map.mp hm
        have z := lt_of p hp
        rw [e] at z
        exact absurd z (Nat.not_lt.mpr (Nat.le_succ _))
  obtain ⟨h₁, tk, hs', _⟩ := x.done
  have hs1 : Sok c s' ((s.heap.objs.size, .fr m) :: (s.heap.objs.size + 1, .cell (some d4)) :: σ) := by
    refine ⟨st, ?_, ?_⟩
    · rw [hs']; exact hs.gens
    · rw [hs']; exact hs.os
  refine h s.heap.objs.size (s.heap.objs.size + 1) _ rfl (hr.deeper _) _ _ _ hs1 fun fl s'' b σ' hp hs' l' r' => ?_
  obtain ⟨σ'', k, hp⟩ := hp
  cases r' with
  | next => exact q _ _ _ _ hp ⟨hs'.st.sub k, hs'.gens, hs'.os⟩ (le.trans l') .none
  | brk => exact q _ _ _ _ hp ⟨hs'.st.sub k, hs'.gens, hs'.os⟩ (le.trans l') .none
  | cont => exact q _ _ _ _ hp ⟨hs'.st.sub k, hs'.gens, hs'.os⟩ (le.trans l') .none
  | ret r => exact q _ _ _ _ hp ⟨hs'.st.sub k, hs'.gens, hs'.os⟩ (le.trans l') r
end
end
section

structure OKc (c : Cx) : Prop where
  hK : c.K = hd.heap_1 c.w.params
section
variable {c : Cx} (k : OKc c)
theorem OKc.lk {β : Type} {f : Frag → β} {r : β} (k : OKc c) (e : f (hd.heap_1 c.w.params) = r) : f c.K = r := by rw [k.hK]; exact e

theorem g_REF (k : OKc c) : ∃ t, nsIn c.K mainGlobals "REF" = some (some (.int 0 t)) := ⟨_, by rw [k.hK]; k_is⟩
theorem g_SRF (k : OKc c) : ∃ t, nsIn c.K mainGlobals "SRF" = some (some (.int 1 t)) := ⟨_, by rw [k.hK]; k_is⟩
theorem g_STR (k : OKc c) : ∃ t, nsIn c.K mainGlobals "STR" = some (some (.int 2 t)) := ⟨_, by rw [k.hK]; k_is⟩
theorem g_LIS (k : OKc c) : ∃ t, nsIn c.K mainGlobals "LIS" = some (some (.int 3 t)) := ⟨_, by rw [k.hK]; k_is⟩
theorem g_CON (k : OKc c) : ∃ t, nsIn c.K mainGlobals "CON" = some (some (.int 4 t)) := ⟨_, by rw [k.hK]; k_is⟩
theorem g_INT (k : OKc c) : ∃ t, nsIn c.K mainGlobals "INT" = some (some (.int 5 t)) := ⟨_, by rw [k.hK]; k_is⟩
theorem g_FUN (k : OKc c) : ∃ t, nsIn c.K mainGlobals "FUN" = some (some (.int 6 t)) := ⟨_, by rw [k.hK]; k_is⟩
theorem g_A_NIL (k : OKc c) : ∃ t, nsIn c.K mainGlobals "A_NIL" = some (some (.int 0 t)) := ⟨_, by rw [k.hK]; k_is⟩
theorem g_A_PLUS (k : OKc c) : ∃ t, nsIn c.K mainGlobals "A_PLUS" = some (some (.int 4 t)) := ⟨_, by rw [k.hK]; k_is⟩
theorem g_F_DOT (k : OKc c) : ∃ t, nsIn c.K mainGlobals "F_DOT" = some (some (.int 0 t)) := ⟨_, by rw [k.hK]; k_is⟩
theorem g_F_MINUS1 (k : OKc c) : ∃ t, nsIn c.K mainGlobals "F_MINUS1" = some (some (.int 12 t)) := ⟨_, by rw [k.hK]; k_is⟩
theorem g_F_MINUS (k : OKc c) : ∃ t, nsIn c.K mainGlobals "F_MINUS" = some (some (.int 13 t)) := ⟨_, by rw [k.hK]; k_is⟩
theorem g_F_CATCH (k : OKc c) : ∃ t, nsIn c.K mainGlobals "F_CATCH" = some (some (.int 18 t)) := ⟨_, by rw [k.hK]; k_is⟩
theorem g_VOID (k : OKc c) : nsIn c.K mainGlobals "VOID" = some (some (.ref 180)) := by rw [k.hK]; k_is
theorem g_fixed_atoms (k : OKc c) : nsIn c.K mainGlobals "fixed_atoms" = some (some (.ref 60)) := by rw [k.hK]; k_is
theorem kp_fixed_atoms (k : OKc c) : keepIn c.K (.ref 60) = true := by rw [k.hK]; k_is
theorem g_fixed_functors (k : OKc c) : nsIn c.K mainGlobals "fixed_functors" = some (some (.ref 67)) := by rw [k.hK]; k_is
theorem kp_fixed_functors (k : OKc c) : keepIn c.K (.ref 67) = true := by rw [k.hK]; k_is
theorem g_Symbols (k : OKc c) : nsIn c.K mainGlobals "Symbols" = some (some (.ref 154)) := by rw [k.hK]; k_is
theorem kp_Symbols (k : OKc c) : keepIn c.K (.ref 154) = true := by rw [k.hK]; k_is
theorem g_Store (k : OKc c) : nsIn c.K mainGlobals "Store" = some (some (.ref 374)) := by rw [k.hK]; k_is
theorem kp_Store (k : OKc c) : keepIn c.K (.ref 374) = true := by rw [k.hK]; k_is
theorem g__law_row (k : OKc c) : nsIn c.K mainGlobals "_law_row" = some (some (.ref 383)) := by rw [k.hK]; k_is
theorem kp__law_row (k : OKc c) : keepIn c.K (.ref 383) = true := by rw [k.hK]; k_is
theorem g__law_next (k : OKc c) : nsIn c.K mainGlobals "_law_next" = some (some (.ref 390)) := by rw [k.hK]; k_is
theorem kp__law_next (k : OKc c) : keepIn c.K (.ref 390) = true := by rw [k.hK]; k_is
theorem g__law_term (k : OKc c) : nsIn c.K mainGlobals "_law_term" = some (some (.ref 397)) := by rw [k.hK]; k_is
theorem kp__law_term (k : OKc c) : keepIn c.K (.ref 397) = true := by rw [k.hK]; k_is
theorem g__law_same (k : OKc c) : nsIn c.K mainGlobals "_law_same" = some (some (.ref 402)) := by rw [k.hK]; k_is
theorem kp__law_same (k : OKc c) : keepIn c.K (.ref 402) = true := by rw [k.hK]; k_is
theorem g__law_picked (k : OKc c) : nsIn c.K mainGlobals "_law_picked" = some (some (.ref 409)) := by rw [k.hK]; k_is
theorem kp__law_picked (k : OKc c) : keepIn c.K (.ref 409) = true := by rw [k.hK]; k_is
theorem g_len (k : OKc c) : nsIn c.K mainGlobals "len" = some none := by rw [k.hK]; k_is
theorem g_range (k : OKc c) : nsIn c.K mainGlobals "range" = some none := by rw [k.hK]; k_is
theorem g_list (k : OKc c) : nsIn c.K mainGlobals "list" = some none := by rw [k.hK]; k_is
theorem g_tuple (k : OKc c) : nsIn c.K mainGlobals "tuple" = some none := by rw [k.hK]; k_is
theorem g_set (k : OKc c) : nsIn c.K mainGlobals "set" = some none := by rw [k.hK]; k_is
theorem ao_texts (k : OKc c) : attrOk c.K 154 "texts" = true := by rw [k.hK]; kernel_rfl
theorem po_texts (k : OKc c) : putOk c.K 154 "texts" = true := by rw [k.hK]; kernel_rfl
theorem ao_atom_numbers (k : OKc c) : attrOk c.K 154 "atom_numbers" = true := by rw [k.hK]; kernel_rfl
theorem po_atom_numbers (k : OKc c) : putOk c.K 154 "atom_numbers" = true := by rw [k.hK]; kernel_rfl
theorem ao_functors (k : OKc c) : attrOk c.K 154 "functors" = true := by rw [k.hK]; kernel_rfl
theorem po_functors (k : OKc c) : putOk c.K 154 "functors" = true := by rw [k.hK]; kernel_rfl
theorem ao_functor_numbers (k : OKc c) : attrOk c.K 154 "functor_numbers" = true := by rw [k.hK]; kernel_rfl
theorem po_functor_numbers (k : OKc c) : putOk c.K 154 "functor_numbers" = true := by rw [k.hK]; kernel_rfl
theorem ao_symbols (k : OKc c) : attrOk c.K 374 "symbols" = true := by rw [k.hK]; kernel_rfl
theorem po_symbols (k : OKc c) : putOk c.K 374 "symbols" = true := by rw [k.hK]; kernel_rfl
theorem ao_max_heap (k : OKc c) : attrOk c.K 374 "max_heap" = true := by rw [k.hK]; kernel_rfl
theorem po_max_heap (k : OKc c) : putOk c.K 374 "max_heap" = true := by rw [k.hK]; kernel_rfl
theorem ao_heap (k : OKc c) : attrOk c.K 374 "heap" = true := by rw [k.hK]; kernel_rfl
theorem po_heap (k : OKc c) : putOk c.K 374 "heap" = true := by rw [k.hK]; kernel_rfl
theorem ao_stack (k : OKc c) : attrOk c.K 374 "stack" = true := by rw [k.hK]; kernel_rfl
theorem po_stack (k : OKc c) : putOk c.K 374 "stack" = true := by rw [k.hK]; kernel_rfl
theorem ao_trail (k : OKc c) : attrOk c.K 374 "trail" = true := by rw [k.hK]; kernel_rfl
theorem po_trail (k : OKc c) : putOk c.K 374 "trail" = true := by rw [k.hK]; kernel_rfl
theorem ao_hb (k : OKc c) : attrOk c.K 374 "hb" = true := by rw [k.hK]; kernel_rfl
theorem po_hb (k : OKc c) : putOk c.K 374 "hb" = true := by rw [k.hK]; kernel_rfl
theorem ao_bb (k : OKc c) : attrOk c.K 374 "bb" = true := by rw [k.hK]; kernel_rfl
theorem po_bb (k : OKc c) : putOk c.K 374 "bb" = true := by rw [k.hK]; kernel_rfl
theorem mo_atom (k : OKc c) : methOk c.K 154 "atom" 88 = true := by rw [k.hK]; kernel_rfl
theorem mo_functor (k : OKc c) : methOk c.K 154 "functor" 102 = true := by rw [k.hK]; kernel_rfl
theorem mo_func (k : OKc c) : methOk c.K 154 "func" 109 = true := by rw [k.hK]; kernel_rfl
theorem mo_name (k : OKc c) : methOk c.K 154 "name" 116 = true := by rw [k.hK]; kernel_rfl
theorem mo_arity (k : OKc c) : methOk c.K 154 "arity" 123 = true := by rw [k.hK]; kernel_rfl
theorem mo_push (k : OKc c) : methOk c.K 374 "push" 202 = true := by rw [k.hK]; kernel_rfl
theorem mo_new_var (k : OKc c) : methOk c.K 374 "new_var" 209 = true := by rw [k.hK]; kernel_rfl
theorem mo_reserve (k : OKc c) : methOk c.K 374 "reserve" 216 = true := by rw [k.hK]; kernel_rfl
theorem mo_deref (k : OKc c) : methOk c.K 374 "deref" 230 = true := by rw [k.hK]; kernel_rfl
theorem mo_is_unbound (k : OKc c) : methOk c.K 374 "is_unbound" 237 = true := by rw [k.hK]; kernel_rfl
theorem mo_bind (k : OKc c) : methOk c.K 374 "bind" 244 = true := by rw [k.hK]; kernel_rfl
theorem mo_globalise (k : OKc c) : methOk c.K 374 "globalise" 258 = true := by rw [k.hK]; kernel_rfl
theorem mo_stack_put (k : OKc c) : methOk c.K 374 "stack_put" 279 = true := by rw [k.hK]; kernel_rfl
theorem mo_is_compound (k : OKc c) : methOk c.K 374 "is_compound" 286 = true := by rw [k.hK]; kernel_rfl
theorem mo_functor_of (k : OKc c) : methOk c.K 374 "functor_of" 293 = true := by rw [k.hK]; kernel_rfl
theorem mo_width (k : OKc c) : methOk c.K 374 "width" 300 = true := by rw [k.hK]; kernel_rfl
theorem mo_base (k : OKc c) : methOk c.K 374 "base" 307 = true := by rw [k.hK]; kernel_rfl
theorem mo_arg (k : OKc c) : methOk c.K 374 "arg" 314 = true := by rw [k.hK]; kernel_rfl
theorem mo_new_block (k : OKc c) : methOk c.K 374 "new_block" 321 = true := by rw [k.hK]; kernel_rfl
theorem mo_new_struct (k : OKc c) : methOk c.K 374 "new_struct" 342 = true := by rw [k.hK]; kernel_rfl
theorem mo_build_list (k : OKc c) : methOk c.K 374 "build_list" 350 = true := by rw [k.hK]; kernel_rfl
theorem mo_list_cells (k : OKc c) : methOk c.K 374 "list_cells" 357 = true := by rw [k.hK]; kernel_rfl
theorem mo_put_term (k : OKc c) : methOk c.K 374 "put_term" 364 = true := by rw [k.hK]; kernel_rfl
theorem mk_154 (k : OKc c) : makesIn c.K 154 = true := by rw [k.hK]; k_is
theorem in_154 (k : OKc c) : findIn c.K (.ref 154) "__init__" = some (some (.ref 81)) := by rw [k.hK]; k_is
theorem fn_154 (k : OKc c) : isFn c.K (.ref 81) = true := by rw [k.hK]; k_is
theorem mk_374 (k : OKc c) : makesIn c.K 374 = true := by rw [k.hK]; k_is
theorem in_374 (k : OKc c) : findIn c.K (.ref 374) "__init__" = some (some (.ref 195)) := by rw [k.hK]; k_is
theorem fn_374 (k : OKc c) : isFn c.K (.ref 195) = true := by rw [k.hK]; k_is
end
end
section

structure Ad where
  (sg sgd tx an fs fn st std hp sk tr : Addr)
structure Sy where
  tl : List Str
  ak : List (Str × Int)
  fl : List (Int × Int)
  kv : List (List Int × Int)
structure Wc where
  sy : Sy
  hs : List (Int × Int)
  ss : List (Int × Int)
noncomputable def iv {κ : Type} (kv : List (κ × Int)) : List (κ × D) := kv.map fun p => (p.1, .int p.2)
noncomputable def syN (a : Ad) : List (Str × Option D) := [("texts", some (.ref a.tx)), ("atom_numbers", some (.ref a.an)), ("functors", some (.ref a.fs)), ("functor_numbers", some (.ref a.fn))]
noncomputable def stN (a : Ad) : List (Str × Option D) := [("symbols", some (.ref a.sg)), ("max_heap", some (.int 100000)), ("heap", some (.ref a.hp)), ("stack", some (.ref a.sk)), ("trail", some (.ref a.tr)), ("hb", some (.int 0)), ("bb", some (.int 0))]
noncomputable def ssig (a : Ad) (y : Sy) : Sig := [(a.sg, .inst 154 a.sgd), (a.sgd, .ns (syN a) 4), (a.tx, .list (y.tl.map .str)), (a.an, .sdict (iv y.ak)), (a.fs, .list (cm y.fl)), (a.fn, .tdict (iv y.kv))]
noncomputable def wsig (a : Ad) (w : Wc) : Sig := ssig a w.sy ++ [(a.st, .inst 374 a.std), (a.std, .ns (stN a) 7), (a.hp, .list (cm w.hs)), (a.sk, .list (cm w.ss)), (a.tr, .list [])]

inductive Hole {X : Type} (b : X → Sig) : Sig → X → (X → Sig) → Prop
  | here {x : X} {Y : Sig} : Hole b (b x ++ Y) x (fun x => b x ++ Y)
  | skip {p : Addr × AO} {σ : Sig} {x : X} {F : X → Sig} : Hole b σ x F → Hole b (p :: σ) x (fun x => p :: F x)
noncomputable def HF {X : Type} (b : X → Sig) (F : X → Sig) : Prop := ∀ x, Hole b (F x) x F
theorem HF.s {X : Type} {b F : X → Sig} (h : HF b F) (x : X) : Hole b (F x) x F := h x
theorem Hole.eq {X : Type} {b F : X → Sig} {σ : Sig} {x : X} (h : Hole b σ x F) : σ = F x := by
  induction h with
  | here => rfl
  | skip _ ih => rw [ih]
theorem Hole.all {X : Type} {b F : X → Sig} {σ : Sig} {x : X} (h : Hole b σ x F) : HF b F := by
  induction h with
  | here => exact fun _ => .here
  | skip _ ih => exact fun y => .skip (ih y)
theorem Hole.sel {X : Type} {b F : X → Sig} {σ : Sig} {x : X} {p : Addr} {ao : AO} {R : AO → X → Prop} (S : Hole b σ x F)
    (h : ∀ Y, ∃ f g, Sel (b x ++ Y) p ao f g ∧ ∀ ao' x', R ao' x' → f ao' = b x' ++ Y) : ∃ f g, Sel σ p ao f g ∧ ∀ ao' x', R ao' x' → f ao' = F x' := by
  induction S with
  | here => exact h _
  | @skip q _ _ _ _ ih =>
    obtain ⟨f, g, s, e⟩ := ih h
    exact ⟨_, _, .tail s, fun ao' x' r => by show q :: f ao' = q :: _; rw [e _ _ r]⟩
theorem Hole.sy {a : Ad} {σ : Sig} {w : Wc} {F : Wc → Sig} (h : Hole (wsig a) σ w F) : Hole (ssig a) σ w.sy (fun y => F { w with sy := y }) := by
  induction h with
  | @here x Y => exact Hole.here (b := ssig a) (x := x.sy) (Y := [(a.st, .inst 374 a.std), (a.std, .ns (stN a) 7), (a.hp, .list (cm x.hs)), (a.sk, .list (cm x.ss)), (a.tr, .list [])] ++ Y)
  | skip _ ih => exact .skip ih

noncomputable def kAtI {κ : Type} [DecidableEq κ] (kvs : List (κ × Int)) (k : κ) : Option Int := (kvs.find? fun kv => kv.1 = k).map (·.2)
noncomputable def kPutI {κ : Type} [DecidableEq κ] (kvs : List (κ × Int)) (k : κ) (d : Int) : List (κ × Int) := if kvs.any (fun kv => kv.1 = k) then kvs.map (fun kv => if kv.1 = k then (kv.1, d) else kv) else kvs ++ [(k, d)]
theorem kAt_iv {κ : Type} [DecidableEq κ] (kvs : List (κ × Int)) (k : κ) : kAt (iv kvs) k = (kAtI kvs k).map .int := by
  unfold kAt kAtI iv
  rw [List.find?_map, Option.map_map, Option.map_map]
  rfl
theorem kPut_iv {κ : Type} [DecidableEq κ] (kvs : List (κ × Int)) (k : κ) (i : Int) : kPut (iv kvs) k (.int i) = iv (kPutI kvs k i) := by
  unfold kPut kPutI iv
  rw [show (kvs.map fun p => (p.1, D.int p.2)).any (fun kv => kv.1 = k) = kvs.any (fun kv => kv.1 = k) from List.any_map ..]
  by_cases h : kvs.any (fun kv => kv.1 = k) = true
  · rw [if_pos h, if_pos h, List.map_map, List.map_map]
    congr 1
    funext p
    simp only [Function.comp]
    split <;> rfl
  · rw [if_neg h, if_neg h, List.map_append]; rfl
theorem iv_length {κ : Type} (kvs : List (κ × Int)) : (iv kvs).length = kvs.length := List.length_map ..

section
variable {c : Cx} {A : Around} {env : Env} {σ : Sig} {a : Ad}
section
variable {y : Sy} {F : Sy → Sig}
theorem Hole.sg (S : Hole (ssig a) σ y F) : ∃ f g, Sel σ a.sg (.inst 154 a.sgd) f g := let ⟨f, g, s, _⟩ := S.sel (R := fun _ _ => False) fun Y => ⟨_, _, .head, fun _ _ h => h.elim⟩; ⟨f, g, s⟩
theorem Hole.sgd (S : Hole (ssig a) σ y F) : ∃ f g, Sel σ a.sgd (.ns (syN a) 4) f g := let ⟨f, g, s, _⟩ := S.sel (R := fun _ _ => False) fun Y => ⟨_, _, .tail .head, fun _ _ h => h.elim⟩; ⟨f, g, s⟩
theorem Hole.tx (S : Hole (ssig a) σ y F) : ∃ f g, Sel σ a.tx (.list (y.tl.map .str)) f g ∧ ∀ l, f (.list (l.map .str)) = F { y with tl := l } :=
  let ⟨f, g, s, e⟩ := S.sel (R := fun ao z => ∃ l, ao = .list (l.map .str) ∧ z = { y with tl := l }) fun Y => ⟨_, _, .tail (.tail .head), fun _ _ ⟨l, h1, h2⟩ => by subst h1; subst h2; rfl⟩; ⟨f, g, s, fun l => e _ _ ⟨l, rfl, rfl⟩⟩
theorem Hole.an (S : Hole (ssig a) σ y F) : ∃ f g, Sel σ a.an (.sdict (iv y.ak)) f g ∧ ∀ l, f (.sdict (iv l)) = F { y with ak := l } :=
  let ⟨f, g, s, e⟩ := S.sel (R := fun ao z => ∃ l, ao = .sdict (iv l) ∧ z = { y with ak := l }) fun Y => ⟨_, _, .tail (.tail (.tail .head)), fun _ _ ⟨l, h1, h2⟩ => by subst h1; subst h2; rfl⟩; ⟨f, g, s, fun l => e _ _ ⟨l, rfl, rfl⟩⟩
theorem Hole.fs (S : Hole (ssig a) σ y F) : ∃ f g, Sel σ a.fs (.list (cm y.fl)) f g ∧ ∀ l, f (.list (cm l)) = F { y with fl := l } :=
  let ⟨f, g, s, e⟩ := S.sel (R := fun ao z => ∃ l, ao = .list (cm l) ∧ z = { y with fl := l }) fun Y => ⟨_, _, .tail (.tail (.tail (.tail .head))), fun _ _ ⟨l, h1, h2⟩ => by subst h1; subst h2; rfl⟩; ⟨f, g, s, fun l => e _ _ ⟨l, rfl, rfl⟩⟩
theorem Hole.fn (S : Hole (ssig a) σ y F) : ∃ f g, Sel σ a.fn (.tdict (iv y.kv)) f g ∧ ∀ l, f (.tdict (iv l)) = F { y with kv := l } :=
  let ⟨f, g, s, e⟩ := S.sel (R := fun ao z => ∃ l, ao = .tdict (iv l) ∧ z = { y with kv := l }) fun Y => ⟨_, _, .tail (.tail (.tail (.tail (.tail .head)))), fun _ _ ⟨l, h1, h2⟩ => by subst h1; subst h2; rfl⟩; ⟨f, g, s, fun l => e _ _ ⟨l, rfl, rfl⟩⟩

theorem w_texts (k : OKc c) (S : Hole (ssig a) σ y F) {P : D → Sig → Prop} (h : P (.ref a.tx) σ) : GA c A σ "texts" (.ref a.sg) P := by
  obtain ⟨_, _, S1⟩ := S.sg
  obtain ⟨_, _, S2⟩ := S.sgd
  exact ga_inst S1 S2 (by unfold syN; repeat (first | exact .head _ | apply List.Mem.tail)) (ao_texts k) h
theorem w_atom_numbers (k : OKc c) (S : Hole (ssig a) σ y F) {P : D → Sig → Prop} (h : P (.ref a.an) σ) : GA c A σ "atom_numbers" (.ref a.sg) P := by
  obtain ⟨_, _, S1⟩ := S.sg
  obtain ⟨_, _, S2⟩ := S.sgd
  exact ga_inst S1 S2 (by unfold syN; repeat (first | exact .head _ | apply List.Mem.tail)) (ao_atom_numbers k) h
theorem w_functors (k : OKc c) (S : Hole (ssig a) σ y F) {P : D → Sig → Prop} (h : P (.ref a.fs) σ) : GA c A σ "functors" (.ref a.sg) P := by
  obtain ⟨_, _, S1⟩ := S.sg
  obtain ⟨_, _, S2⟩ := S.sgd
  exact ga_inst S1 S2 (by unfold syN; repeat (first | exact .head _ | apply List.Mem.tail)) (ao_functors k) h
theorem w_functor_numbers (k : OKc c) (S : Hole (ssig a) σ y F) {P : D → Sig → Prop} (h : P (.ref a.fn) σ) : GA c A σ "functor_numbers" (.ref a.sg) P := by
  obtain ⟨_, _, S1⟩ := S.sg
  obtain ⟨_, _, S2⟩ := S.sgd
  exact ga_inst S1 S2 (by unfold syN; repeat (first | exact .head _ | apply List.Mem.tail)) (ao_functor_numbers k) h
theorem m_atom (k : OKc c) (S : Hole (ssig a) σ y F) {pos : Pos} {args : List Expr} {P : D → Sig → Prop} (hp : plainStarts args = true) (h : VS c A env σ pos args fun ds σ₁ => CL c A σ₁ (.ref 88) (.ref a.sg :: ds) P) : MT c A env σ (.ref a.sg) "atom" pos args P := by
  obtain ⟨_, _, S1⟩ := S.sg
  obtain ⟨_, _, S2⟩ := S.sgd
  exact mt_inst S1 S2 (by kernel_rfl) (mo_atom k) h hp
theorem m_functor (k : OKc c) (S : Hole (ssig a) σ y F) {pos : Pos} {args : List Expr} {P : D → Sig → Prop} (hp : plainStarts args = true) (h : VS c A env σ pos args fun ds σ₁ => CL c A σ₁ (.ref 102) (.ref a.sg :: ds) P) : MT c A env σ (.ref a.sg) "functor" pos args P := by
  obtain ⟨_, _, S1⟩ := S.sg
  obtain ⟨_, _, S2⟩ := S.sgd
  exact mt_inst S1 S2 (by kernel_rfl) (mo_functor k) h hp
theorem m_func (k : OKc c) (S : Hole (ssig a) σ y F) {pos : Pos} {args : List Expr} {P : D → Sig → Prop} (hp : plainStarts args = true) (h : VS c A env σ pos args fun ds σ₁ => CL c A σ₁ (.ref 109) (.ref a.sg :: ds) P) : MT c A env σ (.ref a.sg) "func" pos args P := by
  obtain ⟨_, _, S1⟩ := S.sg
  obtain ⟨_, _, S2⟩ := S.sgd
  exact mt_inst S1 S2 (by kernel_rfl) (mo_func k) h hp
theorem m_name (k : OKc c) (S : Hole (ssig a) σ y F) {pos : Pos} {args : List Expr} {P : D → Sig → Prop} (hp : plainStarts args = true) (h : VS c A env σ pos args fun ds σ₁ => CL c A σ₁ (.ref 116) (.ref a.sg :: ds) P) : MT c A env σ (.ref a.sg) "name" pos args P := by
  obtain ⟨_, _, S1⟩ := S.sg
  obtain ⟨_, _, S2⟩ := S.sgd
  exact mt_inst S1 S2 (by kernel_rfl) (mo_name k) h hp
theorem m_arity (k : OKc c) (S : Hole (ssig a) σ y F) {pos : Pos} {args : List Expr} {P : D → Sig → Prop} (hp : plainStarts args = true) (h : VS c A env σ pos args fun ds σ₁ => CL c A σ₁ (.ref 123) (.ref a.sg :: ds) P) : MT c A env σ (.ref a.sg) "arity" pos args P := by
  obtain ⟨_, _, S1⟩ := S.sg
  obtain ⟨_, _, S2⟩ := S.sgd
  exact mt_inst S1 S2 (by kernel_rfl) (mo_arity k) h hp

theorem y_lentx (S : Hole (ssig a) σ y F) (hz : y.tl.length < 1000000) {P : D → Sig → Prop} (h : P (.int y.tl.length) σ) : CL c A σ (.builtin "len") [.ref a.tx] P := by
  obtain ⟨f, g, S1, -⟩ := S.tx
  exact cl_len S1 (by rw [List.length_map]; omega) (by rw [List.length_map]; exact h)
theorem y_lenfs (S : Hole (ssig a) σ y F) (hz : y.fl.length < 1000000) {P : D → Sig → Prop} (h : P (.int y.fl.length) σ) : CL c A σ (.builtin "len") [.ref a.fs] P := by
  obtain ⟨f, g, S1, -⟩ := S.fs
  exact cl_len S1 (by rw [cm_length]; omega) (by rw [cm_length]; exact h)
theorem sizeLine_big : (1000001 : Nat) ≤ sizeLine := by rw [sizeLine_eq]; decide
theorem y_appfs (S : Hole (ssig a) σ y F) {e : Expr} {pos : Pos} {P : D → Sig → Prop} (hp : plainStarts [e] = true)
    (h : EV c A env σ e fun d σ₁ => ∃ p q y' F', d = .tup [.int p, .int q] ∧ Hole (ssig a) σ₁ y' F' ∧ y'.fl.length < 1000000 ∧ P .none (F' { y' with fl := y'.fl ++ [(p, q)] })) : MT c A env σ (.ref a.fs) "append" pos [e] P := by
  obtain ⟨f, g, S1, -⟩ := S.fs
  refine mt_append S1 (h.mono fun d σ₁ hh => ?_) hp
  obtain ⟨p, q, y', F', rfl, S', hz, hh⟩ := hh
  obtain ⟨f, g, S1, e1⟩ := S'.fs
  have z := sizeLine_big
  refine ⟨_, _, _, S1, by rw [cm_length]; omega, ?_⟩
  rw [show cm y'.fl ++ [D.tup [.int p, .int q]] = cm (y'.fl ++ [(p, q)]) from (cm_append _ [(p, q)]).symm, e1]
  exact hh
theorem y_apptx (S : Hole (ssig a) σ y F) {e : Expr} {pos : Pos} {P : D → Sig → Prop} (hp : plainStarts [e] = true)
    (h : EV c A env σ e fun d σ₁ => ∃ x y' F', d = .str x ∧ Hole (ssig a) σ₁ y' F' ∧ y'.tl.length < 1000000 ∧ P .none (F' { y' with tl := y'.tl ++ [x] })) : MT c A env σ (.ref a.tx) "append" pos [e] P := by
  obtain ⟨f, g, S1, -⟩ := S.tx
  refine mt_append S1 (h.mono fun d σ₁ hh => ?_) hp
  obtain ⟨x, y', F', rfl, S', hz, hh⟩ := hh
  obtain ⟨f, g, S1, e1⟩ := S'.tx
  have z := sizeLine_big
  refine ⟨_, _, _, S1, by rw [List.length_map]; omega, ?_⟩
  rw [show y'.tl.map D.str ++ [D.str x] = (y'.tl ++ [x]).map D.str from (List.map_append (l₂ := [x])).symm, e1]
  exact hh
theorem y_getan (S : Hole (ssig a) σ y F) {e₁ e₂ : Expr} {pos : Pos} {P : D → Sig → Prop} (hp : plainStarts [e₁, e₂] = true)
    (h : EV c A env σ e₁ fun d₁ σ₁ => EV c A env σ₁ e₂ fun d₂ σ₂ => ∃ x i y' F', d₁ = .str x ∧ d₂ = .int i ∧ Hole (ssig a) σ₂ y' F' ∧ P (.int ((kAtI y'.ak x).getD i)) σ₂) : MT c A env σ (.ref a.an) "get" pos [e₁, e₂] P := by
  obtain ⟨f, g, S1, -⟩ := S.an
  refine mt_getS S1 (h.mono fun d σ₁ hh => hh.mono fun d σ₁ hh => ?_) hp
  obtain ⟨x, i, y', F', rfl, rfl, S', hh⟩ := hh
  obtain ⟨f, g, S1, e1⟩ := S'.an
  refine ⟨_, _, _, _, rfl, S1, ?_⟩
  rw [kAt_iv]
  cases e : kAtI y'.ak x <;> (rw [e] at hh; exact hh)
theorem y_getfn {n : Nat} (hr : Rm A n) (S : Hole (ssig a) σ y F) {e₁ e₂ : Expr} {pos : Pos} {P : D → Sig → Prop} (hp : plainStarts [e₁, e₂] = true)
    (h : EV c A env σ e₁ fun d₁ σ₁ => EV c A env σ₁ e₂ fun d₂ σ₂ => ∃ p q i y' F', d₁ = .tup [.int p, .int q] ∧ d₂ = .int i ∧ Hole (ssig a) σ₂ y' F' ∧ P (.int ((kAtI y'.kv [p, q]).getD i)) σ₂) : MT c A env σ (.ref a.fn) "get" pos [e₁, e₂] P := by
  obtain ⟨f, g, S1, -⟩ := S.fn
  refine mt_getT hr S1 (h.mono fun d σ₁ hh => hh.mono fun d σ₁ hh => ?_) hp
  obtain ⟨p, q, i, y', F', rfl, rfl, S', hh⟩ := hh
  obtain ⟨f, g, S1, e1⟩ := S'.fn
  refine ⟨[p, q], _, _, _, rfl, S1, ?_⟩
  rw [kAt_iv]
  cases e : kAtI y'.kv [p, q] <;> (rw [e] at hh; exact hh)
theorem y_putan (S : Hole (ssig a) σ y F) {x : Str} {i : Int} {P : Sig → Prop} (hz : y.ak.length < 1000000) (h : P (F { y with ak := kPutI y.ak x i })) : SI c A σ (.ref a.an) (.str x) (.int i) P := by
  obtain ⟨f, g, S1, e⟩ := S.an
  have z := sizeLine_big
  exact si_sdict S1 (by rw [iv_length]; omega) (by rw [kPut_iv, e]; exact h)
theorem y_putfn {n : Nat} (hr : Rm A n) (S : Hole (ssig a) σ y F) {p q i : Int} {P : Sig → Prop} (hz : y.kv.length < 1000000) (h : P (F { y with kv := kPutI y.kv [p, q] i })) : SI c A σ (.ref a.fn) (.tup [.int p, .int q]) (.int i) P := by
  obtain ⟨f, g, S1, e⟩ := S.fn
  have z := sizeLine_big
  exact si_tdict (ks := [p, q]) hr S1 (by rw [iv_length]; omega) (by rw [kPut_iv, e]; exact h)
theorem y_fsat (S : Hole (ssig a) σ y F) {value slice : Expr} {k : Int} {p : Int × Int} {P : D → Sig → Prop} (h0 : 0 ≤ k) (hf : k < 1000000) (hk : y.fl[k.toNat]? = some p) (h : P (cellD p) σ) : SB c A σ value slice (.ref a.fs) (.int k) P := by
  obtain ⟨f, g, S1, e⟩ := S.fs
  exact sb_list S1 h0 (by omega) (by rw [cm_get, hk]; rfl) h
end
section
variable {w : Wc} {F : Wc → Sig}
theorem Hole.st (S : Hole (wsig a) σ w F) : ∃ f g, Sel σ a.st (.inst 374 a.std) f g := let ⟨f, g, s, _⟩ := S.sel (R := fun _ _ => False) fun Y => ⟨_, _, .tail (.tail (.tail (.tail (.tail (.tail .head))))), fun _ _ h => h.elim⟩; ⟨f, g, s⟩
theorem Hole.std (S : Hole (wsig a) σ w F) : ∃ f g, Sel σ a.std (.ns (stN a) 7) f g := let ⟨f, g, s, _⟩ := S.sel (R := fun _ _ => False) fun Y => ⟨_, _, .tail (.tail (.tail (.tail (.tail (.tail (.tail .head)))))), fun _ _ h => h.elim⟩; ⟨f, g, s⟩
theorem Hole.hp (S : Hole (wsig a) σ w F) : ∃ f g, Sel σ a.hp (.list (cm w.hs)) f g ∧ ∀ l, f (.list (cm l)) = F { w with hs := l } :=
  let ⟨f, g, s, e⟩ := S.sel (R := fun ao z => ∃ l, ao = .list (cm l) ∧ z = { w with hs := l }) fun Y => ⟨_, _, .tail (.tail (.tail (.tail (.tail (.tail (.tail (.tail .head))))))), fun _ _ ⟨l, h1, h2⟩ => by subst h1; subst h2; rfl⟩; ⟨f, g, s, fun l => e _ _ ⟨l, rfl, rfl⟩⟩
theorem Hole.sk (S : Hole (wsig a) σ w F) : ∃ f g, Sel σ a.sk (.list (cm w.ss)) f g ∧ ∀ l, f (.list (cm l)) = F { w with ss := l } :=
  let ⟨f, g, s, e⟩ := S.sel (R := fun ao z => ∃ l, ao = .list (cm l) ∧ z = { w with ss := l }) fun Y => ⟨_, _, .tail (.tail (.tail (.tail (.tail (.tail (.tail (.tail (.tail .head)))))))), fun _ _ ⟨l, h1, h2⟩ => by subst h1; subst h2; rfl⟩; ⟨f, g, s, fun l => e _ _ ⟨l, rfl, rfl⟩⟩
theorem Hole.tr (S : Hole (wsig a) σ w F) : ∃ f g, Sel σ a.tr (.list (cm [])) f g := let ⟨f, g, s, _⟩ := S.sel (R := fun _ _ => False) fun Y => ⟨_, _, .tail (.tail (.tail (.tail (.tail (.tail (.tail (.tail (.tail (.tail .head))))))))), fun _ _ h => h.elim⟩; ⟨f, g, s⟩

theorem w_symbols (k : OKc c) (S : Hole (wsig a) σ w F) {P : D → Sig → Prop} (h : P (.ref a.sg) σ) : GA c A σ "symbols" (.ref a.st) P := by
  obtain ⟨_, _, S1⟩ := S.st
  obtain ⟨_, _, S2⟩ := S.std
  exact ga_inst S1 S2 (by unfold stN; repeat (first | exact .head _ | apply List.Mem.tail)) (ao_symbols k) h
theorem w_max_heap (k : OKc c) (S : Hole (wsig a) σ w F) {P : D → Sig → Prop} (h : P (.int 100000) σ) : GA c A σ "max_heap" (.ref a.st) P := by
  obtain ⟨_, _, S1⟩ := S.st
  obtain ⟨_, _, S2⟩ := S.std
  exact ga_inst S1 S2 (by unfold stN; repeat (first | exact .head _ | apply List.Mem.tail)) (ao_max_heap k) h
theorem w_heap (k : OKc c) (S : Hole (wsig a) σ w F) {P : D → Sig → Prop} (h : P (.ref a.hp) σ) : GA c A σ "heap" (.ref a.st) P := by
  obtain ⟨_, _, S1⟩ := S.st
  obtain ⟨_, _, S2⟩ := S.std
  exact ga_inst S1 S2 (by unfold stN; repeat (first | exact .head _ | apply List.Mem.tail)) (ao_heap k) h
theorem w_stack (k : OKc c) (S : Hole (wsig a) σ w F) {P : D → Sig → Prop} (h : P (.ref a.sk) σ) : GA c A σ "stack" (.ref a.st) P := by
  obtain ⟨_, _, S1⟩ := S.st
  obtain ⟨_, _, S2⟩ := S.std
  exact ga_inst S1 S2 (by unfold stN; repeat (first | exact .head _ | apply List.Mem.tail)) (ao_stack k) h
theorem w_trail (k : OKc c) (S : Hole (wsig a) σ w F) {P : D → Sig → Prop} (h : P (.ref a.tr) σ) : GA c A σ "trail" (.ref a.st) P := by
  obtain ⟨_, _, S1⟩ := S.st
  obtain ⟨_, _, S2⟩ := S.std
  exact ga_inst S1 S2 (by unfold stN; repeat (first | exact .head _ | apply List.Mem.tail)) (ao_trail k) h
theorem w_hb (k : OKc c) (S : Hole (wsig a) σ w F) {P : D → Sig → Prop} (h : P (.int 0) σ) : GA c A σ "hb" (.ref a.st) P := by
  obtain ⟨_, _, S1⟩ := S.st
  obtain ⟨_, _, S2⟩ := S.std
  exact ga_inst S1 S2 (by unfold stN; repeat (first | exact .head _ | apply List.Mem.tail)) (ao_hb k) h
theorem w_bb (k : OKc c) (S : Hole (wsig a) σ w F) {P : D → Sig → Prop} (h : P (.int 0) σ) : GA c A σ "bb" (.ref a.st) P := by
  obtain ⟨_, _, S1⟩ := S.st
  obtain ⟨_, _, S2⟩ := S.std
  exact ga_inst S1 S2 (by unfold stN; repeat (first | exact .head _ | apply List.Mem.tail)) (ao_bb k) h
theorem m_push (k : OKc c) (S : Hole (wsig a) σ w F) {pos : Pos} {args : List Expr} {P : D → Sig → Prop} (hp : plainStarts args = true) (h : VS c A env σ pos args fun ds σ₁ => CL c A σ₁ (.ref 202) (.ref a.st :: ds) P) : MT c A env σ (.ref a.st) "push" pos args P := by
  obtain ⟨_, _, S1⟩ := S.st
  obtain ⟨_, _, S2⟩ := S.std
  exact mt_inst S1 S2 (by kernel_rfl) (mo_push k) h hp
theorem m_new_var (k : OKc c) (S : Hole (wsig a) σ w F) {pos : Pos} {args : List Expr} {P : D → Sig → Prop} (hp : plainStarts args = true) (h : VS c A env σ pos args fun ds σ₁ => CL c A σ₁ (.ref 209) (.ref a.st :: ds) P) : MT c A env σ (.ref a.st) "new_var" pos args P := by
  obtain ⟨_, _, S1⟩ := S.st
  obtain ⟨_, _, S2⟩ := S.std
  exact mt_inst S1 S2 (by kernel_rfl) (mo_new_var k) h hp
theorem m_reserve (k : OKc c) (S : Hole (wsig a) σ w F) {pos : Pos} {args : List Expr} {P : D → Sig → Prop} (hp : plainStarts args = true) (h : VS c A env σ pos args fun ds σ₁ => CL c A σ₁ (.ref 216) (.ref a.st :: ds) P) : MT c A env σ (.ref a.st) "reserve" pos args P := by
  obtain ⟨_, _, S1⟩ := S.st
  obtain ⟨_, _, S2⟩ := S.std
  exact mt_inst S1 S2 (by kernel_rfl) (mo_reserve k) h hp
theorem m_deref (k : OKc c) (S : Hole (wsig a) σ w F) {pos : Pos} {args : List Expr} {P : D → Sig → Prop} (hp : plainStarts args = true) (h : VS c A env σ pos args fun ds σ₁ => CL c A σ₁ (.ref 230) (.ref a.st :: ds) P) : MT c A env σ (.ref a.st) "deref" pos args P := by
  obtain ⟨_, _, S1⟩ := S.st
  obtain ⟨_, _, S2⟩ := S.std
  exact mt_inst S1 S2 (by kernel_rfl) (mo_deref k) h hp
theorem m_is_unbound (k : OKc c) (S : Hole (wsig a) σ w F) {pos : Pos} {args : List Expr} {P : D → Sig → Prop} (hp : plainStarts args = true) (h : VS c A env σ pos args fun ds σ₁ => CL c A σ₁ (.ref 237) (.ref a.st :: ds) P) : MT c A env σ (.ref a.st) "is_unbound" pos args P := by
  obtain ⟨_, _, S1⟩ := S.st
  obtain ⟨_, _, S2⟩ := S.std
  exact mt_inst S1 S2 (by kernel_rfl) (mo_is_unbound k) h hp
theorem m_bind (k : OKc c) (S : Hole (wsig a) σ w F) {pos : Pos} {args : List Expr} {P : D → Sig → Prop} (hp : plainStarts args = true) (h : VS c A env σ pos args fun ds σ₁ => CL c A σ₁ (.ref 244) (.ref a.st :: ds) P) : MT c A env σ (.ref a.st) "bind" pos args P := by
  obtain ⟨_, _, S1⟩ := S.st
  obtain ⟨_, _, S2⟩ := S.std
  exact mt_inst S1 S2 (by kernel_rfl) (mo_bind k) h hp
theorem m_globalise (k : OKc c) (S : Hole (wsig a) σ w F) {pos : Pos} {args : List Expr} {P : D → Sig → Prop} (hp : plainStarts args = true) (h : VS c A env σ pos args fun ds σ₁ => CL c A σ₁ (.ref 258) (.ref a.st :: ds) P) : MT c A env σ (.ref a.st) "globalise" pos args P := by
  obtain ⟨_, _, S1⟩ := S.st
  obtain ⟨_, _, S2⟩ := S.std
  exact mt_inst S1 S2 (by kernel_rfl) (mo_globalise k) h hp
theorem m_stack_put (k : OKc c) (S : Hole (wsig a) σ w F) {pos : Pos} {args : List Expr} {P : D → Sig → Prop} (hp : plainStarts args = true) (h : VS c A env σ pos args fun ds σ₁ => CL c A σ₁ (.ref 279) (.ref a.st :: ds) P) : MT c A env σ (.ref a.st) "stack_put" pos args P := by
  obtain ⟨_, _, S1⟩ := S.st
  obtain ⟨_, _, S2⟩ := S.std
  exact mt_inst S1 S2 (by kernel_rfl) (mo_stack_put k) h hp
theorem m_is_compound (k : OKc c) (S : Hole (wsig a) σ w F) {pos : Pos} {args : List Expr} {P : D → Sig → Prop} (hp : plainStarts args = true) (h : VS c A env σ pos args fun ds σ₁ => CL c A σ₁ (.ref 286) (.ref a.st :: ds) P) : MT c A env σ (.ref a.st) "is_compound" pos args P := by
  obtain ⟨_, _, S1⟩ := S.st
  obtain ⟨_, _, S2⟩ := S.std
  exact mt_inst S1 S2 (by kernel_rfl) (mo_is_compound k) h hp
theorem m_functor_of (k : OKc c) (S : Hole (wsig a) σ w F) {pos : Pos} {args : List Expr} {P : D → Sig → Prop} (hp : plainStarts args = true) (h : VS c A env σ pos args fun ds σ₁ => CL c A σ₁ (.ref 293) (.ref a.st :: ds) P) : MT c A env σ (.ref a.st) "functor_of" pos args P := by
  obtain ⟨_, _, S1⟩ := S.st
  obtain ⟨_, _, S2⟩ := S.std
  exact mt_inst S1 S2 (by kernel_rfl) (mo_functor_of k) h hp
theorem m_width (k : OKc c) (S : Hole (wsig a) σ w F) {pos : Pos} {args : List Expr} {P : D → Sig → Prop} (hp : plainStarts args = true) (h : VS c A env σ pos args fun ds σ₁ => CL c A σ₁ (.ref 300) (.ref a.st :: ds) P) : MT c A env σ (.ref a.st) "width" pos args P := by
  obtain ⟨_, _, S1⟩ := S.st
  obtain ⟨_, _, S2⟩ := S.std
  exact mt_inst S1 S2 (by kernel_rfl) (mo_width k) h hp
theorem m_base (k : OKc c) (S : Hole (wsig a) σ w F) {pos : Pos} {args : List Expr} {P : D → Sig → Prop} (hp : plainStarts args = true) (h : VS c A env σ pos args fun ds σ₁ => CL c A σ₁ (.ref 307) (.ref a.st :: ds) P) : MT c A env σ (.ref a.st) "base" pos args P := by
  obtain ⟨_, _, S1⟩ := S.st
  obtain ⟨_, _, S2⟩ := S.std
  exact mt_inst S1 S2 (by kernel_rfl) (mo_base k) h hp
theorem m_arg (k : OKc c) (S : Hole (wsig a) σ w F) {pos : Pos} {args : List Expr} {P : D → Sig → Prop} (hp : plainStarts args = true) (h : VS c A env σ pos args fun ds σ₁ => CL c A σ₁ (.ref 314) (.ref a.st :: ds) P) : MT c A env σ (.ref a.st) "arg" pos args P := by
  obtain ⟨_, _, S1⟩ := S.st
  obtain ⟨_, _, S2⟩ := S.std
  exact mt_inst S1 S2 (by kernel_rfl) (mo_arg k) h hp
theorem m_new_block (k : OKc c) (S : Hole (wsig a) σ w F) {pos : Pos} {args : List Expr} {P : D → Sig → Prop} (hp : plainStarts args = true) (h : VS c A env σ pos args fun ds σ₁ => CL c A σ₁ (.ref 321) (.ref a.st :: ds) P) : MT c A env σ (.ref a.st) "new_block" pos args P := by
  obtain ⟨_, _, S1⟩ := S.st
  obtain ⟨_, _, S2⟩ := S.std
  exact mt_inst S1 S2 (by kernel_rfl) (mo_new_block k) h hp
theorem m_new_struct (k : OKc c) (S : Hole (wsig a) σ w F) {pos : Pos} {args : List Expr} {P : D → Sig → Prop} (hp : plainStarts args = true) (h : VS c A env σ pos args fun ds σ₁ => CL c A σ₁ (.ref 342) (.ref a.st :: ds) P) : MT c A env σ (.ref a.st) "new_struct" pos args P := by
  obtain ⟨_, _, S1⟩ := S.st
  obtain ⟨_, _, S2⟩ := S.std
  exact mt_inst S1 S2 (by kernel_rfl) (mo_new_struct k) h hp
theorem m_build_list (k : OKc c) (S : Hole (wsig a) σ w F) {pos : Pos} {args : List Expr} {P : D → Sig → Prop} (hp : plainStarts args = true) (h : VS c A env σ pos args fun ds σ₁ => CL c A σ₁ (.ref 350) (.ref a.st :: ds) P) : MT c A env σ (.ref a.st) "build_list" pos args P := by
  obtain ⟨_, _, S1⟩ := S.st
  obtain ⟨_, _, S2⟩ := S.std
  exact mt_inst S1 S2 (by kernel_rfl) (mo_build_list k) h hp
theorem m_list_cells (k : OKc c) (S : Hole (wsig a) σ w F) {pos : Pos} {args : List Expr} {P : D → Sig → Prop} (hp : plainStarts args = true) (h : VS c A env σ pos args fun ds σ₁ => CL c A σ₁ (.ref 357) (.ref a.st :: ds) P) : MT c A env σ (.ref a.st) "list_cells" pos args P := by
  obtain ⟨_, _, S1⟩ := S.st
  obtain ⟨_, _, S2⟩ := S.std
  exact mt_inst S1 S2 (by kernel_rfl) (mo_list_cells k) h hp
theorem m_put_term (k : OKc c) (S : Hole (wsig a) σ w F) {pos : Pos} {args : List Expr} {P : D → Sig → Prop} (hp : plainStarts args = true) (h : VS c A env σ pos args fun ds σ₁ => CL c A σ₁ (.ref 364) (.ref a.st :: ds) P) : MT c A env σ (.ref a.st) "put_term" pos args P := by
  obtain ⟨_, _, S1⟩ := S.st
  obtain ⟨_, _, S2⟩ := S.std
  exact mt_inst S1 S2 (by kernel_rfl) (mo_put_term k) h hp

theorem w_lenhp (S : Hole (wsig a) σ w F) (hz : w.hs.length < 1000000) {P : D → Sig → Prop} (h : P (.int w.hs.length) σ) : CL c A σ (.builtin "len") [.ref a.hp] P := by
  obtain ⟨f, g, S1, -⟩ := S.hp
  exact cl_len S1 (by rw [cm_length]; omega) (by rw [cm_length]; exact h)
theorem w_apphp (S : Hole (wsig a) σ w F) {e : Expr} {pos : Pos} {P : D → Sig → Prop} (hp : plainStarts [e] = true)
    (h : EV c A env σ e fun d σ₁ => ∃ p q w' F', d = .tup [.int p, .int q] ∧ Hole (wsig a) σ₁ w' F' ∧ w'.hs.length < 1000000 ∧ P .none (F' { w' with hs := w'.hs ++ [(p, q)] })) : MT c A env σ (.ref a.hp) "append" pos [e] P := by
  obtain ⟨f, g, S1, -⟩ := S.hp
  refine mt_append S1 (h.mono fun d σ₁ hh => ?_) hp
  obtain ⟨p, q, w', F', rfl, S', hz, hh⟩ := hh
  obtain ⟨f, g, S1, e1⟩ := S'.hp
  have z := sizeLine_big
  refine ⟨_, _, _, S1, by rw [cm_length]; omega, ?_⟩
  rw [show cm w'.hs ++ [D.tup [.int p, .int q]] = cm (w'.hs ++ [(p, q)]) from (cm_append _ [(p, q)]).symm, e1]
  exact hh
theorem w_athp (S : Hole (wsig a) σ w F) {value slice : Expr} {k : Int} {p : Int × Int} {P : D → Sig → Prop} (h0 : 0 ≤ k) (hf : k < 1000000) (hk : w.hs[k.toNat]? = some p) (h : P (cellD p) σ) : SB c A σ value slice (.ref a.hp) (.int k) P := by
  obtain ⟨f, g, S1, e⟩ := S.hp
  exact sb_list S1 h0 (by omega) (by rw [cm_get, hk]; rfl) h
theorem w_puthp (S : Hole (wsig a) σ w F) {k p q : Int} {P : Sig → Prop} (h0 : 0 ≤ k) (hf : w.hs.length < 1000000) (hk : k < w.hs.length) (h : P (F { w with hs := w.hs.set k.toNat (p, q) })) : SI c A σ (.ref a.hp) (.int k) (.tup [.int p, .int q]) P := by
  obtain ⟨f, g, S1, e⟩ := S.hp
  refine si_list S1 h0 (by omega) (by rw [cm_length]; exact hk) ?_
  rw [show D.tup [.int p, .int q] = cellD (p, q) from rfl, cm_set, e]
  exact h

theorem w_lensk (S : Hole (wsig a) σ w F) (hz : w.ss.length < 1000000) {P : D → Sig → Prop} (h : P (.int w.ss.length) σ) : CL c A σ (.builtin "len") [.ref a.sk] P := by
  obtain ⟨f, g, S1, -⟩ := S.sk
  exact cl_len S1 (by rw [cm_length]; omega) (by rw [cm_length]; exact h)
theorem w_appsk (S : Hole (wsig a) σ w F) {e : Expr} {pos : Pos} {P : D → Sig → Prop} (hp : plainStarts [e] = true)
    (h : EV c A env σ e fun d σ₁ => ∃ p q w' F', d = .tup [.int p, .int q] ∧ Hole (wsig a) σ₁ w' F' ∧ w'.ss.length < 1000000 ∧ P .none (F' { w' with ss := w'.ss ++ [(p, q)] })) : MT c A env σ (.ref a.sk) "append" pos [e] P := by
  obtain ⟨f, g, S1, -⟩ := S.sk
  refine mt_append S1 (h.mono fun d σ₁ hh => ?_) hp
  obtain ⟨p, q, w', F', rfl, S', hz, hh⟩ := hh
  obtain ⟨f, g, S1, e1⟩ := S'.sk
  have z := sizeLine_big
  refine ⟨_, _, _, S1, by rw [cm_length]; omega, ?_⟩
  rw [show cm w'.ss ++ [D.tup [.int p, .int q]] = cm (w'.ss ++ [(p, q)]) from (cm_append _ [(p, q)]).symm, e1]
  exact hh
theorem w_atsk (S : Hole (wsig a) σ w F) {value slice : Expr} {k : Int} {p : Int × Int} {P : D → Sig → Prop} (h0 : 0 ≤ k) (hf : k < 1000000) (hk : w.ss[k.toNat]? = some p) (h : P (cellD p) σ) : SB c A σ value slice (.ref a.sk) (.int k) P := by
  obtain ⟨f, g, S1, e⟩ := S.sk
  exact sb_list S1 h0 (by omega) (by rw [cm_get, hk]; rfl) h
theorem w_putsk (S : Hole (wsig a) σ w F) {k p q : Int} {P : Sig → Prop} (h0 : 0 ≤ k) (hf : w.ss.length < 1000000) (hk : k < w.ss.length) (h : P (F { w with ss := w.ss.set k.toNat (p, q) })) : SI c A σ (.ref a.sk) (.int k) (.tup [.int p, .int q]) P := by
  obtain ⟨f, g, S1, e⟩ := S.sk
  refine si_list S1 h0 (by omega) (by rw [cm_length]; exact hk) ?_
  rw [show D.tup [.int p, .int q] = cellD (p, q) from rfl, cm_set, e]
  exact h
end
end
end
section
section
variable {c : Cx} {A : Around} {env : Env} {σ : Sig}
theorem e_gint2 {x : Str} {i : Int} {pos : Pos} {P : D → Sig → Prop} (e : ∃ t, nsIn c.K mainGlobals x = some (some (.int i t))) (hk : env.scope.kind = .function) (hl : env.kindOf x = some .globalImplicit)
    (hg : env.globals = mainGlobals) (h : P (.int i) σ) (hd : (x == ("__debug__" : Str)) = false := by decide +kernel) : EV c A env σ (.Name x pos) P := let ⟨_, e⟩ := e; e_gint e hk hl hg h hd
theorem o_eqc' {n : Nat} (hr : Rm A n) {x y x' y' : Int} {P : D → Sig → Prop} (h : P (.bool (decide ((x, y) = (x', y')))) σ) : OP2 DR c A σ (compareOp .Eq) (.tup [.int x, .int y]) (.tup [.int x', .int y']) P := o_eqc hr (p := (x, y)) (q := (x', y')) h
theorem o_nec' {n : Nat} (hr : Rm A n) {x y x' y' : Int} {P : D → Sig → Prop} (h : P (.bool (decide ((x, y) ≠ (x', y')))) σ) : OP2 DR c A σ (compareOp .NotEq) (.tup [.int x, .int y]) (.tup [.int x', .int y']) P := o_nec hr (p := (x, y)) (q := (x', y')) h
theorem sb_c0 {value slice : Expr} {d : D} {ds : List D} {P : D → Sig → Prop} (h : P d σ) : SB c A σ value slice (.tup (d :: ds)) (.int 0) P := sb_tup (Int.le_refl _) (by decide) rfl h
theorem sb_c1 {value slice : Expr} {d e : D} {ds : List D} {P : D → Sig → Prop} (h : P e σ) : SB c A σ value slice (.tup (d :: e :: ds)) (.int 1) P := sb_tup (by decide) (by decide) rfl h
theorem sb_c2 {value slice : Expr} {d e e' : D} {ds : List D} {P : D → Sig → Prop} (h : P e' σ) : SB c A σ value slice (.tup (d :: e :: e' :: ds)) (.int 2) P := sb_tup (by decide) (by decide) rfl h
theorem ret_cons {P : D → Sig → Prop} {d : D} {p : Addr × AO} {σ : Sig} (h : P d σ) : retP P (.ret d) (p :: σ) := retP_ret (List.sublist_cons_self _ _) h
theorem next_cons {P : D → Sig → Prop} {p : Addr × AO} {σ : Sig} (h : P .none σ) : retP P .next (p :: σ) := retP_next (List.sublist_cons_self _ _) h
theorem CC.clr {f : Addr} {ds : List D} {P : D → Sig → Prop} (h : CC c A σ (.ref f) ds P) : CL c A σ (.ref f) ds P := h.cl
theorem ret_fr {P : D → Sig → Prop} {d : D} {L : Addr} {m : List (Str × Option D)} {σ : Sig} (h : P d σ) : retP P (.ret d) ((L, .fr m) :: σ) := ret_cons h
theorem next_fr {P : D → Sig → Prop} {L : Addr} {m : List (Str × Option D)} {σ : Sig} (h : P .none σ) : retP P .next ((L, .fr m) :: σ) := next_cons h
theorem retP_skip {P : D → Sig → Prop} {fl : Fl} {p : Addr × AO} {σ : Sig} (h : retP P fl σ) : retP P fl (p :: σ) := let ⟨σ', k, h⟩ := h; ⟨σ', .cons _ k, h⟩
theorem envOf_locals {q : Str} {sc : Scope} {L f : Addr} {cd : Value} : (envOf q sc L f cd).locals = L := rfl
theorem envX_locals {q : Str} {sc : Scope} {L f : Addr} {cd : Value} {cl : List (Str × Addr)} : (envX q sc L f cd cl).locals = L := rfl
theorem compEnvC_locals {sc : Scope} {cl : List (Str × Addr)} {L : Addr} {env : Env} : (compEnvC sc cl L env).locals = L := rfl
variable {fd : FuncData} {names : List Str} {d1 d2 d3 d4 d5 : D}
theorem bind0 (h : bindArgs fd ⟨[], []⟩ = pure (names.zip [])) : ∀ (s : Shared) (vs : List Value), c.K.In s.heap → DRs s.heap vs [] → ∃ ws, BindsTo s fd ⟨vs, []⟩ (names.zip ws) ∧ DRs s.heap ws [] := fun s vs _ r => by
  cases r
  exact ⟨[], BindsTo.of_eq h, .nil⟩
theorem bind1 (h : ∀ v, bindArgs fd ⟨[v], []⟩ = pure (names.zip [v])) : ∀ (s : Shared) (vs : List Value), c.K.In s.heap → DRs s.heap vs [d1] → ∃ ws, BindsTo s fd ⟨vs, []⟩ (names.zip ws) ∧ DRs s.heap ws [d1] := fun s vs _ r => by
  refine ⟨vs, ?_, r⟩
  cases r with | cons a r => cases r; exact BindsTo.of_eq (h _)
theorem bind2 (h : ∀ v w, bindArgs fd ⟨[v, w], []⟩ = pure (names.zip [v, w])) : ∀ (s : Shared) (vs : List Value), c.K.In s.heap → DRs s.heap vs [d1, d2] → ∃ ws, BindsTo s fd ⟨vs, []⟩ (names.zip ws) ∧ DRs s.heap ws [d1, d2] := fun s vs _ r => by
  refine ⟨vs, ?_, r⟩
  cases r with | cons a r => cases r with | cons b r => cases r; exact BindsTo.of_eq (h _ _)
theorem bind3 (h : ∀ v w x, bindArgs fd ⟨[v, w, x], []⟩ = pure (names.zip [v, w, x])) : ∀ (s : Shared) (vs : List Value), c.K.In s.heap → DRs s.heap vs [d1, d2, d3] → ∃ ws, BindsTo s fd ⟨vs, []⟩ (names.zip ws) ∧ DRs s.heap ws [d1, d2, d3] := fun s vs _ r => by
  refine ⟨vs, ?_, r⟩
  cases r with | cons a r => cases r with | cons b r => cases r with | cons _ r => cases r; exact BindsTo.of_eq (h _ _ _)
theorem bind5 (h : ∀ v w x y z, bindArgs fd ⟨[v, w, x, y, z], []⟩ = pure (names.zip [v, w, x, y, z])) : ∀ (s : Shared) (vs : List Value), c.K.In s.heap → DRs s.heap vs [d1, d2, d3, d4, d5] → ∃ ws, BindsTo s fd ⟨vs, []⟩ (names.zip ws) ∧ DRs s.heap ws [d1, d2, d3, d4, d5] := fun s vs _ r => by
  refine ⟨vs, ?_, r⟩
  cases r with | cons a r => cases r with | cons b r => cases r with | cons _ r => cases r with | cons _ r => cases r with | cons _ r => cases r; exact BindsTo.of_eq (h _ _ _ _ _)
end
end
section
section
variable {c : Cx} {A : Around} {env : Env} {σ : Sig}
theorem wl_nat {α : Type} {test : Expr} {body : List Stmt} {P : Fl → Sig → Prop} (μ : α → Nat) (I : α → Sig) (ok : α → Prop) (x : α) (h0 : ok x) (hσ : σ = I x)
    (h : ∀ x, ok x → (∀ y, ok y → μ y < μ x → WL c A env (I y) test body P) → WL c A env (I x) test body P) : WL c A env σ test body P := by
  subst hσ
  have key : ∀ n x, μ x ≤ n → ok x → WL c A env (I x) test body P := by
    intro n
    induction n with
    | zero => exact fun x hx hk => h x hk fun y _ hy => absurd hy (by omega)
    | succ n ih => exact fun x hx hk => h x hk fun y hy hl => ih y (by omega) hy
  exact key _ x (Nat.le_refl _) h0
theorem fl_nat {α : Type} {x : Expr} {it : Addr} {body : List Stmt} {P : Fl → Sig → Prop} (μ : α → Nat) (I : α → Sig) (ok : α → Prop) (z : α) (h0 : ok z) (hσ : σ = I z)
    (h : ∀ z, ok z → (∀ y, ok y → μ y < μ z → FL c A env (I y) x it body P) → FL c A env (I z) x it body P) : FL c A env σ x it body P := by
  subst hσ
  have key : ∀ n z, μ z ≤ n → ok z → FL c A env (I z) x it body P := by
    intro n
    induction n with
    | zero => exact fun z hx hk => h z hk fun y _ hy => absurd hy (by omega)
    | succ n ih => exact fun z hx hk => h z hk fun y hy hl => ih y (by omega) hy
  exact key _ z (Nat.le_refl _) h0
theorem cp_nat {α : Type} {e : Expr} {it D : Addr} {P : Sig → Prop} (μ : α → Nat) (I : α → Sig) (ok : α → Prop) (z : α) (h0 : ok z) (hσ : σ = I z)
    (h : ∀ z, ok z → (∀ y, ok y → μ y < μ z → CP c A env (I y) e it D P) → CP c A env (I z) e it D P) : CP c A env σ e it D P := by
  subst hσ
  have key : ∀ n z, μ z ≤ n → ok z → CP c A env (I z) e it D P := by
    intro n
    induction n with
    | zero => exact fun z hx hk => h z hk fun y _ hy => absurd hy (by omega)
    | succ n ih => exact fun z hx hk => h z hk fun y hy hl => ih y (by omega) hy
  exact key _ z (Nat.le_refl _) h0
theorem contW_next {test : Expr} {body : List Stmt} {P : Fl → Sig → Prop} (h : WL c A env σ test body P) : contW c A env test body P .next σ := h
theorem contW_cont {test : Expr} {body : List Stmt} {P : Fl → Sig → Prop} (h : WL c A env σ test body P) : contW c A env test body P .cont σ := h
theorem contW_ret {test : Expr} {body : List Stmt} {P : Fl → Sig → Prop} {d : D} (h : P (.ret d) σ) : contW c A env test body P (.ret d) σ := h
theorem contL_next {x : Expr} {it : Addr} {body : List Stmt} {P : Fl → Sig → Prop} (h : FL c A env σ x it body P) : contL c A env x it body P .next σ := h
theorem contL_ret {x : Expr} {it : Addr} {body : List Stmt} {P : Fl → Sig → Prop} {d : D} (h : P (.ret d) σ) : contL c A env x it body P (.ret d) σ := h

/-- a cell is followed to its end -/
inductive Dr (hs ss : List (Int × Int)) : Nat → Int × Int → Int × Int → Prop
  | stop {n : Nat} {p : Int × Int} : p.1 ≠ 0 → p.1 ≠ 1 → Dr hs ss n p p
  | here0 {n i : Nat} : hs[i]? = some (0, (i : Int)) → Dr hs ss n (0, (i : Int)) (0, (i : Int))
  | here1 {n i : Nat} : ss[i]? = some (1, (i : Int)) → Dr hs ss n (1, (i : Int)) (1, (i : Int))
  | go0 {n i : Nat} {p q : Int × Int} : hs[i]? = some p → p ≠ (0, (i : Int)) → Dr hs ss n p q → Dr hs ss (n + 1) (0, (i : Int)) q
  | go1 {n i : Nat} {p q : Int × Int} : ss[i]? = some p → p ≠ (1, (i : Int)) → Dr hs ss n p q → Dr hs ss (n + 1) (1, (i : Int)) q
theorem lt_of_get {α : Type} {l : List α} {i : Nat} {x : α} (h : l[i]? = some x) : i < l.length := (List.getElem?_eq_some_iff.mp h).1
theorem Dr.again {hs ss : List (Int × Int)} {n : Nat} {p q : Int × Int} (h : Dr hs ss n p q) : Dr hs ss 0 q q := by
  induction h with
  | stop h1 h2 => exact .stop h1 h2
  | here0 h => exact .here0 h
  | here1 h => exact .here1 h
  | go0 _ _ _ ih => exact ih
  | go1 _ _ _ ih => exact ih
theorem Dr.det {hs ss : List (Int × Int)} {n m : Nat} {p q q' : Int × Int} (h : Dr hs ss n p q) (h' : Dr hs ss m p q') : q = q' := by
  induction h generalizing m q' with
  | stop h1 h2 => cases h' <;> first | rfl | exact absurd rfl h1 | exact absurd rfl h2
  | @here0 n i h =>
    generalize e : ((0 : Int), (i : Int)) = p at h'
    cases h' with
    | stop => rfl
    | @here0 _ j _ => rfl
    | @here1 _ j _ => cases e
    | @go0 _ j _ _ g ne _ =>
      simp only [Prod.mk.injEq, true_and, Int.natCast_inj] at e
      subst e
      rw [h] at g
      exact absurd (Option.some.inj g).symm ne
    | @go1 _ j _ _ g ne _ => cases e
  | @here1 n i h =>
    generalize e : ((1 : Int), (i : Int)) = p at h'
    cases h' with
    | stop => rfl
    | @here0 _ j _ => cases e
    | @here1 _ j _ => rfl
    | @go0 _ j _ _ g ne _ => cases e
    | @go1 _ j _ _ g ne _ =>
      simp only [Prod.mk.injEq, true_and, Int.natCast_inj] at e
      subst e
      rw [h] at g
      exact absurd (Option.some.inj g).symm ne
  | @go0 n i p q h ne _ ih =>
    generalize e : ((0 : Int), (i : Int)) = z at h'
    cases h' with
    | stop h1 => subst e; exact absurd rfl h1
    | @here0 _ j g =>
      simp only [Prod.mk.injEq, true_and, Int.natCast_inj] at e
      subst e
      rw [h] at g
      exact absurd (Option.some.inj g) ne
    | @here1 _ j _ => cases e
    | @go0 _ j _ _ g ne' r =>
      simp only [Prod.mk.injEq, true_and, Int.natCast_inj] at e
      subst e
      rw [h] at g
      cases g
      exact ih r
    | @go1 _ j _ _ g ne' _ => cases e
  | @go1 n i p q h ne _ ih =>
    generalize e : ((1 : Int), (i : Int)) = z at h'
    cases h' with
    | stop h1 h2 => subst e; exact absurd rfl h2
    | @here1 _ j g =>
      simp only [Prod.mk.injEq, true_and, Int.natCast_inj] at e
      subst e
      rw [h] at g
      exact absurd (Option.some.inj g) ne
    | @here0 _ j _ => cases e
    | @go1 _ j _ _ g ne' r =>
      simp only [Prod.mk.injEq, true_and, Int.natCast_inj] at e
      subst e
      rw [h] at g
      cases g
      exact ih r
    | @go0 _ j _ _ g ne' _ => cases e
end
end
section
section
variable {c : Cx} {A : Around} {env : Env} {σ : Sig}
theorem lk_VOID (k : OKc c) : ∃ t u n, c.K.lookup 180 = some (tupObj [.int 5 t, .int 0 u] n) := ⟨_, _, _, by rw [k.hK]; k_is⟩
theorem e_VOID (k : OKc c) {pos : Pos} {P : D → Sig → Prop} (hk : env.scope.kind = .function) (hl : env.kindOf "VOID" = some .globalImplicit) (hg : env.globals = mainGlobals) (h : P (.tup [.int 5, .int 0]) σ) : EV c A env σ (.Name "VOID" pos) P :=
  let ⟨_, _, _, e⟩ := lk_VOID k; e_gtup2 (g_VOID k) e hk hl hg h
end
end
section
section
variable {c : Cx} {A : Around} {env : Env} {σ : Sig}

theorem small_nat {n : Nat} (h : n < 1000000) : Builtin.Range.small 0 n 1 = true ∧ Builtin.Range.rangeSize 0 n 1 = (n : Int) := by
  have e : Builtin.Range.rangeSize 0 n 1 = (n : Int) := by
    unfold Builtin.Range.rangeSize
    rw [if_pos (by decide)]
    split <;> omega
  refine ⟨?_, e⟩
  unfold Builtin.Range.small
  rw [e]
  simp [Builtin.Range.rangeFitsLong]
  omega
theorem i_rngN {r : Addr} {n : Nat} {f : AO → Sig} {g : Sig} {P : D → Sig → Prop} (S : Sel σ r (.rng 0 n 1) f g) (hn : n < 1000000) (h : ∀ it, P (.ref it) ((it, .rit 0 n 1) :: σ)) : OP1 DR c A σ pyIter (.ref r) P := by
  refine i_rng S (small_nat hn).1 fun it => ?_
  rw [(small_nat hn).2]
  exact h it

/-- what a loop's body leaves behind -/
noncomputable def afterL {α : Type} (ok : α → Prop) (I : α → Sig) (P : Fl → Sig → Prop) (fl : Fl) (σ : Sig) : Prop := match fl with
  | .next | .cont => ∃ a, ok a ∧ σ = I a
  | .brk => P .next σ
  | .ret d => P (.ret d) σ
theorem afterL_next {α : Type} {ok : α → Prop} {I : α → Sig} {P : Fl → Sig → Prop} (a : α) (h : ok a) (e : σ = I a) : afterL ok I P .next σ := ⟨a, h, e⟩
theorem afterL_ret {α : Type} {ok : α → Prop} {I : α → Sig} {P : Fl → Sig → Prop} {d : D} (h : P (.ret d) σ) : afterL ok I P (.ret d) σ := h
theorem fl_range {α : Type} {x : Str} {px : Pos} {it : Addr} {body : List Stmt} {P : Fl → Sig → Prop} {n : Nat} (I : Nat → α → Sig) (ok : Nat → α → Prop) (a0 : α) (h0 : ok 0 a0) (hσ : σ = (it, .rit 0 n 1) :: I 0 a0) (hh : A.handled = none)
    (h : ∀ i a, i < n → ok i a → AS c A env ((it, .rit ((i + 1 : Nat) : Int) ((n : Int) - ((i + 1 : Nat) : Int)) 1) :: I i a) (.Name x px) (.int i) fun σ₂ => XS c A env σ₂ body
      (afterL (ok (i + 1)) (fun a => (it, .rit ((i + 1 : Nat) : Int) ((n : Int) - ((i + 1 : Nat) : Int)) 1) :: I (i + 1) a) P))
    (hend : ∀ a, ok n a → P .next (I n a)) : FL c A env σ (.Name x px) it body P := by
  refine fl_nat (α := Nat × α) (fun z => n - z.1) (fun z => (it, .rit (z.1 : Int) ((n : Int) - (z.1 : Int)) 1) :: I z.1 z.2) (fun z => z.1 ≤ n ∧ ok z.1 z.2) (0, a0) ⟨Nat.zero_le _, h0⟩ (by rw [hσ]; simp) ?_
  rintro ⟨i, a⟩ ⟨hi, hk⟩ ih
  dsimp only at hi hk ih ⊢
  refine fl_turn ?_
  by_cases hlt : i < n
  · refine n_rng .head (by omega) ?_
    dsimp only
    have := h i a hlt hk
    rw [show (((i + 1 : Nat) : Int)) = (i : Int) + 1 from by omega, show (n : Int) - ((i : Int) + 1) = (n : Int) - i - 1 from by omega] at this
    refine fun v s Q E hs r q => this v s Q E hs r fun s' σ' hx => q s' σ' (hx.mono fun fl σ₂ hf => ?_)
    cases fl with
    | next => obtain ⟨a', ha, rfl⟩ := hf; exact (by have := ih (i + 1, a') ⟨hlt, ha⟩ (by dsimp only; omega); rw [show (((i + 1 : Nat) : Int)) = (i : Int) + 1 from by omega, show (n : Int) - ((i : Int) + 1) = (n : Int) - i - 1 from by omega] at this; exact this)
    | cont => obtain ⟨a', ha, rfl⟩ := hf; exact (by have := ih (i + 1, a') ⟨hlt, ha⟩ (by dsimp only; omega); rw [show (((i + 1 : Nat) : Int)) = (i : Int) + 1 from by omega, show (n : Int) - ((i : Int) + 1) = (n : Int) - i - 1 from by omega] at this; exact this)
    | brk => exact hf
    | ret d => exact hf
  · have e : i = n := by omega
    subst e
    exact n_rng0 .head hh (by omega) (hend a hk)
theorem fl_list {α : Type} {x : Str} {px : Pos} {it l : Addr} {body : List Stmt} {P : Fl → Sig → Prop} {ds : List D} (I : Nat → α → Sig) (ok : Nat → α → Prop) (a0 : α) (h0 : ok 0 a0) (hσ : σ = (it, .lit l 0) :: I 0 a0) (hh : A.handled = none)
    (hl : ∀ i a, ok i a → ∃ f g, Sel (I i a) l (.list ds) f g)
    (h : ∀ i a d, ds[i]? = some d → ok i a → AS c A env ((it, .lit l (i + 1)) :: I i a) (.Name x px) d fun σ₂ => XS c A env σ₂ body (afterL (ok (i + 1)) (fun a => (it, .lit l (i + 1)) :: I (i + 1) a) P))
    (hend : ∀ a, ok ds.length a → P .next (I ds.length a)) : FL c A env σ (.Name x px) it body P := by
  refine fl_nat (α := Nat × α) (fun z => ds.length - z.1) (fun z => (it, .lit l z.1) :: I z.1 z.2) (fun z => z.1 ≤ ds.length ∧ ok z.1 z.2) (0, a0) ⟨Nat.zero_le _, h0⟩ hσ ?_
  rintro ⟨i, a⟩ ⟨hi, hk⟩ ih
  dsimp only at hi hk ih ⊢
  refine fl_turn ?_
  obtain ⟨f, g, S⟩ := hl i a hk
  by_cases hlt : i < ds.length
  · refine n_list .head (.tail S) (List.getElem?_eq_getElem hlt) ?_
    dsimp only
    have := h i a _ (List.getElem?_eq_getElem hlt) hk
    refine fun v s Q E hs r q => this v s Q E hs r fun s' σ' hx => q s' σ' (hx.mono fun fl σ₂ hf => ?_)
    cases fl with
    | next => obtain ⟨a', ha, rfl⟩ := hf; exact ih (i + 1, a') ⟨hlt, ha⟩ (by dsimp only; omega)
    | cont => obtain ⟨a', ha, rfl⟩ := hf; exact ih (i + 1, a') ⟨hlt, ha⟩ (by dsimp only; omega)
    | brk => exact hf
    | ret d => exact hf
  · have e : i = ds.length := by omega
    subst e
    exact n_list0 .head (.tail S) hh (Nat.le_refl _) (hend a hk)
theorem fl_tup {α : Type} {x : Str} {px : Pos} {it : Addr} {body : List Stmt} {P : Fl → Sig → Prop} {ds : List D} (I : Nat → α → Sig) (ok : Nat → α → Prop) (a0 : α) (h0 : ok 0 a0) (hσ : σ = (it, .tit ds 0) :: I 0 a0) (hh : A.handled = none)
    (h : ∀ i a d, ds[i]? = some d → ok i a → AS c A env ((it, .tit ds (i + 1)) :: I i a) (.Name x px) d fun σ₂ => XS c A env σ₂ body (afterL (ok (i + 1)) (fun a => (it, .tit ds (i + 1)) :: I (i + 1) a) P))
    (hend : ∀ a, ok ds.length a → P .next (I ds.length a)) : FL c A env σ (.Name x px) it body P := by
  refine fl_nat (α := Nat × α) (fun z => ds.length - z.1) (fun z => (it, .tit ds z.1) :: I z.1 z.2) (fun z => z.1 ≤ ds.length ∧ ok z.1 z.2) (0, a0) ⟨Nat.zero_le _, h0⟩ hσ ?_
  rintro ⟨i, a⟩ ⟨hi, hk⟩ ih
  dsimp only at hi hk ih ⊢
  refine fl_turn ?_
  by_cases hlt : i < ds.length
  · refine n_tup .head (List.getElem?_eq_getElem hlt) ?_
    dsimp only
    have := h i a _ (List.getElem?_eq_getElem hlt) hk
    refine fun v s Q E hs r q => this v s Q E hs r fun s' σ' hx => q s' σ' (hx.mono fun fl σ₂ hf => ?_)
    cases fl with
    | next => obtain ⟨a', ha, rfl⟩ := hf; exact ih (i + 1, a') ⟨hlt, ha⟩ (by dsimp only; omega)
    | cont => obtain ⟨a', ha, rfl⟩ := hf; exact ih (i + 1, a') ⟨hlt, ha⟩ (by dsimp only; omega)
    | brk => exact hf
    | ret d => exact hf
  · have e : i = ds.length := by omega
    subst e
    exact n_tup0 .head hh (Nat.le_refl _) (hend a hk)
/-- a while, by what holds at its test -/
theorem wl_inv {α : Type} {test : Expr} {body : List Stmt} {P : Fl → Sig → Prop} (μ : α → Nat) (I : α → Sig) (ok : α → Prop) (a0 : α) (h0 : ok a0) (hσ : σ = I a0)
    (h : ∀ a, ok a → TS c A env (I a) test fun b σ₁ => br b (XS c A env σ₁ body (afterL (fun a' => ok a' ∧ μ a' < μ a) I P)) (P .next σ₁)) : WL c A env σ test body P := by
  refine wl_nat μ I ok a0 h0 hσ fun a hk ih => ?_
  refine wl_turn ((h a hk).mono fun b σ₁ hb => ?_)
  cases b with
  | false => exact hb
  | true =>
    refine TT.mono (show XS c A env σ₁ body _ from hb) fun fl σ₂ hf => ?_
    cases fl with
    | next => obtain ⟨a', ha, rfl⟩ := hf; exact ih a' ha.1 ha.2
    | cont => obtain ⟨a', ha, rfl⟩ := hf; exact ih a' ha.1 ha.2
    | brk => exact hf
    | ret d => exact hf

/-- what a comprehension's turn leaves behind -/
theorem cp_list {α : Type} {elt iter : Expr} {x : Str} {px : Pos} {scope : Scope} {pos : Pos} {it l D' : Addr} {P : Sig → Prop} {ds : List D} (I : Nat → α → Sig) (ok : Nat → α → Prop) (a0 : α) (h0 : ok 0 a0) (hσ : σ = (it, .lit l 0) :: I 0 a0) (hh : A.handled = none)
    (hl : ∀ i a, ok i a → ∃ f g, Sel (I i a) l (.list ds) f g)
    (h : ∀ i a d, ds[i]? = some d → ok i a → AS c A env ((it, .lit l (i + 1)) :: I i a) (.Name x px) d fun σ₂ => EV c A env σ₂ elt fun y σ₃ => ∃ es f g, Sel σ₃ D' (.list es) f g ∧ es.length ≤ sizeLine ∧ ∃ a', ok (i + 1) a' ∧ f (.list (es ++ [y])) = (it, .lit l (i + 1)) :: I (i + 1) a')
    (hend : ∀ a, ok ds.length a → P (I ds.length a)) : CP c A env σ (.ListComp elt [⟨.Name x px, iter, [], 0⟩] scope pos) it D' P := by
  refine cp_nat (α := Nat × α) (fun z => ds.length - z.1) (fun z => (it, .lit l z.1) :: I z.1 z.2) (fun z => z.1 ≤ ds.length ∧ ok z.1 z.2) (0, a0) ⟨Nat.zero_le _, h0⟩ hσ ?_
  rintro ⟨i, a⟩ ⟨hi, hk⟩ ih
  dsimp only at hi hk ih ⊢
  refine cp_turn ?_
  obtain ⟨f, g, S⟩ := hl i a hk
  by_cases hlt : i < ds.length
  · refine n_list .head (.tail S) (List.getElem?_eq_getElem hlt) ?_
    dsimp only
    refine fun v s Q E hs r q => h i a _ (List.getElem?_eq_getElem hlt) hk v s Q E hs r fun s' σ' hx => q s' σ' (hx.mono fun y σ₂ hf => ?_)
    obtain ⟨es, f, g, S', hz, a', ha, e⟩ := hf
    exact ⟨es, f, g, S', hz, by rw [e]; exact ih (i + 1, a') ⟨hlt, ha⟩ (by dsimp only; omega)⟩
  · have e : i = ds.length := by omega
    subst e
    exact n_list0 .head (.tail S) hh (Nat.le_refl _) (hend a hk)
theorem cp_range {α : Type} {elt iter : Expr} {x : Str} {px : Pos} {scope : Scope} {pos : Pos} {it D' : Addr} {P : Sig → Prop} {n : Nat} (I : Nat → α → Sig) (ok : Nat → α → Prop) (a0 : α) (h0 : ok 0 a0)
    (hσ : σ = (it, .rit 0 n 1) :: I 0 a0) (hh : A.handled = none)
    (h : ∀ i a, i < n → ok i a → AS c A env ((it, .rit ((i + 1 : Nat) : Int) ((n : Int) - ((i + 1 : Nat) : Int)) 1) :: I i a) (.Name x px) (.int i) fun σ₂ => EV c A env σ₂ elt fun y σ₃ => ∃ es f g, Sel σ₃ D' (.list es) f g ∧ es.length ≤ sizeLine ∧
      ∃ a', ok (i + 1) a' ∧ f (.list (es ++ [y])) = (it, .rit ((i + 1 : Nat) : Int) ((n : Int) - ((i + 1 : Nat) : Int)) 1) :: I (i + 1) a')
    (hend : ∀ a, ok n a → P (I n a)) : CP c A env σ (.ListComp elt [⟨.Name x px, iter, [], 0⟩] scope pos) it D' P := by
  refine cp_nat (α := Nat × α) (fun z => n - z.1) (fun z => (it, .rit (z.1 : Int) ((n : Int) - (z.1 : Int)) 1) :: I z.1 z.2) (fun z => z.1 ≤ n ∧ ok z.1 z.2) (0, a0) ⟨Nat.zero_le _, h0⟩ (by rw [hσ]; simp) ?_
  rintro ⟨i, a⟩ ⟨hi, hk⟩ ih
  dsimp only at hi hk ih ⊢
  refine cp_turn ?_
  by_cases hlt : i < n
  · refine n_rng .head (by omega) ?_
    dsimp only
    have := h i a hlt hk
    rw [show (((i + 1 : Nat) : Int)) = (i : Int) + 1 from by omega, show (n : Int) - ((i : Int) + 1) = (n : Int) - i - 1 from by omega] at this
    refine fun v s Q E hs r q => this v s Q E hs r fun s' σ' hx => q s' σ' (hx.mono fun y σ₂ hf => ?_)
    obtain ⟨es, f, g, S', hz, a', ha, e⟩ := hf
    refine ⟨es, f, g, S', hz, ?_⟩
    rw [e]
    have := ih (i + 1, a') ⟨hlt, ha⟩ (by dsimp only; omega)
    rw [show (((i + 1 : Nat) : Int)) = (i : Int) + 1 from by omega, show (n : Int) - ((i : Int) + 1) = (n : Int) - i - 1 from by omega] at this
    exact this
  · have e : i = n := by omega
    subst e
    exact n_rng0 .head hh (by omega) (hend a hk)
theorem cp_key {α : Type} {elt iter : Expr} {x : Str} {px : Pos} {scope : Scope} {pos : Pos} {it d D' : Addr} {ep : Nat} {P : Sig → Prop} {kvs : List (Int × D)} (I : Nat → α → Sig) (ok : Nat → α → Prop) (a0 : α) (h0 : ok 0 a0) (hσ : σ = (it, .kit d 0 kvs.length ep) :: I 0 a0) (hh : A.handled = none)
    (hl : ∀ i a, ok i a → ∃ f g, Sel (I i a) d (.idictE kvs ep) f g)
    (h : ∀ i a k v, kvs[i]? = some (k, v) → ok i a → AS c A env ((it, .kit d (i + 1) kvs.length ep) :: I i a) (.Name x px) (.int k) fun σ₂ => EV c A env σ₂ elt fun y σ₃ => ∃ es f g, Sel σ₃ D' (.list es) f g ∧ es.length ≤ sizeLine ∧
      ∃ a', ok (i + 1) a' ∧ f (.list (es ++ [y])) = (it, .kit d (i + 1) kvs.length ep) :: I (i + 1) a')
    (hend : ∀ a, ok kvs.length a → P (I kvs.length a)) : CP c A env σ (.ListComp elt [⟨.Name x px, iter, [], 0⟩] scope pos) it D' P := by
  refine cp_nat (α := Nat × α) (fun z => kvs.length - z.1) (fun z => (it, .kit d z.1 kvs.length ep) :: I z.1 z.2) (fun z => z.1 ≤ kvs.length ∧ ok z.1 z.2) (0, a0) ⟨Nat.zero_le _, h0⟩ hσ ?_
  rintro ⟨i, a⟩ ⟨hi, hk⟩ ih
  dsimp only at hi hk ih ⊢
  refine cp_turn ?_
  obtain ⟨f, g, S⟩ := hl i a hk
  by_cases hlt : i < kvs.length
  · refine n_key .head (.tail S) (List.getElem?_eq_getElem hlt) (k := kvs[i].1) (x := kvs[i].2) ?_
    dsimp only
    refine fun v s Q E hs r q => h i a kvs[i].1 kvs[i].2 (List.getElem?_eq_getElem hlt) hk v s Q E hs r fun s' σ' hx => q s' σ' (hx.mono fun y σ₂ hf => ?_)
    obtain ⟨es, f, g, S', hz, a', ha, e⟩ := hf
    exact ⟨es, f, g, S', hz, by rw [e]; exact ih (i + 1, a') ⟨hlt, ha⟩ (by dsimp only; omega)⟩
  · have e : i = kvs.length := by omega
    subst e
    exact n_key0 .head (.tail S) hh (Nat.le_refl _) (hend a hk)
noncomputable def vars (b n : Nat) : List (Int × Int) := (List.range n).map fun i => (0, ((b + i : Nat) : Int))
theorem vars_succ (b n : Nat) : vars b (n + 1) = vars b n ++ [(0, ((b + n : Nat) : Int))] := by unfold vars; rw [List.range_succ, List.map_append]; rfl
theorem vars_length (b n : Nat) : (vars b n).length = n := by unfold vars; simp
theorem vars_get {b n i : Nat} (h : i < n) : (vars b n)[i]? = some (0, ((b + i : Nat) : Int)) := by unfold vars; simp [h]
end
end
section

/-- a term as the law draws it -/
inductive Tm where
  | v (x : Int)
  | a (n : Int)
  | i (n : Int)
  | s (f : Nat) (ts : List Tm)
mutual
noncomputable def Tm.d : Tm → D
  | .v x => .tup [.str "v", .int x]
  | .a n => .tup [.str "a", .int n]
  | .i n => .tup [.str "i", .int n]
  | .s f ts => .tup [.str "s", .int f, .tup (Tm.ds ts)]
noncomputable def Tm.ds : List Tm → List D
  | [] => []
  | t :: ts => t.d :: Tm.ds ts
end
mutual
noncomputable def Tm.sz : Tm → Nat
  | .v _ | .a _ | .i _ => 1
  | .s _ ts => 1 + Tm.szs ts
noncomputable def Tm.szs : List Tm → Nat
  | [] => 0
  | t :: ts => t.sz + Tm.szs ts
end
mutual
noncomputable def Tm.dp : Tm → Nat
  | .v _ | .a _ | .i _ => 0
  | .s _ ts => 1 + Tm.dps ts
noncomputable def Tm.dps : List Tm → Nat
  | [] => 0
  | t :: ts => max t.dp (Tm.dps ts)
end
-- how many cells a term's blocks take
mutual
noncomputable def Tm.nd : Tm → Nat
  | .v _ | .a _ | .i _ => 0
  | .s _ ts => 1 + ts.length + Tm.nds ts
noncomputable def Tm.nds : List Tm → Nat
  | [] => 0
  | t :: ts => t.nd + Tm.nds ts
end
noncomputable def ArOk (f n : Nat) : Prop := (f = 12 ∧ n = 1) ∨ (f = 13 ∧ n = 2) ∨ (f = 18 ∧ n = 3)
-- atoms are the two, functors the four
mutual
noncomputable def Tm.ok : Tm → Prop
  | .v _ | .i _ => True
  | .a n => n = 0 ∨ n = 4
  | .s f ts => ((f = 0 ∧ ts.length = 2) ∨ ArOk f ts.length) ∧ Tm.oks ts
noncomputable def Tm.oks : List Tm → Prop
  | [] => True
  | t :: ts => t.ok ∧ Tm.oks ts
end
theorem Tm.ds_length : ∀ ts : List Tm, (Tm.ds ts).length = ts.length
  | [] => rfl
  | t :: ts => by rw [Tm.ds, List.length_cons, List.length_cons, Tm.ds_length ts]
theorem Tm.ds_get : ∀ {ts : List Tm} {k : Nat} {t : Tm}, ts[k]? = some t → (Tm.ds ts)[k]? = some t.d
  | t' :: ts, 0, t, h => by
    simp only [List.getElem?_cons_zero, Option.some.injEq] at h
    subst h
    rw [Tm.ds]; rfl
  | t' :: ts, k + 1, t, h => by rw [Tm.ds]; exact Tm.ds_get (ts := ts) (by simpa using h)
theorem Tm.ds_append : ∀ ts us : List Tm, Tm.ds (ts ++ us) = Tm.ds ts ++ Tm.ds us
  | [], us => rfl
  | t :: ts, us => by rw [List.cons_append, Tm.ds, Tm.ds, Tm.ds_append ts us, List.cons_append]
theorem Tm.ds_map : ∀ ts : List Tm, Tm.ds ts = ts.map Tm.d
  | [] => rfl
  | t :: ts => by rw [Tm.ds, List.map_cons, Tm.ds_map ts]
theorem Tm.sz_mem : ∀ {ts : List Tm} {t : Tm}, t ∈ ts → t.sz ≤ Tm.szs ts
  | u :: ts, t, h => by
    rw [Tm.szs]
    rcases List.mem_cons.mp h with rfl | h
    · omega
    · have := Tm.sz_mem h; omega
theorem Tm.dp_mem : ∀ {ts : List Tm} {t : Tm}, t ∈ ts → t.dp ≤ Tm.dps ts
  | u :: ts, t, h => by
    rw [Tm.dps]
    rcases List.mem_cons.mp h with rfl | h
    · omega
    · have := Tm.dp_mem h; omega
theorem Tm.ok_mem : ∀ {ts : List Tm} {t : Tm}, Tm.oks ts → t ∈ ts → t.ok
  | u :: ts, t, h, m => by
    rw [Tm.oks] at h
    rcases List.mem_cons.mp m with rfl | m
    · exact h.1
    · exact Tm.ok_mem h.2 m
theorem Tm.oks_of : ∀ {ts : List Tm}, (∀ t ∈ ts, t.ok) → Tm.oks ts
  | [], _ => trivial
  | u :: ts, h => ⟨h u (.head _), Tm.oks_of fun t m => h t (.tail _ m)⟩

/-- the heap only grows -/
noncomputable def Ext (hs hs' : List (Int × Int)) : Prop := ∀ (i : Nat) (p : Int × Int), hs[i]? = some p → hs'[i]? = some p
theorem Ext.refl (hs : List (Int × Int)) : Ext hs hs := fun _ _ h => h
theorem Ext.trans {a b d : List (Int × Int)} (x : Ext a b) (y : Ext b d) : Ext a d := fun i p h => y i p (x i p h)
theorem Ext.app (hs l : List (Int × Int)) : Ext hs (hs ++ l) := fun i p h => by rw [List.getElem?_append_left (lt_of_get h)]; exact h
theorem Dr.mono {hs hs' ss : List (Int × Int)} (e : Ext hs hs') {n : Nat} {p q : Int × Int} (h : Dr hs ss n p q) : Dr hs' ss n p q := by
  induction h with
  | stop h1 h2 => exact .stop h1 h2
  | here0 h => exact .here0 (e _ _ h)
  | here1 h => exact .here1 h
  | go0 h ne _ ih => exact .go0 (e _ _ h) ne ih
  | go1 h ne _ ih => exact .go1 h ne ih

-- a cell stands for a term; T says where the variables are
mutual
noncomputable def Rp (hs ss : List (Int × Int)) (T : Int → Option Nat) : Int × Int → Tm → Prop
  | p, .v x => ∃ r : Nat, T x = some r ∧ p = (0, (r : Int)) ∧ hs[r]? = some (0, (r : Int))
  | p, .a n => p = (4, n)
  | p, .i n => p = (5, n)
  | p, .s f ts => (f = 0 ∧ ts.length = 2 ∧ ∃ b : Nat, p = (3, (b : Int)) ∧ RpL hs ss T b ts) ∨
      (ArOk f ts.length ∧ ∃ b : Nat, p = (2, (b : Int)) ∧ hs[b]? = some (6, (f : Int)) ∧ RpL hs ss T (b + 1) ts)
noncomputable def RpL (hs ss : List (Int × Int)) (T : Int → Option Nat) : Nat → List Tm → Prop
  | _, [] => True
  | b, t :: ts => (∃ p q n, hs[b]? = some p ∧ Dr hs ss n p q ∧ Rp hs ss T q t) ∧ RpL hs ss T (b + 1) ts
end
section
variable {hs hs' ss : List (Int × Int)} {T T' : Int → Option Nat}
mutual
theorem Rp.mono (e : Ext hs hs') : ∀ {t : Tm} {p : Int × Int}, Rp hs ss T p t → Rp hs' ss T p t
  | .v x, p, h => by rw [Rp] at h ⊢; obtain ⟨r, h1, h2, h3⟩ := h; exact ⟨r, h1, h2, e _ _ h3⟩
  | .a n, p, h => by rw [Rp] at h ⊢; exact h
  | .i n, p, h => by rw [Rp] at h ⊢; exact h
  | .s f ts, p, h => by
    rw [Rp] at h ⊢
    rcases h with ⟨h1, h2, b, h3, h4⟩ | ⟨h1, b, h2, h3, h4⟩
    · exact .inl ⟨h1, h2, b, h3, RpL.mono e h4⟩
    · exact .inr ⟨h1, b, h2, e _ _ h3, RpL.mono e h4⟩
theorem RpL.mono (e : Ext hs hs') : ∀ {ts : List Tm} {b : Nat}, RpL hs ss T b ts → RpL hs' ss T b ts
  | [], b, h => by rw [RpL]; trivial
  | t :: ts, b, h => by
    rw [RpL] at h ⊢
    obtain ⟨⟨p, q, n, h1, h2, h3⟩, h4⟩ := h
    exact ⟨⟨p, q, n, e _ _ h1, h2.mono e, Rp.mono e h3⟩, RpL.mono e h4⟩
end
theorem Rp.stop {t : Tm} {p : Int × Int} (h : Rp hs ss T p t) : Dr hs ss 0 p p := by
  cases t with
  | v x => rw [Rp] at h; obtain ⟨r, h1, rfl, h3⟩ := h; exact .here0 h3
  | a n => rw [Rp] at h; subst h; exact .stop (by simp) (by simp)
  | i n => rw [Rp] at h; subst h; exact .stop (by simp) (by simp)
  | s f ts =>
    rw [Rp] at h
    rcases h with ⟨h1, h2, b, rfl, h4⟩ | ⟨h1, b, rfl, h3, h4⟩
    · exact .stop (by simp) (by simp)
    · exact .stop (by simp) (by simp)
theorem Rp.ne1 {t : Tm} {p : Int × Int} (h : Rp hs ss T p t) : p.1 ≠ 1 := by
  cases t with
  | v x => rw [Rp] at h; obtain ⟨r, h1, rfl, h3⟩ := h; simp
  | a n => rw [Rp] at h; subst h; simp
  | i n => rw [Rp] at h; subst h; simp
  | s f ts =>
    rw [Rp] at h
    rcases h with ⟨h1, h2, b, rfl, h4⟩ | ⟨h1, b, rfl, h3, h4⟩ <;> simp
theorem RpL.get : ∀ {ts : List Tm} {b k : Nat} {t : Tm}, RpL hs ss T b ts → ts[k]? = some t → ∃ p q n, hs[b + k]? = some p ∧ Dr hs ss n p q ∧ Rp hs ss T q t
  | u :: ts, b, 0, t, h, g => by
    rw [RpL] at h
    simp only [List.getElem?_cons_zero, Option.some.injEq] at g
    subst g
    exact h.1
  | u :: ts, b, k + 1, t, h, g => by
    rw [RpL] at h
    have := RpL.get (k := k) h.2 (by simpa using g)
    rw [show b + (k + 1) = b + 1 + k from by omega]
    exact this
theorem RpL.of : ∀ {ts : List Tm} {b : Nat}, (∀ (k : Nat) (t : Tm), ts[k]? = some t → ∃ p q n, hs[b + k]? = some p ∧ Dr hs ss n p q ∧ Rp hs ss T q t) → RpL hs ss T b ts
  | [], b, _ => by rw [RpL]; trivial
  | t :: ts, b, h => by
    rw [RpL]
    refine ⟨h 0 t rfl, RpL.of fun k u g => ?_⟩
    have := h (k + 1) u (by simpa using g)
    rw [show b + (k + 1) = b + 1 + k from by omega] at this
    exact this
noncomputable def TInj (T : Int → Option Nat) : Prop := ∀ x y r, T x = some r → T y = some r → x = y
mutual
/-- a cell stands for one term only -/
theorem Rp.det (inj : TInj T) : ∀ {t t' : Tm} {p : Int × Int}, Rp hs ss T p t → Rp hs ss T p t' → t = t'
  | .v x, t', p, h, h' => by
    rw [Rp] at h
    obtain ⟨r, h1, rfl, h3⟩ := h
    cases t' with
    | v y =>
      rw [Rp] at h'
      obtain ⟨r', g1, g2, g3⟩ := h'
      simp only [Prod.mk.injEq, true_and, Int.natCast_inj] at g2
      subst g2
      rw [inj x y r h1 g1]
    | a n => rw [Rp] at h'; simp at h'
    | i n => rw [Rp] at h'; simp at h'
    | s f ts => rw [Rp] at h'; rcases h' with ⟨_, _, b, g, _⟩ | ⟨_, b, g, _⟩ <;> simp at g
  | .a n, t', p, h, h' => by
    rw [Rp] at h
    subst h
    cases t' with
    | v y => rw [Rp] at h'; obtain ⟨r', g1, g2, g3⟩ := h'; simp at g2
    | a m => rw [Rp] at h'; simp at h'; rw [h']
    | i m => rw [Rp] at h'; simp at h'
    | s f ts => rw [Rp] at h'; rcases h' with ⟨_, _, b, g, _⟩ | ⟨_, b, g, _⟩ <;> simp at g
  | .i n, t', p, h, h' => by
    rw [Rp] at h
    subst h
    cases t' with
    | v y => rw [Rp] at h'; obtain ⟨r', g1, g2, g3⟩ := h'; simp at g2
    | a m => rw [Rp] at h'; simp at h'
    | i m => rw [Rp] at h'; simp at h'; rw [h']
    | s f ts => rw [Rp] at h'; rcases h' with ⟨_, _, b, g, _⟩ | ⟨_, b, g, _⟩ <;> simp at g
  | .s f ts, t', p, h, h' => by
    rw [Rp] at h
    cases t' with
    | v y => rw [Rp] at h'; obtain ⟨r', g1, rfl, g3⟩ := h'; rcases h with ⟨_, _, b, g, _⟩ | ⟨_, b, g, _⟩ <;> simp at g
    | a m => rw [Rp] at h'; subst h'; rcases h with ⟨_, _, b, g, _⟩ | ⟨_, b, g, _⟩ <;> simp at g
    | i m => rw [Rp] at h'; subst h'; rcases h with ⟨_, _, b, g, _⟩ | ⟨_, b, g, _⟩ <;> simp at g
    | s f' ts' =>
      rw [Rp] at h'
      rcases h with ⟨h1, h2, b, rfl, h4⟩ | ⟨h1, b, rfl, h3, h4⟩
      · rcases h' with ⟨g1, g2, b', g, g4⟩ | ⟨g1, b', g, g3, g4⟩
        · simp only [Prod.mk.injEq, true_and, Int.natCast_inj] at g
          subst g
          rw [h1, g1, RpL.det inj (by rw [h2, g2]) h4 g4]
        · simp at g
      · rcases h' with ⟨g1, g2, b', g, g4⟩ | ⟨g1, b', g, g3, g4⟩
        · simp at g
        · simp only [Prod.mk.injEq, true_and, Int.natCast_inj] at g
          subst g
          rw [h3] at g3
          simp only [Option.some.injEq, Prod.mk.injEq, true_and, Int.natCast_inj] at g3
          subst g3
          have : ts.length = ts'.length := by unfold ArOk at h1 g1; omega
          rw [RpL.det inj this h4 g4]
theorem RpL.det (inj : TInj T) : ∀ {ts ts' : List Tm} {b : Nat}, ts.length = ts'.length → RpL hs ss T b ts → RpL hs ss T b ts' → ts = ts'
  | [], [], b, _, _, _ => rfl
  | [], _ :: _, b, h, _, _ => by simp at h
  | _ :: _, [], b, h, _, _ => by simp at h
  | t :: ts, t' :: ts', b, hl, h, h' => by
    rw [RpL] at h h'
    obtain ⟨⟨p, q, n, h1, h2, h3⟩, h4⟩ := h
    obtain ⟨⟨p', q', n', g1, g2, g3⟩, g4⟩ := h'
    rw [h1] at g1
    cases g1
    have e := h2.det g2
    subst e
    rw [Rp.det inj h3 g3, RpL.det inj (by simpa using hl) h4 g4]
end
end
/-- what a cell stands for when it is followed -/
noncomputable def RD (hs ss : List (Int × Int)) (T : Int → Option Nat) (p : Int × Int) (t : Tm) : Prop := ∃ q n, Dr hs ss n p q ∧ Rp hs ss T q t
theorem RD.mono {hs hs' ss : List (Int × Int)} {T : Int → Option Nat} (e : Ext hs hs') {p : Int × Int} {t : Tm} (h : RD hs ss T p t) : RD hs' ss T p t := let ⟨q, n, h1, h2⟩ := h; ⟨q, n, h1.mono e, h2.mono e⟩
theorem Rp.rd {hs ss : List (Int × Int)} {T : Int → Option Nat} {p : Int × Int} {t : Tm} (h : Rp hs ss T p t) : RD hs ss T p t := ⟨p, 0, h.stop, h⟩
end
section
section
variable {c : Cx} {A : Around} {env : Env} {σ : Sig}
theorem cl_lenc {l : Addr} {qs : List (Int × Int)} {f : AO → Sig} {g : Sig} {P : D → Sig → Prop} (S : Sel σ l (.list (cm qs)) f g) (hf : qs.length < 1000000) (h : P (.int qs.length) σ) : CL c A σ (.builtin "len") [.ref l] P :=
  cl_len S (by rw [cm_length]; omega) (by rw [cm_length]; exact h)
theorem mt_appc {l : Addr} {qs : List (Int × Int)} {e : Expr} {f : AO → Sig} {g : Sig} {pos : Pos} {P : D → Sig → Prop} (S : Sel σ l (.list (cm qs)) f g) (hp : plainStarts [e] = true)
    (h : EV c A env σ e fun d σ₁ => ∃ p q qs f g, d = .tup [.int p, .int q] ∧ Sel σ₁ l (.list (cm qs)) f g ∧ qs.length < 1000000 ∧ P .none (f (.list (cm (qs ++ [(p, q)]))))) : MT c A env σ (.ref l) "append" pos [e] P := by
  refine mt_append S (h.mono fun d σ₁ hh => ?_) hp
  obtain ⟨p, q, qs, f, g, rfl, S', hz, hh⟩ := hh
  have z := sizeLine_big
  refine ⟨_, _, _, S', by rw [cm_length]; omega, ?_⟩
  rw [show cm qs ++ [D.tup [.int p, .int q]] = cm (qs ++ [(p, q)]) from (cm_append _ [(p, q)]).symm]
  exact hh
theorem o_mul2 {n : Nat} {P : D → Sig → Prop} (h : P (.int ((2 * n : Nat) : Int)) σ) : OP2 DR c A σ (binaryOp .Mult) (.int 2) (.int (n : Int)) P :=
  o_mul (IntMulOk.of_left (by decide)) (by rw [show (2 : Int) * (n : Int) = ((2 * n : Nat) : Int) from by omega]; exact h)
theorem cm_geti {qs : List (Int × Int)} {i : Nat} {d : D} (h : (cm qs)[i]? = some d) : ∃ p, qs[i]? = some p ∧ d = cellD p := by
  rw [cm_get] at h
  cases e : qs[i]? with
  | none => rw [e] at h; cases h
  | some p => rw [e] at h; exact ⟨p, rfl, (Option.some.inj h).symm⟩
noncomputable def mkL (ts : List Tm) (e : Tm) : Tm := ts.foldr (fun t d => .s 0 [t, d]) e
noncomputable def joinF {α : Type} (ok : α → Prop) (I : α → Sig) (P : Fl → Sig → Prop) (fl : Fl) (σ : Sig) : Prop := match fl with
  | .next => ∃ a, ok a ∧ σ = I a
  | f => P f σ
theorem joinF_next {α : Type} {ok : α → Prop} {I : α → Sig} {P : Fl → Sig → Prop} (a : α) (h : ok a) (e : σ = I a) : joinF ok I P .next σ := ⟨a, h, e⟩
theorem joinF_ret {α : Type} {ok : α → Prop} {I : α → Sig} {P : Fl → Sig → Prop} {d : D} (h : P (.ret d) σ) : joinF ok I P (.ret d) σ := h
/-- an if, whose ways meet again -/
theorem x_ifJ {α : Type} {t : Expr} {b o rest : List Stmt} {pos : Pos} {P : Fl → Sig → Prop} (I : α → Sig) (ok : α → Prop)
    (h : TS c A env σ t fun x σ₁ => br x (XS c A env σ₁ b (joinF ok I P)) (XS c A env σ₁ o (joinF ok I P))) (h' : ∀ a, ok a → XS c A env (I a) rest P) : XS c A env σ (.If t b o pos :: rest) P := by
  refine x_if (h.mono fun x σ₁ hb => ?_)
  have key : ∀ b, XS c A env σ₁ b (joinF ok I P) → XS c A env σ₁ b (contF c A env rest P) := fun b hb => TT.mono hb fun fl σ₂ hf => by
    cases fl with
    | next => obtain ⟨a, ha, rfl⟩ := hf; exact h' a ha
    | cont => exact hf
    | brk => exact hf
    | ret d => exact hf
  cases x with
  | true => exact key _ hb
  | false => exact key _ hb
theorem Sel.any {σ : Sig} {a : Addr} {ao : AO} (p : Addr × AO) (h : ∃ f g, Sel σ a ao f g) : ∃ f g, Sel (p :: σ) a ao f g := let ⟨_, _, s⟩ := h; ⟨_, _, .tail s⟩
theorem Sel.anyOf {σ : Sig} {a : Addr} {ao : AO} {f : AO → Sig} {g : Sig} (s : Sel σ a ao f g) : ∃ f g, Sel σ a ao f g := ⟨_, _, s⟩
theorem get_set_ne {α : Type} {l : List α} {i j : Nat} {x : α} (h : i ≠ j) : (l.set i x)[j]? = l[j]? := List.getElem?_set_ne h
theorem get_set_eq {α : Type} {l : List α} {i : Nat} {x : α} (h : i < l.length) : (l.set i x)[i]? = some x := List.getElem?_set_self h
theorem Ext.set {hs H : List (Int × Int)} {i : Nat} {x : Int × Int} (e : Ext hs H) (h : hs.length ≤ i) : Ext hs (H.set i x) := fun j p hj => by
  rw [get_set_ne (by have := lt_of_get hj; omega)]; exact e j p hj
noncomputable def isL (t : Tm) : Prop := ∃ x y, t = .s 0 [x, y]
theorem mkL_snoc (ts : List Tm) (x y : Tm) : mkL (ts ++ [x]) y = mkL ts (.s 0 [x, y]) := by unfold mkL; rw [List.foldr_append]; rfl
theorem mkL_inj : ∀ {ts ts' : List Tm} {e e' : Tm}, ¬ isL e → ¬ isL e' → mkL ts e = mkL ts' e' → ts = ts' ∧ e = e'
  | [], [], e, e', _, _, h => ⟨rfl, h⟩
  | [], t :: ts, e, e', h1, _, h => absurd ⟨_, _, h⟩ h1
  | t :: ts, [], e, e', _, h2, h => absurd ⟨_, _, h.symm⟩ h2
  | t :: ts, t' :: ts', e, e', h1, h2, h => by
    simp only [mkL, List.foldr_cons, Tm.s.injEq, List.cons.injEq, true_and, and_true] at h
    obtain ⟨h3, h4⟩ := mkL_inj (ts := ts) (ts' := ts') h1 h2 h.2
    exact ⟨by rw [h.1, h3], h4⟩
theorem Rp.isL {hs ss : List (Int × Int)} {T : Int → Option Nat} {q : Int × Int} {t : Tm} (h : Rp hs ss T q t) (hq : q.1 = 3) : isL t := by
  cases t with
  | v x => rw [Rp] at h; obtain ⟨r, h1, rfl, h3⟩ := h; simp at hq
  | a n => rw [Rp] at h; subst h; simp at hq
  | i n => rw [Rp] at h; subst h; simp at hq
  | s f ts =>
    rw [Rp] at h
    rcases h with ⟨rfl, h2, b, rfl, h4⟩ | ⟨h1, b, rfl, h3, h4⟩
    · match ts, h2 with
      | [x, y], _ => exact ⟨x, y, rfl⟩
    · simp at hq
theorem Rp.list {hs ss : List (Int × Int)} {T : Int → Option Nat} {q : Int × Int} {x y : Tm} (h : Rp hs ss T q (.s 0 [x, y])) : ∃ b : Nat, q = (3, (b : Int)) ∧ (∃ p q n, hs[b]? = some p ∧ Dr hs ss n p q ∧ Rp hs ss T q x) ∧ ∃ p q n, hs[b + 1]? = some p ∧ Dr hs ss n p q ∧ Rp hs ss T q y := by
  rw [Rp] at h
  rcases h with ⟨_, _, b, rfl, h4⟩ | ⟨h1, _⟩
  · exact ⟨b, rfl, h4.get (k := 0) rfl, h4.get (k := 1) rfl⟩
  · unfold ArOk at h1; simp at h1
theorem Tm.sz_pos : ∀ t : Tm, 0 < t.sz := fun t => by cases t <;> simp [Tm.sz] <;> omega
theorem Tm.sz_tl (x y : Tm) : y.sz + 1 + x.sz = (Tm.s 0 [x, y]).sz := by simp only [Tm.sz, Tm.szs]; omega
theorem Sel.any0 {σ : Sig} {a : Addr} {ao : AO} : ∃ f g, Sel ((a, ao) :: σ) a ao f g := ⟨_, _, .head⟩
theorem get_snoc {α : Type} {l : List α} {x y : α} {j : Nat} (h : (l ++ [x])[j]? = some y) : l[j]? = some y ∨ (j = l.length ∧ y = x) := by
  rcases Nat.lt_trichotomy j l.length with hj | rfl | hj
  · rw [List.getElem?_append_left hj] at h; exact .inl h
  · rw [List.getElem?_append_right (Nat.le_refl _), Nat.sub_self] at h; simp at h; exact .inr ⟨rfl, h.symm⟩
  · rw [List.getElem?_eq_none (by simp; omega)] at h; cases h
theorem mem_set_or {α : Type} {l : List α} {i : Nat} {x y : α} (h : y ∈ l.set i x) : y ∈ l ∨ y = x := by
  rcases List.mem_or_eq_of_mem_set h with h | h
  · exact .inl h
  · exact .inr h
/-- the list's blocks stand for the list -/
theorem Rp_mkL {H ss : List (Int × Int)} {T : Int → Option Nat} {b : Nat} {qs : List (Int × Int)} {ts : List Tm} {e : Int × Int} {et : Tm} (hl : qs.length = ts.length) (he : Rp H ss T e et)
    (hq : ∀ (i : Nat) (q : Int × Int) (t : Tm), qs[i]? = some q → ts[i]? = some t → Rp H ss T q t) (h0 : ∀ i, i < qs.length → H[b + 2 * i]? = qs[i]?) (h1 : ∀ i, i + 1 < qs.length → H[b + 2 * i + 1]? = some (3, ((b + 2 * i + 2 : Nat) : Int)))
    (h2 : qs ≠ [] → H[b + 2 * (qs.length - 1) + 1]? = some e) (hne : qs ≠ []) : Rp H ss T (3, (b : Int)) (mkL ts et) := by
  induction qs generalizing b ts with
  | nil => exact absurd rfl hne
  | cons q qs ih =>
    cases ts with
    | nil => simp at hl
    | cons t ts =>
      have hqt := hq 0 q t rfl rfl
      have a0 : H[b]? = some q := by have := h0 0 (by simp); simpa using this
      rw [mkL, List.foldr_cons, Rp]
      refine .inl ⟨rfl, rfl, b, rfl, ?_⟩
      rw [RpL, RpL, RpL]
      refine ⟨⟨q, q, 0, a0, hqt.stop, hqt⟩, ?_, trivial⟩
      by_cases hn : qs = []
      · subst hn
        cases ts with
        | cons _ _ => simp at hl
        | nil =>
          have := h2 (by simp)
          simp only [List.length_singleton, Nat.sub_self, Nat.mul_zero, Nat.add_zero] at this
          exact ⟨e, e, 0, this, he.stop, he⟩
      · have r := ih (b := b + 2) (ts := ts) (by simpa using hl) (fun i q' t' g1 g2 => hq (i + 1) q' t' (by simpa using g1) (by simpa using g2))
          (fun i hi => by have := h0 (i + 1) (by simpa using hi); rw [show b + 2 * (i + 1) = b + 2 + 2 * i from by omega] at this; simpa using this)
          (fun i hi => by have := h1 (i + 1) (by simp only [List.length_cons]; omega); rw [show b + 2 * (i + 1) + 1 = b + 2 + 2 * i + 1 from by omega, show b + 2 * (i + 1) + 2 = b + 2 + 2 * i + 2 from by omega] at this; exact this)
          (fun _ => by
            have := h2 (by simp)
            have l : 0 < qs.length := List.length_pos_iff.mpr hn
            rw [show b + 2 * ((q :: qs).length - 1) + 1 = b + 2 + 2 * (qs.length - 1) + 1 from by simp only [List.length_cons]; omega] at this
            exact this) hn
        have l : 0 < qs.length := List.length_pos_iff.mpr hn
        have a1 := h1 0 (by simp only [List.length_cons]; omega)
        refine ⟨(3, ((b + 2 : Nat) : Int)), _, 0, ?_, r.stop, r⟩
        simpa using a1
end
end
section
section
variable {c : Cx} {A : Around} {env : Env} {σ : Sig}
noncomputable def rsig (row : Addr) (l : List Int) : Sig := [(row, .list (im l))]
theorem Hole.rowh {row : Addr} {l : List Int} {Y : Sig} : Hole (rsig row) ((row, .list (im l)) :: Y) l (fun l => (row, .list (im l)) :: Y) := Hole.here (b := rsig row)
theorem Hole.row {row : Addr} {l : List Int} {F : List Int → Sig} (S : Hole (rsig row) σ l F) : ∃ f g, Sel σ row (.list (im l)) f g ∧ ∀ l', f (.list (im l')) = F l' :=
  let ⟨f, g, s, e⟩ := S.sel (R := fun ao z => ao = .list (im z)) fun Y => ⟨_, _, .head, fun _ z h => by subst h; rfl⟩; ⟨f, g, s, fun l => e _ _ rfl⟩
theorem mt_appi {l : Addr} {qs : List Int} {e : Expr} {f : AO → Sig} {g : Sig} {pos : Pos} {P : D → Sig → Prop} (S : Sel σ l (.list (im qs)) f g) (hp : plainStarts [e] = true)
    (h : EV c A env σ e fun d σ₁ => ∃ p qs f g, d = .int p ∧ Sel σ₁ l (.list (im qs)) f g ∧ qs.length < 1000000 ∧ P .none (f (.list (im (qs ++ [p]))))) : MT c A env σ (.ref l) "append" pos [e] P := by
  refine mt_append S (h.mono fun d σ₁ hh => ?_) hp
  obtain ⟨p, qs, f, g, rfl, S', hz, hh⟩ := hh
  have z := sizeLine_big
  refine ⟨_, _, _, S', by rw [im_length]; omega, ?_⟩
  rw [show im qs ++ [D.int p] = im (qs ++ [p]) from (List.map_append (l₂ := [p])).symm]
  exact hh
theorem mt_appt {l : Addr} {ts : List Tm} {e : Expr} {f : AO → Sig} {g : Sig} {pos : Pos} {P : D → Sig → Prop} (S : Sel σ l (.list (Tm.ds ts)) f g) (hp : plainStarts [e] = true)
    (h : EV c A env σ e fun d σ₁ => ∃ t ts f g, d = Tm.d t ∧ Sel σ₁ l (.list (Tm.ds ts)) f g ∧ ts.length < 1000000 ∧ P .none (f (.list (Tm.ds (ts ++ [t]))))) : MT c A env σ (.ref l) "append" pos [e] P := by
  refine mt_append S (h.mono fun d σ₁ hh => ?_) hp
  obtain ⟨p, qs, f, g, rfl, S', hz, hh⟩ := hh
  have z := sizeLine_big
  refine ⟨_, _, _, S', by rw [Tm.ds_length]; omega, ?_⟩
  rw [show Tm.ds qs ++ [Tm.d p] = Tm.ds (qs ++ [p]) from by rw [Tm.ds_append]; rfl]
  exact hh
theorem mt_popi {l : Addr} {qs : List Int} {x : Int} {f : AO → Sig} {g : Sig} {pos : Pos} {P : D → Sig → Prop} (S : Sel σ l (.list (im qs)) f g) (hx : qs.getLast? = some x) (hz : qs.length < 1000000)
    (h : P (.int x) (f (.list (im qs.dropLast)))) : MT c A env σ (.ref l) "pop" pos [] P := by
  have z := sizeLine_big
  refine mt_pop S (d := .int x) (by unfold im; rw [List.getLast?_map, hx]; rfl) (by rw [im_length]; omega) ?_
  rw [show (im qs).dropLast = im qs.dropLast from by unfold im; rw [List.map_dropLast]]
  exact h
theorem im_geti {qs : List Int} {i : Nat} {d : D} (h : (im qs)[i]? = some d) : ∃ p, qs[i]? = some p ∧ d = .int p := by
  unfold im at h
  rw [List.getElem?_map] at h
  cases e : qs[i]? with
  | none => rw [e] at h; cases h
  | some p => rw [e] at h; exact ⟨p, rfl, (Option.some.inj h).symm⟩
theorem nopylong (i : Int) {j : Int} (hj : j.natAbs < 2 ^ 30) : Builtin.divisionGoesByPylong i j = false := by
  unfold Builtin.divisionGoesByPylong
  have : j.natAbs.log2 / 30 = 0 := by
    by_cases h0 : j.natAbs = 0
    · rw [h0]; rfl
    · have := (Nat.log2_lt h0).mpr hj; omega
  simp only [this]
  split <;> simp
theorem o_modl {i : Int} {j : Int} {P : D → Sig → Prop} (hj : 0 < j) (h : ∀ k : Nat, (k : Int) < j → P (.int k) σ) : OP2 DR c A σ (binaryOp .Mod) (.int i) (.int j) P := by
  refine o_mod (by omega) ?_
  have h0 := Int.fmod_nonneg_of_pos i hj
  have h1 := Int.fmod_lt_of_pos i hj
  have := h (i.fmod j).toNat (by omega)
  rw [Int.toNat_of_nonneg h0] at this
  exact this
theorem XS.weak {b : List Stmt} {P : Fl → Sig → Prop} {σ' : Sig} (k : σ'.Sublist σ) (h : XS c A env σ' b P) : XS c A env σ b P := TT.weak k h
theorem EV.weak {e : Expr} {P : D → Sig → Prop} {σ' : Sig} (k : σ'.Sublist σ) (h : EV c A env σ' e P) : EV c A env σ e P := TT.weak k h
theorem XS.perm {b : List Stmt} {P : Fl → Sig → Prop} {σ' : Sig} (k : σ'.Perm σ) (h : XS c A env σ' b P) : XS c A env σ b P := fun s Q E hs q => h s Q E ⟨hs.st.perm k, hs.gens, hs.os⟩ q
theorem e_iteJ {t b e : Expr} {pos : Pos} {P : D → Sig → Prop} (ok : D → Prop) (σ₀ : Sig)
    (h : TS c A env σ t fun x σ₁ => br x (EV c A env σ₁ b fun d σ' => ok d ∧ σ' = σ₀) (EV c A env σ₁ e fun d σ' => ok d ∧ σ' = σ₀)) (h' : ∀ d, ok d → P d σ₀) : EV c A env σ (.IfExp t b e pos) P := by
  refine e_ite (h.mono fun x σ₁ hb => ?_)
  cases x with
  | true => exact TT.mono (show EV c A env σ₁ b _ from hb) fun d σ' hd => by obtain ⟨h1, rfl⟩ := hd; exact h' d h1
  | false => exact TT.mono (show EV c A env σ₁ e _ from hb) fun d σ' hd => by obtain ⟨h1, rfl⟩ := hd; exact h' d h1
noncomputable def Bnd : Nat → Nat
  | 0 => 0
  | k + 1 => 4 + 3 * Bnd k
noncomputable def Csz : Nat → Nat
  | 0 => 1
  | k + 1 => 1 + 3 * Csz k
/-- what the law draws -/
structure Drawn (deep : Nat) (t : Tm) : Prop where
  ok : t.ok
  dp : t.dp ≤ deep
  nd : t.nd ≤ Bnd deep
  sz : t.sz ≤ Csz deep
theorem drawn_v (k : Nat) (x : Int) : Drawn k (.v x) := ⟨trivial, by simp [Tm.dp], by simp [Tm.nd], by simp only [Tm.sz]; cases k <;> simp [Csz]⟩
theorem drawn_i (k : Nat) (x : Int) : Drawn k (.i x) := ⟨trivial, by simp [Tm.dp], by simp [Tm.nd], by simp only [Tm.sz]; cases k <;> simp [Csz]⟩
theorem drawn_a (k : Nat) (x : Int) (h : x = 0 ∨ x = 4) : Drawn k (.a x) := ⟨h, by simp [Tm.dp], by simp [Tm.nd], by simp only [Tm.sz]; cases k <;> simp [Csz]⟩
theorem drawn_l {k : Nat} : ∀ {ts : List Tm}, (∀ t ∈ ts, Drawn k t) → Tm.oks ts ∧ Tm.dps ts ≤ k ∧ Tm.nds ts ≤ ts.length * Bnd k ∧ Tm.szs ts ≤ ts.length * Csz k
  | [], _ => ⟨trivial, by simp [Tm.dps], by simp [Tm.nds], by simp [Tm.szs]⟩
  | t :: ts, h => by
    have a := h t (.head _)
    obtain ⟨b1, b2, b3, b4⟩ := drawn_l (ts := ts) fun t m => h t (.tail _ m)
    refine ⟨⟨a.ok, b1⟩, ?_, ?_, ?_⟩
    · rw [Tm.dps]; have := a.dp; omega
    · rw [Tm.nds, List.length_cons, Nat.succ_mul]; have := a.nd; omega
    · rw [Tm.szs, List.length_cons, Nat.succ_mul]; have := a.sz; omega
theorem drawn_s {k f : Nat} {ts : List Tm} (hf : (f = 0 ∧ ts.length = 2) ∨ ArOk f ts.length) (h : ∀ t ∈ ts, Drawn k t) : Drawn (k + 1) (.s f ts) := by
  obtain ⟨b1, b2, b3, b4⟩ := drawn_l h
  have l : ts.length ≤ 3 := by unfold ArOk at hf; omega
  refine ⟨⟨hf, b1⟩, ?_, ?_, ?_⟩
  · rw [Tm.dp]; omega
  · rw [Tm.nd, Bnd]; have := Nat.mul_le_mul_right (Bnd k) l; omega
  · rw [Tm.sz, Csz]; have := Nat.mul_le_mul_right (Csz k) l; omega
end
end
noncomputable def fnF (y : Sy) (p q : Int) : Int × Sy := if 0 ≤ (kAtI y.kv [p, q]).getD (-1) then ((kAtI y.kv [p, q]).getD (-1), y) else (y.fl.length, { y with fl := y.fl ++ [(p, q)], kv := kPutI y.kv [p, q] y.fl.length })
noncomputable def atF (y : Sy) (x : Str) : Int × Sy := if 0 ≤ (kAtI y.ak x).getD (-1) then ((kAtI y.ak x).getD (-1), y) else (y.tl.length, { y with tl := y.tl ++ [x], ak := kPutI y.ak x y.tl.length })
section
noncomputable def fl0 : List (Int × Int) := [(1, 2), (7, 2), (9, 2), (10, 2), (11, 1), (12, 2), (12, 1), (13, 1), (14, 2), (2, 1), (20, 2), (21, 2), (3, 1), (3, 2), (4, 2), (6, 2), (22, 2), (26, 1), (27, 3), (28, 1), (15, 0), (16, 0), (17, 0), (18, 0), (19, 1), (19, 2), (19, 3), (19, 4), (19, 5), (19, 6), (19, 7), (19, 8)]
noncomputable def kv0 : List (List Int × Int) := fl0.zipIdx.map fun p => ([p.1.1, p.1.2], (p.2 : Int))
noncomputable def syAdd (n : Int) (x : List (Int × Int) × List (List Int × Int)) : List (Int × Int) × List (List Int × Int) := (x.1 ++ [(n, 0)], x.2 ++ [([n, 0], (x.1.length : Int))])
noncomputable def sys : List (List (Int × Int) × List (List Int × Int)) := [(fl0, kv0), syAdd 0 (fl0, kv0), syAdd 4 (fl0, kv0), syAdd 4 (syAdd 0 (fl0, kv0)), syAdd 0 (syAdd 4 (fl0, kv0))]
noncomputable def SyOk (y : Sy) : Prop := (y.fl, y.kv) ∈ sys
theorem SyOk.len {y : Sy} (h : SyOk y) : y.fl.length < 1000 ∧ y.kv.length < 1000 := by
  have : ∀ x ∈ sys, x.1.length < 1000 ∧ x.2.length < 1000 := by decide +kernel
  exact this _ h
theorem SyOk.ar {y : Sy} (h : SyOk y) {f n : Nat} (ha : ArOk f n) : ∃ z : Int, y.fl[f]? = some (z, (n : Int)) := by
  have : ∀ x ∈ sys, x.1[12]? = some (3, 1) ∧ x.1[13]? = some (3, 2) ∧ x.1[18]? = some (27, 3) := by decide +kernel
  obtain ⟨h1, h2, h3⟩ := this _ h
  rcases ha with ⟨rfl, rfl⟩ | ⟨rfl, rfl⟩ | ⟨rfl, rfl⟩
  · exact ⟨_, h1⟩
  · exact ⟨_, h2⟩
  · exact ⟨_, h3⟩
theorem SyOk.fn {y : Sy} (h : SyOk y) {n : Int} (hn : n = 0 ∨ n = 4) : SyOk (fnF y n 0).2 ∧ fnF (fnF y n 0).2 n 0 = fnF y n 0 ∧ ∃ i : Nat, (fnF y n 0).1 = i ∧ (fnF y n 0).2.fl[i]? = some (n, 0) := by
  obtain ⟨tl, ak, fl, kv⟩ := y
  unfold SyOk sys at h
  simp only [List.mem_cons, List.not_mem_nil, or_false, Prod.mk.injEq] at h
  rcases h with ⟨rfl, rfl⟩ | ⟨rfl, rfl⟩ | ⟨rfl, rfl⟩ | ⟨rfl, rfl⟩ | ⟨rfl, rfl⟩ <;> rcases hn with rfl | rfl
  · exact ⟨.tail _ (.head _), rfl, 32, rfl, rfl⟩
  · exact ⟨.tail _ (.tail _ (.head _)), rfl, 32, rfl, rfl⟩
  · exact ⟨.tail _ (.head _), rfl, 32, rfl, rfl⟩
  · exact ⟨.tail _ (.tail _ (.tail _ (.head _))), rfl, 33, rfl, rfl⟩
  · exact ⟨.tail _ (.tail _ (.tail _ (.tail _ (.head _)))), rfl, 33, rfl, rfl⟩
  · exact ⟨.tail _ (.tail _ (.head _)), rfl, 32, rfl, rfl⟩
  · exact ⟨.tail _ (.tail _ (.tail _ (.head _))), rfl, 32, rfl, rfl⟩
  · exact ⟨.tail _ (.tail _ (.tail _ (.head _))), rfl, 33, rfl, rfl⟩
  · exact ⟨.tail _ (.tail _ (.tail _ (.tail _ (.head _)))), rfl, 33, rfl, rfl⟩
  · exact ⟨.tail _ (.tail _ (.tail _ (.tail _ (.head _)))), rfl, 32, rfl, rfl⟩

section
variable {c : Cx} {A : Around} {env : Env} {σ : Sig} {a : Ad} {na : Addr} {T : Int → Option Nat}
noncomputable def nkv (T : Int → Option Nat) (ns : List Int) : List (Int × D) := ns.map fun x => (x, .tup [.int 0, .int ((T x).getD 0 : Nat)])
noncomputable def nsig (a : Ad) (na : Addr) (T : Int → Option Nat) (z : Wc × List Int) : Sig := wsig a z.1 ++ [(na, .idict (nkv T z.2))]
theorem Hole.w {σ : Sig} {z : Wc × List Int} {F : Wc × List Int → Sig} (h : Hole (nsig a na T) σ z F) : Hole (wsig a) σ z.1 (fun w => F (w, z.2)) := by
  induction h with
  | @here x Y => exact Hole.here (b := wsig a) (x := x.1) (Y := [(na, .idict (nkv T x.2))] ++ Y)
  | skip _ ih => exact .skip ih
theorem Hole.nm {z : Wc × List Int} {F : Wc × List Int → Sig} (S : Hole (nsig a na T) σ z F) : ∃ f g, Sel σ na (.idict (nkv T z.2)) f g ∧ ∀ l, f (.idict (nkv T l)) = F (z.1, l) :=
  let ⟨f, g, s, e⟩ := S.sel (R := fun ao y => ∃ l, ao = .idict (nkv T l) ∧ y = (z.1, l)) fun Y => ⟨_, _, .tail (.tail (.tail (.tail (.tail (.tail (.tail (.tail (.tail (.tail (.tail .head)))))))))), fun _ _ ⟨l, h1, h2⟩ => by subst h1; subst h2; rfl⟩; ⟨f, g, s, fun l => e _ _ ⟨l, rfl, rfl⟩⟩
theorem Sel.again {σ : Sig} {p : Addr} {ao : AO} {f : AO → Sig} {g : Sig} (s : Sel σ p ao f g) (ao' : AO) : Sel (f ao') p ao' f g := by
  induction s with
  | head => exact .head
  | tail _ ih => exact .tail ih
theorem Sel.self {σ : Sig} {p : Addr} {ao : AO} {f : AO → Sig} {g : Sig} (s : Sel σ p ao f g) : f ao = σ := by
  induction s with
  | head => rfl
  | @tail _ q _ _ _ _ _ ih => show q :: _ = _; rw [ih]
theorem OP2.conv {α β : Type} {R : Heap → α → β → Prop} {f : Value → Value → Sem α} {d e : D} {P : β → Sig → Prop} {σ' : Sig} (hc : ∀ s, Sok c s σ' → Sok c s σ) (h : OP2 R c A σ f d e P) : OP2 R c A σ' f d e P :=
  fun v w s Q E hs r r' q => h v w s Q E (hc s hs) r r' q
theorem CP.perm {e : Expr} {it D : Addr} {P : Sig → Prop} {σ' : Sig} (k : σ'.Perm σ) (h : CP c A env σ' e it D P) : CP c A env σ e it D P := fun s R hs q => h s R ⟨hs.st.perm k, hs.gens, hs.os⟩ q
theorem kAt_nkv {ns : List Int} {x : Int} : kAt (nkv T ns) x = if x ∈ ns then some (.tup [.int 0, .int ((T x).getD 0 : Nat)]) else none := by
  induction ns with
  | nil => simp [kAt, nkv]
  | cons y ns ih =>
    unfold kAt nkv at *
    rw [List.map_cons, List.find?_cons]
    by_cases e : y = x
    · subst e; simp
    · simp only [e, decide_false]
      rw [ih]
      by_cases m : x ∈ ns
      · simp [m]
      · simp [m, Ne.symm e]
theorem kPut_nkv {ns : List Int} {x : Int} {r : Nat} (hn : x ∉ ns) (hT : T x = some r) : kPut (nkv T ns) x (.tup [.int 0, .int (r : Nat)]) = nkv T (ns ++ [x]) := by
  unfold kPut
  rw [if_neg]
  · unfold nkv; rw [List.map_append]; simp [hT]
  · intro h
    obtain ⟨p, hp, e⟩ := List.any_eq_true.mp h
    unfold nkv at hp
    obtain ⟨y, hy, rfl⟩ := List.mem_map.mp hp
    simp only [decide_eq_true_eq] at e
    exact hn (e ▸ hy)
noncomputable def NsOk (T : Int → Option Nat) (ns : List Int) : Prop := (0 ∈ ns ∧ ns.Nodup) ∧ ∀ x ∈ ns, ∃ r, T x = some r
end
end
section
noncomputable def tAt (tb : List (Int × Nat)) (x : Int) : Option Nat := (tb.find? fun e => e.1 = x).map (·.2)
noncomputable def tkv (tb : List (Int × Nat)) : List (Int × D) := tb.map fun e => (e.1, .tup [.int 0, .int (e.2 : Nat)])
theorem kAt_tkv {tb : List (Int × Nat)} {x : Int} : kAt (tkv tb) x = (tAt tb x).map fun r => .tup [.int 0, .int (r : Nat)] := by
  unfold kAt tkv tAt
  rw [List.find?_map, Option.map_map, Option.map_map]
  rfl
theorem tAt_new {tb : List (Int × Nat)} {x y : Int} {r : Nat} (h : tAt tb x = none) : tAt (tb ++ [(x, r)]) y = if y = x then some r else tAt tb y := by
  unfold tAt at *
  rw [List.find?_append]
  by_cases e : y = x
  · subst e
    rw [Option.map_eq_none_iff] at h
    rw [h]; simp
  · rw [if_neg e]
    cases q : tb.find? fun e => decide (e.1 = y) with
    | none => simp [Ne.symm e]
    | some p => simp
theorem kPut_tkv {tb : List (Int × Nat)} {x : Int} {r : Nat} (h : tAt tb x = none) : kPut (tkv tb) x (.tup [.int 0, .int (r : Nat)]) = tkv (tb ++ [(x, r)]) := by
  unfold kPut
  rw [if_neg]
  · unfold tkv; rw [List.map_append]; rfl
  · intro hh
    obtain ⟨p, hp, e⟩ := List.any_eq_true.mp hh
    unfold tkv at hp
    obtain ⟨y, hy, rfl⟩ := List.mem_map.mp hp
    simp only [decide_eq_true_eq] at e
    unfold tAt at h
    rw [Option.map_eq_none_iff, List.find?_eq_none] at h
    exact h y hy (by simpa using e)
noncomputable def zipF : Nat → List Tm → List (Nat × Tm)
  | _, [] => []
  | b, t :: ts => (b, t) :: zipF (b + 1) ts
theorem zipF_mem : ∀ {ts : List Tm} {b : Nat} {e : Nat × Tm}, e ∈ zipF b ts → ∃ k, e.1 = b + k ∧ ts[k]? = some e.2
  | t :: ts, b, e, h => by
    rw [zipF] at h
    rcases List.mem_cons.mp h with rfl | h
    · exact ⟨0, rfl, rfl⟩
    · obtain ⟨k, h1, h2⟩ := zipF_mem h
      exact ⟨k + 1, by omega, by simpa using h2⟩
theorem zipF_get : ∀ {ts : List Tm} {b k : Nat} {t : Tm}, ts[k]? = some t → (b + k, t) ∈ zipF b ts
  | u :: ts, b, 0, t, h => by
    simp only [List.getElem?_cons_zero, Option.some.injEq] at h
    subst h
    rw [zipF]; exact .head _
  | u :: ts, b, k + 1, t, h => by
    rw [zipF, show b + (k + 1) = b + 1 + k from by omega]
    exact .tail _ (zipF_get (by simpa using h))
theorem zipF_nodup : ∀ {ts : List Tm} {b : Nat}, ((zipF b ts).map (·.1)).Nodup
  | [], b => by simp [zipF]
  | t :: ts, b => by
    rw [zipF, List.map_cons, List.nodup_cons]
    refine ⟨fun h => ?_, zipF_nodup⟩
    obtain ⟨e, he, h⟩ := List.mem_map.mp h
    obtain ⟨k, h1, _⟩ := zipF_mem he
    dsimp only at h
    omega
noncomputable def pnd (l : List (Nat × Tm)) : Nat := (l.map fun e => e.2.nd).sum
noncomputable def psz (l : List (Nat × Tm)) : Nat := (l.map fun e => e.2.sz).sum
theorem pnd_app (l m : List (Nat × Tm)) : pnd (l ++ m) = pnd l + pnd m := by unfold pnd; rw [List.map_append, List.sum_append]
theorem psz_app (l m : List (Nat × Tm)) : psz (l ++ m) = psz l + psz m := by unfold psz; rw [List.map_append, List.sum_append]
theorem pnd_cons (e : Nat × Tm) (l : List (Nat × Tm)) : pnd (e :: l) = e.2.nd + pnd l := by unfold pnd; rw [List.map_cons, List.sum_cons]
theorem psz_cons (e : Nat × Tm) (l : List (Nat × Tm)) : psz (e :: l) = e.2.sz + psz l := by unfold psz; rw [List.map_cons, List.sum_cons]
theorem pnd_zip : ∀ (ts : List Tm) (b : Nat), pnd (zipF b ts) = Tm.nds ts
  | [], b => rfl
  | t :: ts, b => by rw [zipF, pnd_cons, pnd_zip, Tm.nds]
theorem psz_zip : ∀ (ts : List Tm) (b : Nat), psz (zipF b ts) = Tm.szs ts
  | [], b => rfl
  | t :: ts, b => by rw [zipF, psz_cons, psz_zip, Tm.szs]
/-- a block: its cell, its first place, what it holds at first -/
noncomputable def bc (f len : Nat) : Int × Int := if f = 0 then (3, (len : Int)) else (2, (len : Int))
noncomputable def bb (f len : Nat) : Nat := if f = 0 then len else len + 1
noncomputable def bk (f n len : Nat) : List (Int × Int) := if f = 0 then vars len 2 else (6, (f : Int)) :: vars (len + 1) n
theorem bk_len {f n len : Nat} (h : (f = 0 ∧ n = 2) ∨ ArOk f n) : (bk f n len).length ≤ 1 + n ∧ bb f len + n = len + (bk f n len).length := by
  unfold bk bb ArOk at *
  split
  · rw [vars_length]; omega
  · rw [List.length_cons, vars_length]; omega
theorem bk_get {f n len k : Nat} {hs : List (Int × Int)} (hl : hs.length = len) (h : (f = 0 ∧ n = 2) ∨ ArOk f n) (hk : k < n) : (hs ++ bk f n len)[bb f len + k]? = some (0, ((bb f len + k : Nat) : Int)) := by
  unfold bk bb
  have : ArOk f n → f ≠ 0 := fun a => by unfold ArOk at a; omega
  by_cases e : f = 0
  · rw [if_pos e, if_pos e, List.getElem?_append_right (by omega), show len + k - hs.length = k from by omega]
    exact vars_get (by rcases h with h | h; omega; exact absurd e (this h))
  · rw [if_neg e, if_neg e, List.getElem?_append_right (by omega), show len + 1 + k - hs.length = k + 1 from by omega, List.getElem?_cons_succ]
    exact vars_get hk
theorem bk_tag {f n len : Nat} {p : Int × Int} (h : p ∈ bk f n len) : p.1 ≠ 1 := by
  unfold bk at h
  split at h
  · unfold vars at h; obtain ⟨i, _, rfl⟩ := List.mem_map.mp h; simp
  · rcases List.mem_cons.mp h with rfl | h
    · simp
    · unfold vars at h; obtain ⟨i, _, rfl⟩ := List.mem_map.mp h; simp
theorem bc_tag (f len : Nat) : (bc f len).1 ≠ 1 := by unfold bc; split <;> simp
theorem bc_base (f len : Nat) : (if (bc f len).1 = 3 then (bc f len).2 else (bc f len).2 + 1) = ((bb f len : Nat) : Int) := by unfold bc bb; split <;> simp
/-- what a later heap must be like -/
structure Fin' (hs ss : List (Int × Int)) (tb : List (Int × Nat)) (pend : List (Nat × Tm)) (hs' : List (Int × Int)) (T' : Int → Option Nat) : Prop where
  keep : ∀ (i : Nat) (p : Int × Int), hs[i]? = some p → (∀ e ∈ pend, e.1 ≠ i) → hs'[i]? = some p
  tab : ∀ x r, tAt tb x = some r → T' x = some r
  root : ∀ x (r : Nat), T' x = some r → hs'[r]? = some (0, (r : Int))
  pend : ∀ e ∈ pend, ∃ p q n, hs'[e.1]? = some p ∧ Dr hs' ss n p q ∧ Rp hs' ss T' q e.2
structure PI (ss : List (Int × Int)) (B N : Nat) (gp : Int × Int) (gt : Tm) (hs : List (Int × Int)) (tb : List (Int × Nat)) (pend : List (Nat × Tm)) : Prop where
  good : ∀ hs' T', Fin' hs ss tb pend hs' T' → Rp hs' ss T' gp gt
  nodup : (pend.map (·.1)).Nodup
  own : ∀ e ∈ pend, hs[e.1]? = some (0, (e.1 : Int))
  root : ∀ x (r : Nat), tAt tb x = some r → hs[r]? = some (0, (r : Int)) ∧ ∀ e ∈ pend, e.1 ≠ r
  inj : TInj (tAt tb)
  tag : ∀ p ∈ hs, p.1 ≠ 1
  t0 : tAt tb 0 = some 0
  t1 : tAt tb 1 = some 1
  len : hs.length + pnd pend ≤ B
  cnt : tb.length + psz pend ≤ N
  ok : ∀ e ∈ pend, e.2.ok
section
variable {ss : List (Int × Int)} {B N : Nat} {gp : Int × Int} {gt : Tm} {hs : List (Int × Int)} {tb : List (Int × Nat)} {pend : List (Nat × Tm)} {b : Nat} {t : Tm}
theorem PI.ne (h : PI ss B N gp gt hs tb ((b, t) :: pend)) : ∀ e ∈ pend, e.1 ≠ b := fun e he z => by
  have := h.nodup
  rw [List.map_cons, List.nodup_cons] at this
  exact this.1 (List.mem_map.mpr ⟨e, he, z⟩)
theorem PI.settle (h : PI ss B N gp gt hs tb ((b, t) :: pend)) (p : Int × Int) (hp : p.1 ≠ 1)
    (hc : ∀ hs' T', hs'[b]? = some p → (∀ x r, tAt tb x = some r → T' x = some r) → (∀ x (r : Nat), T' x = some r → hs'[r]? = some (0, (r : Int))) → ∃ q n, Dr hs' ss n p q ∧ Rp hs' ss T' q t) : PI ss B N gp gt (hs.set b p) tb pend := by
  have lb := lt_of_get (h.own _ (.head _))
  have ne := h.ne
  refine ⟨fun hs' T' f => h.good hs' T' ⟨fun i q hi hn => ?_, f.tab, f.root, fun e he => ?_⟩, (List.nodup_cons.mp h.nodup).2, fun e he => ?_, fun x r hx => ⟨?_, fun e he => (h.root x r hx).2 e (.tail _ he)⟩, h.inj, fun q hq => ?_, h.t0, h.t1, ?_, ?_, fun e he => h.ok e (.tail _ he)⟩
  · exact f.keep i q (by rw [get_set_ne (hn _ (.head _))]; exact hi) fun e he => hn e (.tail _ he)
  · rcases List.mem_cons.mp he with rfl | he
    · have hb : hs'[b]? = some p := f.keep b p (get_set_eq lb) ne
      obtain ⟨q, n, h1, h2⟩ := hc hs' T' hb f.tab f.root
      exact ⟨p, q, n, hb, h1, h2⟩
    · exact f.pend e he
  · rw [get_set_ne (fun z => ne e he z.symm)]; exact h.own e (.tail _ he)
  · have := h.root x r hx
    rw [get_set_ne (this.2 _ (.head _))]; exact this.1
  · rcases mem_set_or hq with hq | rfl
    · exact h.tag q hq
    · exact hp
  · have := h.len; rw [pnd_cons] at this; rw [List.length_set]; omega
  · have := h.cnt; rw [psz_cons] at this; omega
theorem PI.known {x : Int} {r : Nat} (h : PI ss B N gp gt hs tb ((b, .v x) :: pend)) (hx : tAt tb x = some r) : PI ss B N gp gt (hs.set b (0, (r : Int))) tb pend :=
  h.settle _ (by simp) fun hs' T' _ h1 h2 => ⟨(0, (r : Int)), 0, .here0 (h2 x r (h1 x r hx)), by rw [Rp]; exact ⟨r, h1 x r hx, rfl, h2 x r (h1 x r hx)⟩⟩
theorem PI.atom {n : Int} (h : PI ss B N gp gt hs tb ((b, .a n) :: pend)) : PI ss B N gp gt (hs.set b (4, n)) tb pend :=
  h.settle _ (by simp) fun hs' T' _ h1 h2 => ⟨(4, n), 0, .stop (by simp) (by simp), by rw [Rp]⟩
theorem PI.int {n : Int} (h : PI ss B N gp gt hs tb ((b, .i n) :: pend)) : PI ss B N gp gt (hs.set b (5, n)) tb pend :=
  h.settle _ (by simp) fun hs' T' _ h1 h2 => ⟨(5, n), 0, .stop (by simp) (by simp), by rw [Rp]⟩
theorem PI.fresh {x : Int} (h : PI ss B N gp gt hs tb ((b, .v x) :: pend)) (hx : tAt tb x = none) : PI ss B N gp gt hs (tb ++ [(x, b)]) pend := by
  have ne := h.ne
  have own := h.own _ (.head _)
  have old : ∀ y r, tAt tb y = some r → tAt (tb ++ [(x, b)]) y = some r := fun y r hy => by
    rw [tAt_new hx, if_neg]
    · exact hy
    · rintro rfl; rw [hx] at hy; cases hy
  refine ⟨fun hs' T' f => h.good hs' T' ⟨fun i q hi hn => f.keep i q hi fun e he => hn e (.tail _ he), fun y r hy => f.tab y r (old y r hy), f.root, fun e he => ?_⟩, (List.nodup_cons.mp h.nodup).2, fun e he => h.own e (.tail _ he), fun y r hy => ?_, fun y z r hy hz => ?_, h.tag, old _ _ h.t0, old _ _ h.t1, ?_, ?_, fun e he => h.ok e (.tail _ he)⟩
  · rcases List.mem_cons.mp he with rfl | he
    · have hT : T' x = some b := f.tab x b (by rw [tAt_new hx, if_pos rfl])
      have hb := f.root x b hT
      exact ⟨_, _, 0, hb, .here0 hb, by rw [Rp]; exact ⟨b, hT, rfl, hb⟩⟩
    · exact f.pend e he
  · rw [tAt_new hx] at hy
    split at hy
    · cases hy; exact ⟨own, ne⟩
    · exact ⟨(h.root y r hy).1, fun e he => (h.root y r hy).2 e (.tail _ he)⟩
  · rw [tAt_new hx] at hy hz
    split at hy <;> split at hz
    · rename_i a1 a2; rw [a1, a2]
    · cases hy; exact absurd rfl ((h.root z _ hz).2 _ (.head _))
    · cases hz; exact absurd rfl ((h.root y _ hy).2 _ (.head _))
    · exact h.inj y z r hy hz
  · have := h.len; rw [pnd_cons] at this; omega
  · have := h.cnt; rw [psz_cons] at this; rw [List.length_append]; have e : (Tm.v x).sz = 1 := (by simp [Tm.sz]); simp only [e] at this; simp only [List.length_cons, List.length_nil]; omega
/-- a block stands for its term when its places do -/
theorem Rp_block {hs' : List (Int × Int)} {T' : Int → Option Nat} {f : Nat} {ts : List Tm} {len : Nat} (ho : (f = 0 ∧ ts.length = 2) ∨ ArOk f ts.length) (h6 : f ≠ 0 → hs'[len]? = some (6, (f : Int)))
    (hp : ∀ e ∈ zipF (bb f len) ts, ∃ p q n, hs'[e.1]? = some p ∧ Dr hs' ss n p q ∧ Rp hs' ss T' q e.2) : Rp hs' ss T' (bc f len) (.s f ts) := by
  have hL : RpL hs' ss T' (bb f len) ts := RpL.of fun k t ht => hp _ (zipF_get ht)
  rw [Rp]
  unfold bc bb at *
  rcases ho with ⟨rfl, l2⟩ | ha
  · exact .inl ⟨rfl, l2, len, rfl, hL⟩
  · have f0 : f ≠ 0 := by unfold ArOk at ha; omega
    rw [if_neg f0] at hL ⊢
    exact .inr ⟨ha, len, rfl, h6 f0, hL⟩
theorem bk_six {f n len : Nat} {hs : List (Int × Int)} (hl : hs.length = len) (f0 : f ≠ 0) : (hs ++ bk f n len)[len]? = some (6, (f : Int)) := by
  unfold bk
  rw [if_neg f0, List.getElem?_append_right (by omega), show len - hs.length = 0 from by omega]; rfl
theorem PI.grow {f : Nat} {ts : List Tm} (h : PI ss B N gp gt hs tb ((b, .s f ts) :: pend)) : PI ss B N gp gt ((hs ++ bk f ts.length hs.length).set b (bc f hs.length)) tb (pend ++ zipF (bb f hs.length) ts) := by
  have ho := h.ok _ (.head _)
  simp only [Tm.ok] at ho
  obtain ⟨ho, hoks⟩ := ho
  have lb := lt_of_get (h.own _ (.head _))
  obtain ⟨kl, kb⟩ := bk_len (len := hs.length) ho
  have ne := h.ne
  have big : ∀ e ∈ zipF (bb f hs.length) ts, hs.length ≤ e.1 := fun e he => by
    obtain ⟨k, h1, _⟩ := zipF_mem he
    have : hs.length ≤ bb f hs.length := by unfold bb; split <;> omega
    omega
  have small : ∀ e ∈ pend, e.1 < hs.length := fun e he => lt_of_get (h.own e (.tail _ he))
  have old : ∀ (i : Nat) (p : Int × Int), hs[i]? = some p → i ≠ b → ((hs ++ bk f ts.length hs.length).set b (bc f hs.length))[i]? = some p := fun i p hi hne => by
    rw [get_set_ne (Ne.symm hne)]; exact Ext.app _ _ i p hi
  refine ⟨fun hs' T' g => h.good hs' T' ⟨fun i q hi hn => ?_, g.tab, g.root, fun e he => ?_⟩, ?_, fun e he => ?_, fun x r hx => ⟨?_, fun e he => ?_⟩, h.inj, fun q hq => ?_, h.t0, h.t1, ?_, ?_, fun e he => ?_⟩
  · refine g.keep i q (old i q hi fun z => hn _ (.head _) z.symm) fun e he => ?_
    rcases List.mem_append.mp he with he | he
    · exact hn e (.tail _ he)
    · have := big e he; have := lt_of_get hi; omega
  · rcases List.mem_cons.mp he with rfl | he
    · have hb : hs'[b]? = some (bc f hs.length) := g.keep b _ (get_set_eq (by rw [List.length_append]; dsimp only at lb; omega)) fun e he => by
        rcases List.mem_append.mp he with he | he
        · exact ne e he
        · have := big e he; dsimp only at lb; omega
      have hR : Rp hs' ss T' (bc f hs.length) (.s f ts) := Rp_block ho (fun f0 => g.keep _ _ (by rw [get_set_ne (by dsimp only at lb; omega)]; exact bk_six rfl f0) fun e he => by
        rcases List.mem_append.mp he with he | he
        · have := small e he; omega
        · obtain ⟨k, h1, _⟩ := zipF_mem he
          unfold bb at h1
          rw [if_neg f0] at h1
          omega) fun e he => g.pend e (List.mem_append_right _ he)
      exact ⟨_, _, 0, hb, hR.stop, hR⟩
    · exact g.pend e (List.mem_append_left _ he)
  · rw [List.map_append]
    refine List.nodup_append.mpr ⟨(List.nodup_cons.mp h.nodup).2, zipF_nodup, fun x hx y hy => ?_⟩
    obtain ⟨e, he, rfl⟩ := List.mem_map.mp hx
    obtain ⟨e', he', rfl⟩ := List.mem_map.mp hy
    have := small e he
    have := big e' he'
    omega
  · rcases List.mem_append.mp he with he | he
    · exact old _ _ (h.own e (.tail _ he)) (ne e he)
    · obtain ⟨k, h1, h2⟩ := zipF_mem he
      have := big e he
      rw [get_set_ne (by dsimp only at lb; omega), h1]
      exact bk_get rfl ho (lt_of_get h2)
  · have := h.root x r hx
    exact old _ _ this.1 (Ne.symm (this.2 _ (.head _)))
  · have := h.root x r hx
    rcases List.mem_append.mp he with he | he
    · exact this.2 e (.tail _ he)
    · have := big e he; have := lt_of_get (h.root x r hx).1; omega
  · rcases mem_set_or hq with hq | rfl
    · rcases List.mem_append.mp hq with hq | hq
      · exact h.tag q hq
      · exact bk_tag hq
    · exact bc_tag _ _
  · have := h.len
    rw [pnd_cons] at this
    rw [List.length_set, List.length_append, pnd_app, pnd_zip]
    have e : (Tm.s f ts).nd = 1 + ts.length + Tm.nds ts := by rw [Tm.nd]
    simp only [e] at this
    omega
  · have := h.cnt
    rw [psz_cons] at this
    rw [psz_app, psz_zip]
    have e : (Tm.s f ts).sz = 1 + Tm.szs ts := by rw [Tm.sz]
    simp only [e] at this
    omega
  · rcases List.mem_append.mp he with he | he
    · exact h.ok e (.tail _ he)
    · obtain ⟨k, h1, h2⟩ := zipF_mem he
      exact Tm.ok_mem hoks (List.mem_of_getElem? h2)
theorem tAt_0 (x : Int) : tAt [(0, 0), (1, 1)] x = if x = 0 then some 0 else if x = 1 then some 1 else none := by
  unfold tAt
  by_cases x0 : x = 0
  · subst x0; rfl
  · by_cases x1 : x = 1
    · subst x1; rfl
    · simp [x0, x1, Ne.symm x0, Ne.symm x1]
/-- the start, behind the first block -/
theorem PI.start {f : Nat} {ts : List Tm} (ho : (Tm.s f ts).ok) (hB : 2 + (Tm.s f ts).nd ≤ B) (hN : 2 + (Tm.s f ts).sz ≤ N) :
    PI ss B N (bc f 2) (.s f ts) ([(0, 0), (0, 1)] ++ bk f ts.length 2) [(0, 0), (1, 1)] (zipF (bb f 2) ts) := by
  simp only [Tm.ok] at ho
  obtain ⟨ho, hoks⟩ := ho
  obtain ⟨kl, kb⟩ := bk_len (len := 2) ho
  have big : ∀ e ∈ zipF (bb f 2) ts, 2 ≤ e.1 := fun e he => by
    obtain ⟨k, h1, _⟩ := zipF_mem he
    have : 2 ≤ bb f 2 := by unfold bb; split <;> omega
    omega
  refine ⟨fun hs' T' g => Rp_block ho (fun f0 => g.keep _ _ (bk_six rfl f0) fun e he => ?_) fun e he => g.pend e he, zipF_nodup, fun e he => ?_, fun x r hx => ?_, fun x y r hx hy => ?_, fun q hq => ?_, rfl, rfl, ?_, ?_, fun e he => ?_⟩
  · obtain ⟨k, h1, _⟩ := zipF_mem he
    unfold bb at h1
    rw [if_neg f0] at h1
    omega
  · obtain ⟨k, h1, h2⟩ := zipF_mem he
    rw [h1]
    exact bk_get rfl ho (lt_of_get h2)
  · rw [tAt_0] at hx
    split at hx
    · cases hx; exact ⟨rfl, fun e he => by have := big e he; omega⟩
    · split at hx
      · cases hx; exact ⟨rfl, fun e he => by have := big e he; omega⟩
      · cases hx
  · rw [tAt_0] at hx hy
    by_cases x0 : x = 0 <;> by_cases y0 : y = 0 <;> by_cases x1 : x = 1 <;> by_cases y1 : y = 1 <;> simp [x0, y0, x1, y1] at hx hy ⊢ <;> omega
  · rcases List.mem_append.mp hq with hq | hq
    · simp only [List.mem_cons, List.not_mem_nil, or_false] at hq
      rcases hq with rfl | rfl <;> simp
    · exact bk_tag hq
  · rw [List.length_append, pnd_zip]
    have e : (Tm.s f ts).nd = 1 + ts.length + Tm.nds ts := by rw [Tm.nd]
    rw [e] at hB
    simp only [List.length_cons, List.length_nil]
    omega
  · rw [psz_zip]
    have e : (Tm.s f ts).sz = 1 + Tm.szs ts := by rw [Tm.sz]
    rw [e] at hN
    simp only [List.length_cons, List.length_nil]
    omega
  · obtain ⟨k, h1, h2⟩ := zipF_mem he
    exact Tm.ok_mem hoks (List.mem_of_getElem? h2)
/-- the end -/
theorem PI.done (h : PI ss B N gp gt hs tb []) : Rp hs ss (tAt tb) gp gt :=
  h.good hs _ ⟨fun i p hi _ => hi, fun x r hx => hx, fun x r hx => (h.root x r hx).1, fun e he => by simp at he⟩
end
/-- what the table and the heap are like behind put_term -/
structure PtOk (hs : List (Int × Int)) (tb : List (Int × Nat)) (B N : Nat) : Prop where
  root : ∀ x (r : Nat), tAt tb x = some r → hs[r]? = some (0, (r : Int))
  inj : TInj (tAt tb)
  tag : ∀ p ∈ hs, p.1 ≠ 1
  t0 : tAt tb 0 = some 0
  t1 : tAt tb 1 = some 1
  len : hs.length ≤ B
  cnt : tb.length ≤ N
theorem PI.out {ss : List (Int × Int)} {B N : Nat} {gp : Int × Int} {gt : Tm} {hs : List (Int × Int)} {tb : List (Int × Nat)} (h : PI ss B N gp gt hs tb []) : PtOk hs tb B N :=
  ⟨fun x r hx => (h.root x r hx).1, h.inj, h.tag, h.t0, h.t1, by have := h.len; simp only [pnd, List.map_nil, List.sum_nil] at this; omega, by have := h.cnt; simp only [psz, List.map_nil, List.sum_nil] at this; omega⟩
theorem PtOk_0 {B N : Nat} (hB : 2 ≤ B) (hN : 2 ≤ N) : PtOk [(0, 0), (0, 1)] [(0, 0), (1, 1)] B N := by
  refine ⟨fun x r hx => ?_, fun x y r hx hy => ?_, fun p hp => ?_, rfl, rfl, hB, hN⟩
  · rw [tAt_0] at hx
    split at hx
    · cases hx; rfl
    · split at hx
      · cases hx; rfl
      · cases hx
  · rw [tAt_0] at hx hy
    by_cases x0 : x = 0 <;> by_cases y0 : y = 0 <;> by_cases x1 : x = 1 <;> by_cases y1 : y = 1 <;> simp [x0, y0, x1, y1] at hx hy ⊢ <;> omega
  · simp only [List.mem_cons, List.not_mem_nil, or_false] at hp
    rcases hp with rfl | rfl <;> simp
theorem PtOk_var {B N : Nat} {x : Int} (hB : 3 ≤ B) (hN : 3 ≤ N) (hx : tAt [(0, 0), (1, 1)] x = none) : PtOk ([(0, 0), (0, 1)] ++ [(0, 2)]) ([(0, 0), (1, 1)] ++ [(x, 2)]) B N := by
  have h0 := PtOk_0 (B := 2) (N := 2) (by omega) (by omega)
  have lt : ∀ y r, tAt [(0, 0), (1, 1)] y = some r → r < 2 := fun y r hy => lt_of_get (h0.root y r hy)
  refine ⟨fun y r hy => ?_, fun y z r hy hz => ?_, fun p hp => ?_, ?_, ?_, by simpa using hB, by simpa using hN⟩
  · rw [tAt_new hx] at hy
    split at hy
    · cases hy; rfl
    · exact Ext.app _ _ _ _ (h0.root y r hy)
  · rw [tAt_new hx] at hy hz
    split at hy <;> split at hz
    · rename_i a1 a2; rw [a1, a2]
    · cases hy; have := lt z _ hz; omega
    · cases hz; have := lt y _ hy; omega
    · exact h0.inj y z r hy hz
  · rcases List.mem_append.mp hp with hp | hp
    · exact h0.tag p hp
    · rw [List.mem_singleton.mp hp]; simp
  · rw [tAt_new hx, if_neg (by rintro rfl; rw [tAt_0] at hx; simp at hx)]; rfl
  · rw [tAt_new hx, if_neg (by rintro rfl; rw [tAt_0] at hx; simp at hx)]; rfl
end
section
section
variable {σ : Sig}
theorem Sel.pm {p : Addr} {ao : AO} {f : AO → Sig} {g σ' : Sig} (s : Sel σ p ao f g) (h : σ'.Perm g) : ((p, ao) :: σ').Perm σ := by
  obtain ⟨l, r, h1, _, h3⟩ := s.split
  subst h3
  rw [h1]
  exact (List.Perm.cons _ h).trans List.perm_middle.symm
noncomputable def unstr : D → Str
  | .str x => x
  | _ => ""
noncomputable def isStrD : D → Bool
  | .str _ => true
  | _ => false
theorem isStrD_of {d : D} (h : isStrD d = true) : d = .str (unstr d) := by cases d <;> first | rfl | cases h
noncomputable def isRowD : D → Bool
  | .tup [.str _, .int _] => true
  | _ => false
noncomputable def rowS : D → Str
  | .tup [.str x, .int _] => x
  | _ => ""
noncomputable def rowI : D → Int
  | .tup [.str _, .int n] => n
  | _ => 0
theorem isRowD_of {d : D} (h : isRowD d = true) : d = .tup [.str (rowS d), .int (rowI d)] := by
  unfold isRowD at h
  split at h
  · rfl
  · cases h
noncomputable def y00 : Sy := ⟨[], [], [], []⟩
noncomputable def atD (y : Sy) (d : D) : Sy := (atF y (unstr d)).2
noncomputable def rowD (y : Sy) (d : D) : Sy := (fnF (atF y (rowS d)).2 (atF y (rowS d)).1 (rowI d)).2
noncomputable def Sy.le (n : Nat) (y : Sy) : Prop := y.tl.length ≤ n ∧ y.ak.length ≤ n ∧ y.fl.length ≤ n ∧ y.kv.length ≤ n
theorem kPutI_len {κ : Type} [DecidableEq κ] (l : List (κ × Int)) (k : κ) (i : Int) : (kPutI l k i).length ≤ l.length + 1 := by
  unfold kPutI
  split
  · rw [List.length_map]; omega
  · rw [List.length_append]; simp
theorem atF_le {n : Nat} {y : Sy} (h : y.le n) (x : Str) : (atF y x).2.le (n + 1) := by
  obtain ⟨h1, h2, h3, h4⟩ := h
  unfold atF
  split
  · exact ⟨by dsimp only; omega, by dsimp only; omega, by dsimp only; omega, by dsimp only; omega⟩
  · refine ⟨?_, ?_, ?_, ?_⟩ <;> dsimp only
    · rw [List.length_append]; simp only [List.length_cons, List.length_nil]; omega
    · have := kPutI_len y.ak x y.tl.length; omega
    · omega
    · omega
theorem fnF_le {n : Nat} {y : Sy} (h : y.le n) (p q : Int) : (fnF y p q).2.le (n + 1) := by
  obtain ⟨h1, h2, h3, h4⟩ := h
  unfold fnF
  split
  · exact ⟨by dsimp only; omega, by dsimp only; omega, by dsimp only; omega, by dsimp only; omega⟩
  · refine ⟨?_, ?_, ?_, ?_⟩ <;> dsimp only
    · omega
    · omega
    · rw [List.length_append]; simp only [List.length_cons, List.length_nil]; omega
    · have := kPutI_len y.kv [p, q] y.fl.length; omega
theorem fold_at {ds : List D} : ∀ {n : Nat} {y : Sy}, y.le n → (ds.foldl atD y).le (n + ds.length) := by
  induction ds with
  | nil => intro n y h; exact h
  | cons d ds ih =>
    intro n y h
    have := ih (atF_le h (unstr d))
    rw [List.length_cons, show n + (ds.length + 1) = n + 1 + ds.length from by omega]
    exact this
theorem fold_row {ds : List D} : ∀ {n : Nat} {y : Sy}, y.le n → (ds.foldl rowD y).le (n + 2 * ds.length) := by
  induction ds with
  | nil => intro n y h; exact h
  | cons d ds ih =>
    intro n y h
    have := ih (fnF_le (atF_le h (rowS d)) (atF y (rowS d)).1 (rowI d))
    rw [List.length_cons, show n + 2 * (ds.length + 1) = n + 1 + 1 + 2 * ds.length from by omega]
    exact this
theorem take_fold {ds : List D} {f : Sy → D → Sy} {y : Sy} {i : Nat} {d : D} (h : ds[i]? = some d) : (ds.take (i + 1)).foldl f y = f ((ds.take i).foldl f y) d := by
  rw [List.take_add_one, h, List.foldl_append]; rfl
end
end
section
/-- a list of the old heap -/
noncomputable def BL (c : Cx) (l : Addr) (ds : List D) : Prop := ∃ vs, c.B.IsList l (List.toArray vs) ∧ DRs c.B vs ds
section
variable {c : Cx} {A : Around} {env : Env} {σ : Sig}
theorem e_takeB {value upper : Expr} {p pos : Pos} {P : D → Sig → Prop} (h : EV c A env σ value fun d σ₁ => EV c A env σ₁ upper fun e σ₂ => ∃ l k ds, d = .ref l ∧ e = .int k ∧ 0 ≤ k ∧ BL c l ds ∧ ds.length ≤ sizeLine ∧
      ∀ a, P (.ref a) ((a, .list (ds.take k.toNat)) :: σ₂)) : EV c A env σ (.Subscript value (.Slice none (some upper) none p) pos) P := fun s Q E hs q => by
  refine Subscript_ (h s _ _ hs fun o s₁ d σ₁ h₁ hs₁ l₁ r₁ => wpAny_Slice (wpAny_pure (h₁ s₁ _ _ hs₁ fun u s₂ e σ₂ h₂ hs₂ l₂ r₂ => wpAny_pure ?_)))
  obtain ⟨l, k, ds, rfl, rfl, h0, S, hz, hp⟩ := h₂
  cases r₁
  cases r₂ with
  | int _ tk =>
  have k1 : ∀ b o, s₂.heap.get? b = some o → (s₂.heap.push { cls := .type "slice", data := .fields #[.none, .int k tk, .none] }).get? b = some o := fun _ _ e => Heap.get?_push_of_some _ e
  have st := hs₂.st.keeps k1
  obtain ⟨vs, ⟨ob, g1, g2, n, g3⟩, r⟩ := S
  replace g1 := st.keep _ _ g1
  replace r := r.mono (.keeps st.keep)
  obtain ⟨ops, ho⟩ := subscripted_any (.Slice none (some upper) none p) (.ref l) (.ref s₂.heap.objs.size)
  obtain ⟨j, rfl⟩ := Int.eq_ofNat_of_zero_le h0
  have il : (s₂.heap.push { cls := .type "slice", data := .fields #[.none, .int j tk, .none] }).IsList l (List.toArray vs) := ⟨_, g1, g2, n, g3⟩
  refine tail_any (s := { s₂ with heap := _ }) il.typeIs slot_list_getitem.lookup (wpAny_getItem_list_slice (s := { s₂ with heap := _ }) il (Heap.IsSliceOf.new _ _ _ _) .none (.int j tk) .none (by simp) ?_ (by rw [List.size_toArray, r.length]; exact hz)) ho
  rw [slicePick_upto']
  have k2 : ∀ b o, (s₂.heap.push { cls := .type "slice", data := .fields #[.none, .int j tk, .none] }).get? b = some o → ((s₂.heap.push { cls := .type "slice", data := .fields #[.none, .int j tk, .none] }).push { cls := .type "list", data := .seq (List.toArray (vs.take j)) }).get? b = some o := fun _ _ e => Heap.get?_push_of_some _ e
  exact q _ _ _ _ (hp _) (hs₂.heap (st.new k2 (Nat.le_refl _) ⟨vs.take j, 0, Heap.get?_push_size _ rfl, (r.mono (.keeps k2)).take j⟩)) (l₁.trans (l₂.trans ((Le.keeps k1).trans (.keeps k2)))) (.ref _)
theorem MT.perm {d : D} {name : Str} {pos : Pos} {args : List Expr} {P : D → Sig → Prop} {σ' : Sig} (k : σ'.Perm σ) (h : MT c A env σ' d name pos args P) : MT c A env σ d name pos args P :=
  fun v pl s Q E hs r q => h v pl s Q E ⟨hs.st.perm k, hs.gens, hs.os⟩ r q
theorem EV.perm {e : Expr} {P : D → Sig → Prop} {σ' : Sig} (k : σ'.Perm σ) (h : EV c A env σ' e P) : EV c A env σ e P := fun s Q E hs q => h s Q E ⟨hs.st.perm k, hs.gens, hs.os⟩ q
theorem TSs.weak {op : BoolOp} {es : List Expr} {P : Bool → Sig → Prop} {σ' : Sig} (k : σ'.Sublist σ) (h : TSs c A env σ' op es P) : TSs c A env σ op es P := TT.weak k h
theorem TS.weak {e : Expr} {P : Bool → Sig → Prop} {σ' : Sig} (k : σ'.Sublist σ) (h : TS c A env σ' e P) : TS c A env σ e P := TT.weak k h
theorem VS.weak {pos : Pos} {es : List Expr} {P : List D → Sig → Prop} {σ' : Sig} (k : σ'.Sublist σ) (h : VS c A env σ' pos es P) : VS c A env σ pos es P := TT.weak k h
theorem VB.weak {pos : Pos} {op : BoolOp} {es : List Expr} {P : D → Sig → Prop} {σ' : Sig} (k : σ'.Sublist σ) (h : VB c A env σ' pos op es P) : VB c A env σ pos op es P := TT.weak k h
theorem drop1 {p : Addr × AO} {σ : Sig} : σ.Sublist (p :: σ) := List.sublist_cons_self _ _
theorem drop2 {p q : Addr × AO} {σ : Sig} : σ.Sublist (p :: q :: σ) := drop1.trans drop1
theorem drop3 {p q r : Addr × AO} {σ : Sig} : σ.Sublist (p :: q :: r :: σ) := drop2.trans drop1
theorem drop4 {p q r s : Addr × AO} {σ : Sig} : σ.Sublist (p :: q :: r :: s :: σ) := drop3.trans drop1
theorem rep_cell (n : Nat) : (List.replicate (Int.toNat (n : Int)) [D.tup [.int 5, .int 0]]).flatten = cm (List.replicate n (5, 0)) := by
  rw [Int.toNat_natCast]
  induction n with
  | zero => rfl
  | succ n ih => rw [List.replicate_succ, List.flatten_cons, ih, List.replicate_succ]; rfl
theorem CC.perm {f : Value} {ds : List D} {P : D → Sig → Prop} {σ' : Sig} (k : σ'.Perm σ) (h : CC c A σ' f ds P) : CC c A σ f ds P := fun vs s R hs r q => h vs s R ⟨hs.st.perm k, hs.gens, hs.os⟩ r q
theorem permN (pre W : Sig) (x : Addr × AO) : (pre ++ ((W ++ [x]) ++ [])).Perm (x :: (pre ++ (W ++ []))) := by
  rw [List.append_nil, List.append_nil, ← List.append_assoc]
  exact List.perm_append_singleton x (pre ++ W)
theorem len_sub : ∀ {l m : List Int}, l.Nodup → (∀ x ∈ l, x ∈ m) → l.length ≤ m.length
  | [], m, _, _ => Nat.zero_le _
  | x :: l, m, hn, h => by
    have hx := h x (.head _)
    have hn' := List.nodup_cons.mp hn
    have := len_sub (l := l) (m := m.erase x) hn'.2 fun y hy => (List.mem_erase_of_ne (fun e => hn'.1 (by rw [← e]; exact hy))).mpr (h y (.tail _ hy))
    rw [List.length_erase_of_mem hx] at this
    have : 0 < m.length := List.length_pos_of_mem hx
    rw [List.length_cons]; omega
theorem NsOk.len {tb : List (Int × Nat)} {ns : List Int} (h : NsOk (tAt tb) ns) : ns.length ≤ tb.length := by
  have := len_sub (m := tb.map (·.1)) h.1.2 fun x hx => by
    obtain ⟨r, hr⟩ := h.2 x hx
    unfold tAt at hr
    rw [Option.map_eq_some_iff] at hr
    obtain ⟨e, he, _⟩ := hr
    have h1 := List.mem_of_find?_eq_some he
    have h2 := List.find?_some he
    exact List.mem_map.mpr ⟨e, h1, by simpa using h2⟩
  rwa [List.length_map] at this
theorem AS.weak {x : Expr} {d : D} {P : Sig → Prop} {σ' : Sig} (k : σ'.Sublist σ) (h : AS c A env σ' x d P) : AS c A env σ x d P := fun v s Q E hs r q => h v s Q E ⟨hs.st.sub k, hs.gens, hs.os⟩ r q
theorem cc_defP {n : Nat} {f : Addr} {name qual : Str} {params : Arguments} {body : List Stmt} {scope : Scope} {dV kV doc pm cdv ct oc : Value} {an od : Option Addr} {osl : Array (Option Value)} {d1 : D} {n1 : Str} {rest : List Str}
    {m : List (Str × Option D)} {P : D → Sig → Prop} (cells : Nat → List (Str × Addr)) (ho : c.K.lookup f = some ⟨oc, od, .func (fnOf name qual params body scope dV kV doc pm an cdv ct), osl⟩) (hcd : codeIn c.K cdv qual = true) (hr : Rm A (n + 1))
    (hbind : ∀ v1, bindArgs (fnOf name qual params body scope dV kV doc pm an cdv ct) ⟨[v1], []⟩ = pure [(n1, v1)])
    (hcells : ∀ n, cellsFrom n scope.names [] = cells n) (hnd : ∀ n, ((cells n).map (·.1)).Nodup) (hn : ([n1] ++ rest).Nodup)
    (h1 : scope.names.lookup n1 = some .local)
    (hm : m = (n1, some d1) :: rest.map fun x => (x, none))
    (h : ∀ L B A', A' = A.deeper (envX qual scope L f cdv (cells B)) → Rm A' n → XS c A' (envX qual scope L f cdv (cells B)) ((L, .fr m) :: ((cells B).map fun e => (e.2, .cell none)) ++ σ) body (retP P))
    (hco : scope.isCoroutine = false := by rfl) (hgen : scope.isGenerator = false := by rfl) (hk : scope.kind = .function := by rfl) : CC c A σ (.ref f) [d1] P := fun vs s R hs r q => by
  cases r with
  | @cons v1 _ _ _ r1 r =>
  cases r
  have hlim : s.heap.NoLimit := c.nl.keeps hs.st.keep
  refine codeAny_call_function (by have := hr.d; omega) (hs.st.XK _ _ ho) rfl hco hgen rfl (codeRec_of hs.st.XK hcd) ((BindsTo.of_eq (hbind v1)) _ _ _ _ ?_)
  refine wpAny_newFunctionEnv_cells hk (fun x hx => ?_) fun env' he s' x => ?_
  · simp only [List.mem_cons, List.not_mem_nil, or_false] at hx
    subst hx
    exact .inl h1
  rw [hcells] at he
  subst he
  refine ⟨hlim.keeps x.toInCall.keep, codeAny_func ?_⟩
  have le : Le s.heap s'.heap := .keeps x.toInCall.keep
  have e1 : Env.kindOf (newEnv scope s.heap.objs.size mainGlobals (cells (s.heap.objs.size + 1)) (qual ++ ".<locals>.") (some f) cdv none builtinsNs) n1 = some .local := h1
  have ns := x.toInCall.ns
  have cell : ∀ y a, (y, a) ∈ cells (s.heap.objs.size + 1) → s'.heap.IsCell a (bindC (Env.kindOf (newEnv scope s.heap.objs.size mainGlobals (cells (s.heap.objs.size + 1)) (qual ++ ".<locals>.") (some f) cdv none builtinsNs)) [(n1, v1)] (fun _ => none) y) :=
    fun y a hm => x.cell y a (lookup_of_mem_nodup (hnd _) hm)
  have apart : (cells (s.heap.objs.size + 1)).Pairwise fun x y => x.2 ≠ y.2 := x.apart
  have above : ∀ y a, (y, a) ∈ cells (s.heap.objs.size + 1) → s.heap.objs.size < a := x.above
  simp only [bindL, bindC, e1, if_true] at ns cell
  have f0 : FR s'.heap (fun _ => none) (([n1] ++ rest).map fun x => (x, none)) := frame_none hn
  have f1 := f0.upd (x := n1) .head (.some (r1.mono le))
  have none_of : ∀ a, s.heap.objs.size ≤ a → c.B.get? a = none ∧ a ≠ sysModules := fun a ha => hs.st.out ha
  have lt_of : ∀ p ∈ σ, p.1 < s.heap.objs.size := fun p hp => by obtain ⟨o, ho, _⟩ := (hs.st.ob p hp).obj; exact Heap.lt_size ho
  have st0 := hs.st.keeps x.toInCall.keep
  generalize hcl : cells (s.heap.objs.size + 1) = cl at cell apart above
  have st : St c s'.heap ((s.heap.objs.size, .fr m) :: (cl.map fun e => (e.2, .cell none)) ++ σ) := by
    have mem : ∀ p ∈ ((s.heap.objs.size, AO.fr m) :: (cl.map fun e => (e.2, AO.cell none)) ++ σ), p = (s.heap.objs.size, .fr m) ∨ (∃ y, (y, p.1) ∈ cl ∧ p.2 = .cell none) ∨ p ∈ σ := fun p hp => by
      rw [List.cons_append] at hp
      rcases List.mem_cons.mp hp with rfl | hp
      · exact .inl rfl
      · rcases List.mem_append.mp hp with hp | hp
        · obtain ⟨e, he, rfl⟩ := List.mem_map.mp hp
          exact .inr (.inl ⟨e.1, he, rfl⟩)
        · exact .inr (.inr hp)
    refine ⟨st0.keep, fun p hp => ?_, fun p hp => ?_, ?_⟩
    · rcases mem p hp with rfl | ⟨y, hy, e⟩ | hp
      · exact ⟨_, ns, by rw [hm]; exact f1⟩
      · obtain ⟨o, g1, g2⟩ := cell y _ hy
        rw [e]
        exact ⟨o, none, g1, g2, .none⟩
      · exact st0.ob p hp
    · rcases mem p hp with rfl | ⟨y, hy, e⟩ | hp
      · exact none_of _ (Nat.le_refl _)
      · exact none_of _ (Nat.le_of_lt (above y _ hy))
      · exact st0.off p hp
    · rw [List.cons_append, List.map_cons, List.map_append, List.map_map]
      have ea : (cl.map ((·.1) ∘ fun e => (e.2, AO.cell none))) = cl.map (·.2) := List.map_congr_left fun _ _ => rfl
      rw [ea]
      refine List.nodup_cons.mpr ⟨fun hm => ?_, List.nodup_append.mpr ⟨List.pairwise_map.mpr apart, hs.st.nd, fun z hz y hy => ?_⟩⟩
      · rcases List.mem_append.mp hm with hm | hm
        · obtain ⟨e, he, h⟩ := List.mem_map.mp hm
          have := above e.1 e.2 he
          rw [h] at this
          exact Nat.lt_irrefl _ this
        · obtain ⟨p, hp, e⟩ := List.mem_map.mp hm
          have z := lt_of p hp
          rw [e] at z
          exact Nat.lt_irrefl _ z
      · obtain ⟨e, he, rfl⟩ := List.mem_map.mp hz
        obtain ⟨p, hp, rfl⟩ := List.mem_map.mp hy
        have h1 := above e.1 e.2 he
        have h2 := lt_of p hp
        exact fun h3 => Nat.lt_irrefl _ (Nat.lt_trans h1 (h3 ▸ h2))
  subst hcl
  obtain ⟨h₁, tk, hs', _⟩ := x.done
  have hs1 : Sok c s' ((s.heap.objs.size, .fr m) :: ((cells (s.heap.objs.size + 1)).map fun e => (e.2, .cell none)) ++ σ) := by
    refine ⟨st, ?_, ?_⟩
    · rw [hs']; exact hs.gens
    · rw [hs']; exact hs.os
  refine h s.heap.objs.size (s.heap.objs.size + 1) _ rfl (hr.deeper _) _ _ _ hs1 fun fl s'' b σ' hp hs' l' r' => ?_
  obtain ⟨σ'', k, hp⟩ := hp
  cases r' with
  | next => exact q _ _ _ _ hp ⟨hs'.st.sub k, hs'.gens, hs'.os⟩ (le.trans l') .none
  | brk => exact q _ _ _ _ hp ⟨hs'.st.sub k, hs'.gens, hs'.os⟩ (le.trans l') .none
  | cont => exact q _ _ _ _ hp ⟨hs'.st.sub k, hs'.gens, hs'.os⟩ (le.trans l') .none
  | ret r => exact q _ _ _ _ hp ⟨hs'.st.sub k, hs'.gens, hs'.os⟩ (le.trans l') r
end
end
section
theorem mkL_cons (t : Tm) (ts : List Tm) (e : Tm) : mkL (t :: ts) e = .s 0 [t, mkL ts e] := rfl
theorem mkL_sz {e : Tm} (he : e.sz ≤ 13) : ∀ {ts : List Tm}, (∀ t ∈ ts, t.sz ≤ 13) → (mkL ts e).sz ≤ 13 + 14 * ts.length
  | [], _ => he
  | t :: ts, h => by
    have h1 := h t (.head _)
    have h2 := mkL_sz he (ts := ts) fun u hu => h u (.tail _ hu)
    rw [mkL_cons, ← Tm.sz_tl, List.length_cons]
    omega
theorem mkL_dp {e : Tm} (he : e.dp ≤ 2) : ∀ {ts : List Tm}, (∀ t ∈ ts, t.dp ≤ 2) → (mkL ts e).dp ≤ 3 + ts.length
  | [], _ => by show e.dp ≤ _; simp only [List.length_nil]; omega
  | t :: ts, h => by
    have h1 := h t (.head _)
    have h2 := mkL_dp he (ts := ts) fun u hu => h u (.tail _ hu)
    rw [mkL_cons, List.length_cons]
    simp only [Tm.dp, Tm.dps]
    omega
theorem mkL_ok {e : Tm} (he : e.ok) : ∀ {ts : List Tm}, (∀ t ∈ ts, t.ok) → (mkL ts e).ok
  | [], _ => he
  | t :: ts, h => by
    have h1 := h t (.head _)
    have h2 := mkL_ok he (ts := ts) fun u hu => h u (.tail _ hu)
    rw [mkL_cons, Tm.ok, Tm.oks, Tm.oks, Tm.oks]
    exact ⟨.inl ⟨rfl, rfl⟩, h1, h2, trivial⟩
theorem mkL_d (t d : Tm) : D.tup [.str "s", .int 0, .tup [t.d, d.d]] = (Tm.s 0 [t, d]).d := by
  simp only [Tm.d, Tm.ds]; rfl
theorem isL_d {x y : Tm} : (Tm.s 0 [x, y]).d = .tup [.str "s", .int 0, .tup [x.d, y.d]] := (mkL_d x y).symm
theorem mkL_mem {ts : List Tm} {e u : Tm} (h : u ∈ ts) : u.sz ≤ (mkL ts e).sz ∧ u.dp ≤ (mkL ts e).dp := by
  induction ts with
  | nil => simp at h
  | cons t ts ih =>
    rw [mkL_cons, ← Tm.sz_tl]
    simp only [Tm.dp, Tm.dps]
    rcases List.mem_cons.mp h with rfl | h
    · exact ⟨by omega, by omega⟩
    · have := ih h; exact ⟨by omega, by omega⟩
theorem mkL_end {ts : List Tm} {e : Tm} : e.sz ≤ (mkL ts e).sz ∧ e.dp ≤ (mkL ts e).dp := by
  induction ts with
  | nil => exact ⟨Nat.le_refl _, Nat.le_refl _⟩
  | cons t ts ih => rw [mkL_cons, ← Tm.sz_tl]; simp only [Tm.dp, Tm.dps]; exact ⟨by omega, by omega⟩
theorem mkL_oks {ts : List Tm} {e : Tm} (h : (mkL ts e).ok) : (∀ t ∈ ts, t.ok) ∧ e.ok := by
  induction ts with
  | nil => exact ⟨fun t ht => by simp at ht, h⟩
  | cons t ts ih =>
    rw [mkL_cons, Tm.ok, Tm.oks, Tm.oks, Tm.oks] at h
    obtain ⟨_, h1, h2, _⟩ := h
    obtain ⟨h3, h4⟩ := ih h2
    refine ⟨fun u hu => ?_, h4⟩
    rcases List.mem_cons.mp hu with rfl | hu
    · exact h1
    · exact h3 u hu
end
set_option compiler.extract_closed false
local macro_rules | `(tactic| walk_at "m:at") => `(tactic| first | assumption | (simp only [Int.toNat_natCast]; assumption) | exact rfl)
local macro_rules | `(tactic| walk_at "m:sz") => `(tactic| k_dflt exact Nat.le_trans (Nat.le_of_ble_eq_true rfl) sizeLine_big)
local macro_rules | `(tactic| walk_at "m:om") => `(tactic| first | assumption | omega | (simp only [List.length_append, List.length_cons, List.length_nil, List.length_set, vars_length, List.length_replicate]; omega))
local macro_rules | `(tactic| walk_at "m:L") => `(tactic| with_reducible first | exact envOf_locals | exact envX_locals | exact compEnvC_locals)
local macro_rules | `(tactic| walk_at "m:sel") => `(tactic| with_reducible first | exact Sel.head | ((refine' Sel.tail ?hq); (case hq => walk_at "m:sel")))
local macro_rules | `(tactic| walk_at "m:hole0") => `(tactic| with_reducible first | exact HF.s (by assumption) _ | exact Hole.sy (HF.s (by assumption) _) | exact Hole.w (HF.s (by assumption) _) | exact Hole.sy (Hole.w (HF.s (by assumption) _)) | exact Hole.rowh)
local macro_rules | `(tactic| walk_at "m:hole") => `(tactic| first | walk_at "m:hole0" | ((with_reducible refine' Hole.skip ?hq); (case hq => walk_at "m:hole")))
local macro_rules | `(tactic| walk_at "m:upd") => `(tactic| with_reducible first | exact UpdM.head | ((refine' UpdM.tail ?hq); (case hq => walk_at "m:upd")))
local macro_rules | `(tactic| walk_at "m:mem") => `(tactic| with_reducible first | exact List.mem_cons_self | ((refine' List.mem_cons_of_mem _ ?hq); (case hq => walk_at "m:mem")))
local macro_rules | `(tactic| walk_at "m:g") => `(tactic| (with_reducible first | apply g_REF | apply g_SRF | apply g_STR | apply g_LIS | apply g_CON | apply g_INT | apply g_FUN | apply g_A_NIL | apply g_A_PLUS | apply g_F_DOT | apply g_F_MINUS1 | apply g_F_MINUS | apply g_F_CATCH) <;> assumption)
local macro_rules | `(tactic| walk_at "m:gr") => `(tactic| (with_reducible first | apply g_fixed_atoms | apply g_fixed_functors | apply g_Symbols | apply g_Store | apply g__law_row | apply g__law_next | apply g__law_term | apply g__law_same | apply g__law_picked) <;> assumption)
local macro_rules | `(tactic| walk_at "m:kp") => `(tactic| (with_reducible first | apply kp_fixed_atoms | apply kp_fixed_functors | apply kp_Symbols | apply kp_Store | apply kp__law_row | apply kp__law_next | apply kp__law_term | apply kp__law_same | apply kp__law_picked) <;> assumption)
local macro_rules | `(tactic| walk_at "m:gb") => `(tactic| (with_reducible first | apply g_len | apply g_range | apply g_list | apply g_tuple | apply g_set) <;> assumption)
local macro_rules | `(tactic| walk_at "m:name") => `(tactic| first
  | ((with_reducible refine' e_loc ?S ?hm ?hL ?hk ?hl ?h ?hd); (case hl => exact rfl); (case hL => walk_at "m:L"); (case hk => exact rfl); (case hd => decide +kernel); (case S => walk_at "m:sel"); (case hm => walk_at "m:mem"))
  | ((with_reducible refine' e_gint2 ?e ?hk ?hl ?hg ?h ?hd); (case hl => exact rfl); (case hk => exact rfl); (case hg => exact rfl); (case hd => decide +kernel); (case e => walk_at "m:g"))
  | ((with_reducible refine' e_VOID (by assumption) ?hk ?hl ?hg ?h); (case hl => exact rfl); (case hk => exact rfl); (case hg => exact rfl))
  | ((with_reducible refine' e_cell ?S ?hc ?hk ?hl ?h ?hd); (case hl => exact rfl); (case hc => exact rfl); (case hk => exact rfl); (case hd => decide +kernel); (case S => walk_at "m:sel")))
local macro_rules | `(tactic| walk_at "m:get") => `(tactic| ((with_reducible first | refine' w_heap (by assumption) ?S ?_ | refine' w_stack (by assumption) ?S ?_ | refine' w_symbols (by assumption) ?S ?_ | refine' w_functors (by assumption) ?S ?_ | refine' w_max_heap (by assumption) ?S ?_ | refine' w_hb (by assumption) ?S ?_ | refine' w_bb (by assumption) ?S ?_ | refine' w_trail (by assumption) ?S ?_ | refine' w_texts (by assumption) ?S ?_ | refine' w_atom_numbers (by assumption) ?S ?_ | refine' w_functor_numbers (by assumption) ?S ?_); (case S => walk_at "m:hole")))
local macro_rules | `(tactic| walk_at "m:meth") => `(tactic| with_reducible first
  | ((refine' mt_add ?S ?_ (by k_dflt exact rfl)); (case S => walk_at "m:sel"))
  | ((refine' mt_appi ?S (by k_dflt exact rfl) ?_); (case S => walk_at "m:sel"))
  | ((refine' mt_appt ?S (by k_dflt exact rfl) ?_); (case S => walk_at "m:sel"))
  | ((refine' mt_appc ?S (by k_dflt exact rfl) ?_); (case S => walk_at "m:sel")))
local macro_rules | `(tactic| walk_at "m:meth") => `(tactic| (with_reducible first | apply m_atom | apply m_functor | apply m_func | apply m_name | apply m_arity | apply m_push | apply m_new_var | apply m_reserve | apply m_deref | apply m_is_unbound | apply m_bind | apply m_globalise | apply m_stack_put | apply m_is_compound | apply m_functor_of | apply m_width | apply m_base | apply m_arg | apply m_new_block | apply m_new_struct | apply m_build_list | apply m_list_cells | apply m_put_term | apply w_apphp | apply w_appsk | apply y_appfs | apply y_apptx | apply y_getan | apply y_getfn) <;> walk_at "m:t2")
local macro_rules | `(tactic| walk_at "m:t2") => `(tactic| first | assumption | walk_at "m:hole" | (k_dflt exact rfl) | (with_reducible show VS _ _ _ _ _ _ _) | (with_reducible show EV _ _ _ _ _ _))
local macro_rules | `(tactic| walk_at "m:e") => `(tactic| first
  | walk_at "m:name"
  | with_reducible refine e_int ?_ | with_reducible refine e_str ?_ | with_reducible refine e_bool ?_ | with_reducible refine e_none ?_
  | with_reducible refine e_attr ?_ (by k_dflt rfl)
  | with_reducible refine e_bin ?_
  | with_reducible refine e_cmp ?_ (by k_dflt rfl)
  | with_reducible refine e_sub ?_
  | with_reducible refine e_meth ?_ (by k_dflt rfl) (by k_dflt rfl) (by k_dflt rfl) (by k_dflt rfl)
  | ((with_reducible refine' e_call ?e ?hk ?hl ?hg ?hf ?h ?hp ?hd); (case hl => exact rfl); (case e => walk_at "m:gr"); (case hk => exact rfl); (case hg => exact rfl); (case hf => walk_at "m:kp"); (case hp => exact rfl); (case hd => decide +kernel))
  | ((with_reducible refine' e_callB ?e ?hx ?eb ?hf ?hk ?hl ?hg ?hb ?h ?hp ?hd); (case hl => exact rfl); (case e => walk_at "m:gb"); (case hx => decide); (case eb => boot_by_name); (case hf => exact rfl); (case hk => exact rfl); (case hg => exact rfl); (case hb => exact rfl); (case hp => exact rfl); (case hd => decide +kernel))
  | with_reducible refine e_tup ?_
  | with_reducible refine e_list ?_
  | with_reducible refine e_un ?_
  | with_reducible refine e_boolop ?_)
local macro_rules | `(tactic| walk_at "m:1") => `(tactic| first
  | ((with_reducible show EV _ _ _ _ _ _); walk_at "m:e")
  | ((with_reducible show XS _ _ _ _ _ _); walk_at "m:x")
  | ((with_reducible show OP1 _ _ _ _ _ _ _); walk_at "m:o1")
  | ((with_reducible show OP2 _ _ _ _ _ _ _ _); walk_at "m:o2")
  | ((with_reducible show MT _ _ _ _ _ _ _ _ _); walk_at "m:meth")
  | ((with_reducible show CL _ _ _ _ _ _); walk_at "m:call")
  | ((with_reducible show AS _ _ _ _ _ _ _); walk_at "m:a")
  | ((with_reducible show VS _ _ _ _ _ _ _); first | with_reducible refine v_nil ?_ | with_reducible refine v_cons ?_ (by k_dflt rfl))
  | ((with_reducible show TS _ _ _ _ _ _); first | with_reducible refine t_cmp ?_ (by k_dflt rfl) | with_reducible refine t_not ?_ | with_reducible refine t_bool ?_ | with_reducible refine t_val ?_ (by k_dflt rfl))
  | ((with_reducible show TSs _ _ _ _ _ _ _); first | with_reducible refine t_and ?_ | with_reducible refine t_or ?_ | with_reducible refine t_and_nil ?_ | with_reducible refine t_or_nil ?_)
  | ((with_reducible show VB _ _ _ _ _ _ _ _); first | with_reducible refine b_one ?_ | with_reducible refine b_and ?_ | with_reducible refine b_or ?_)
  | ((with_reducible show SI _ _ _ _ _ _ _); walk_at "m:si")
  | with_reducible refine contF_next ?_ | with_reducible refine contF_ret ?_
  | with_reducible refine br_t ?_ | with_reducible refine br_f ?_
  | ((with_reducible refine' ⟨_, _, _, _, _, rfl, ?S, ?hz, ?_⟩); (case S => walk_at "m:sel"); (case hz => walk_at "m:om"))
  | ((with_reducible refine' ⟨_, _, _, _, rfl, ?S, ?hz, ?_⟩); (case S => walk_at "m:hole"); (case hz => walk_at "m:om"))
  | ((with_reducible refine' ⟨_, _, _, rfl, ?S, ?hz, ?_⟩); (case S => walk_at "m:hole"); (case hz => walk_at "m:om"))
  | ((with_reducible refine' ⟨_, _, _, _, rfl, rfl, ?S, ?_⟩); (case S => walk_at "m:hole"))
  | ((with_reducible refine' ⟨_, _, _, _, _, rfl, rfl, ?S, ?_⟩); (case S => walk_at "m:hole"))
  | with_reducible refine ⟨_, rfl, ?_⟩
  | with_reducible refine And.intro (by k_dflt exact rfl) ?_
  | with_reducible refine And.intro (by walk_at "m:sz") ?_
  | with_reducible refine ret_fr ?_ | with_reducible refine next_fr ?_
  | with_reducible refine retP_skip (p := (_, .rng _ _ _)) ?_ | with_reducible refine retP_skip (p := (_, .lit _ _)) ?_ | with_reducible refine retP_skip (p := (_, .tit _ _)) ?_ | with_reducible refine retP_skip (p := (_, .rit _ _ _)) ?_ | with_reducible refine retP_skip (p := (_, .iset _)) ?_ | with_reducible refine retP_skip (p := (_, .cell _)) ?_ | with_reducible refine retP_skip (p := (_, .idict _)) ?_)
local macro_rules | `(tactic| walk_at "m:x") => `(tactic| first
  | with_reducible refine x_nil ?_
  | with_reducible refine x_ret ?_ | with_reducible refine x_ret0 ?_
  | with_reducible refine x_asg ?_ (by k_dflt rfl) (by k_dflt rfl) (by k_dflt rfl)
  | with_reducible refine x_if ?_
  | with_reducible refine x_expr ?_ (by k_dflt rfl) (by k_dflt rfl)
  | ((with_reducible refine' x_inc ?S ?hm ?U ?hL ?hk ?hl ?h); (case hl => exact rfl); (case hL => walk_at "m:L"); (case hk => exact rfl); (case S => walk_at "m:sel"); (case hm => walk_at "m:mem"); (case U => walk_at "m:upd")))
local macro_rules | `(tactic| walk_at "m:a") => `(tactic| first
  | ((with_reducible refine' a_loc ?S ?U ?hL ?hk ?hl ?h); (case hl => exact rfl); (case hL => walk_at "m:L"); (case hk => exact rfl); (case S => walk_at "m:sel"); (case U => walk_at "m:upd"))
  | ((with_reducible refine' a_cell ?S ?hc ?hk ?hl ?h); (case hl => exact rfl); (case hc => exact rfl); (case hk => exact rfl); (case S => walk_at "m:sel"))
  | with_reducible refine a_sub ?_
  | with_reducible refine a_attr ?_)
local macro_rules | `(tactic| walk_at "m:o1") => `(tactic| first
  | walk_at "m:get"
  | with_reducible refine o_neg ?_ | with_reducible refine o_not ?_)
local macro_rules | `(tactic| walk_at "m:o2") => `(tactic| first
  | with_reducible refine o_mul2 ?_
  | ((with_reducible refine' o_notins ?S ?_); (case S => walk_at "m:sel"))
  | with_reducible refine o_add ?_ | with_reducible refine o_sub ?_ | with_reducible refine o_eqi ?_ | with_reducible refine o_nei ?_ | with_reducible refine o_lt ?_ | with_reducible refine o_le ?_ | with_reducible refine o_gt ?_ | with_reducible refine o_ge ?_
  | with_reducible refine o_eqs ?_ | with_reducible refine o_isnone ?_
  | with_reducible refine o_eqc' (by assumption) ?_ | with_reducible refine o_nec' (by assumption) ?_
  | with_reducible refine sb_c0 ?_ | with_reducible refine sb_c1 ?_ | with_reducible refine sb_c2 ?_
  | ((with_reducible refine' w_athp ?S ?h0 ?hf ?hk ?_); (case S => walk_at "m:hole"); (case h0 => walk_at "m:om"); (case hk => walk_at "m:at"); (case hf => walk_at "m:om"))
  | ((with_reducible refine' w_atsk ?S ?h0 ?hf ?hk ?_); (case S => walk_at "m:hole"); (case h0 => walk_at "m:om"); (case hk => walk_at "m:at"); (case hf => walk_at "m:om"))
  | ((with_reducible refine' y_fsat ?S ?h0 ?hf ?hk ?_); (case S => walk_at "m:hole"); (case h0 => walk_at "m:om"); (case hk => walk_at "m:at"); (case hf => walk_at "m:om")))
local macro_rules | `(tactic| walk_at "m:si") => `(tactic| first
  | ((with_reducible refine' w_puthp ?S ?h0 ?hf ?hk ?_); (case S => walk_at "m:hole"); (case h0 => walk_at "m:om"); (case hk => walk_at "m:om"); (case hf => walk_at "m:om"))
  | ((with_reducible refine' w_putsk ?S ?h0 ?hf ?hk ?_); (case S => walk_at "m:hole"); (case h0 => walk_at "m:om"); (case hk => walk_at "m:om"); (case hf => walk_at "m:om"))
  | ((with_reducible refine' y_putan ?S ?hz ?_); (case S => walk_at "m:hole"); (case hz => walk_at "m:om"))
  | ((with_reducible refine' y_putfn (by assumption) ?S ?hz ?_); (case S => walk_at "m:hole"); (case hz => walk_at "m:om")))
local macro_rules | `(tactic| walk_at "m:call") => `(tactic| with_reducible refine CC.clr ?_)
local macro_rules | `(tactic| walk_at "m:call") => `(tactic| with_reducible first
  | (refine' cl_lenc ?S ?hz ?_; (case S => walk_at "m:sel"); (case hz => k_dflt walk_at "m:om"))
  | (refine' y_lentx ?S ?hz ?_; (case S => walk_at "m:hole"); (case hz => k_dflt walk_at "m:om"))
  | (refine' y_lenfs ?S ?hz ?_; (case S => walk_at "m:hole"); (case hz => k_dflt walk_at "m:om"))
  | (refine' w_lenhp ?S ?hz ?_; (case S => walk_at "m:hole"); (case hz => k_dflt walk_at "m:om"))
  | (refine' w_lensk ?S ?hz ?_; (case S => walk_at "m:hole"); (case hz => k_dflt walk_at "m:om")))
local macro_rules | `(tactic| walk_at "m") => `(tactic| repeat (walk_at "m:1"))
local macro_rules | `(tactic| walk_at "m:K") => `(tactic| (rw [OKc.hK (by assumption)]; k_is))
local macro_rules | `(tactic| walk_at "m:bind") => `(tactic| first | exact bind1 (fun _ => rfl) | exact bind2 (fun _ _ => rfl) | exact bind3 (fun _ _ _ => rfl) | exact bind0 rfl | exact bind5 (fun _ _ _ _ _ => rfl))
local macro_rules | `(tactic| walk_at "m:fr") => `(tactic| (simp only [List.map_cons, List.map_nil, List.zip_cons_cons, List.zip_nil_right, List.zip_nil_left, List.cons_append, List.nil_append]; exact rfl))
local macro_rules | `(tactic| walk_at "m:perm") => `(tactic| first | exact List.Perm.refl _ | ((with_reducible refine' Sel.pm ?hs ?hp); (case hs => walk_at "m:sel"); (case hp => walk_at "m:perm")))
local macro_rules | `(tactic| walk_at "m:holeN") => `(tactic| first | with_reducible exact HF.s (by assumption) _ | ((with_reducible refine' Hole.skip ?hq); (case hq => walk_at "m:holeN")))
local macro_rules | `(tactic| walk_at "m:holeR") => `(tactic| first | with_reducible exact Hole.rowh | ((with_reducible refine' Hole.skip ?hq); (case hq => walk_at "m:holeR")))
section
variable {c : Cx} {A : Around} {a : Ad} {σ : Sig} {w : Wc} {F : Wc → Sig} {n : Nat} {P : D → Sig → Prop}
theorem push_c (k : OKc c) (S : Hole (wsig a) σ w F) (hr : Rm A 1) {p q : Int} (hlen : w.hs.length < 100000)
    (h : P (.int w.hs.length) (F { w with hs := w.hs ++ [(p, q)] })) : CC c A σ (.ref 202) [.ref a.st, .tup [.int p, .int q]] P := by
  have hF := S.all
  obtain rfl := S.eq
  refine cc_def (names := ["self", "cell"]) (rest := ["address"]) (by walk_at "m:K") (by walk_at "m:K") hr (by walk_at "m:bind") (by rfl) (by decide) (by rfl) (by rfl) (by walk_at "m:fr") ?_
  intro L A' hA' hr'
  walk_at "m"
  refine br_of_f (decide_eq_false (by omega)) ?_
  walk_at "m"
  exact h
theorem new_var_c (k : OKc c) (S : Hole (wsig a) σ w F) (hr : Rm A 2) (hlen : w.hs.length < 100000)
    (h : P (.tup [.int 0, .int w.hs.length]) (F { w with hs := w.hs ++ [(0, (w.hs.length : Int))] })) : CC c A σ (.ref 209) [.ref a.st] P := by
  have hF := S.all
  obtain rfl := S.eq
  refine cc_def (names := ["self"]) (rest := ["cell"]) (by walk_at "m:K") (by walk_at "m:K") hr (by walk_at "m:bind") (by rfl) (by decide) (by rfl) (by rfl) (by walk_at "m:fr") ?_
  intro L A' hA' hr'
  walk_at "m"
  refine push_c k (by walk_at "m:hole") hr' (by omega) ?_
  walk_at "m"
  exact h
theorem is_compound_c (k : OKc c) (S : Hole (wsig a) σ w F) (hr : Rm A 1) {p q : Int}
    (h : P (.bool (p == 2 || p == 3)) (F w)) : CC c A σ (.ref 286) [.ref a.st, .tup [.int p, .int q]] P := by
  have hF := S.all
  obtain rfl := S.eq
  refine cc_def (names := ["self", "cell"]) (rest := []) (by walk_at "m:K") (by walk_at "m:K") hr (by walk_at "m:bind") (by rfl) (by decide) (by rfl) (by rfl) (by walk_at "m:fr") ?_
  intro L A' hA' hr'
  walk_at "m"
  refine br_by (fun e => ?_) (fun e => ?_)
  · walk_at "m"
    rw [e] at h; exact h
  · walk_at "m"
    rw [e] at h; exact h
theorem base_c (k : OKc c) (S : Hole (wsig a) σ w F) (hr : Rm A 1) {p q : Int}
    (h : P (.int (if p = 3 then q else q + 1)) (F w)) : CC c A σ (.ref 307) [.ref a.st, .tup [.int p, .int q]] P := by
  have hF := S.all
  obtain rfl := S.eq
  refine cc_def (names := ["self", "cell"]) (rest := []) (by walk_at "m:K") (by walk_at "m:K") hr (by walk_at "m:bind") (by rfl) (by decide) (by rfl) (by rfl) (by walk_at "m:fr") ?_
  intro L A' hA' hr'
  walk_at "m"
  refine br_by (fun e => ?_) (fun e => ?_)
  · walk_at "m"
    rw [if_pos (beq_iff_eq.mp e)] at h; exact h
  · walk_at "m"
    rw [if_neg (beq_eq_false_iff_ne.mp e)] at h; exact h
theorem arg_c (k : OKc c) (S : Hole (wsig a) σ w F) (hr : Rm A 2) {p q i : Int} {b : Nat} {r : Int × Int} (hb : (if p = 3 then q else q + 1) + i - 1 = b) (hz : b < 1000000) (hk : w.hs[b]? = some r)
    (h : P (cellD r) (F w)) : CC c A σ (.ref 314) [.ref a.st, .tup [.int p, .int q], .int i] P := by
  have hF := S.all
  obtain rfl := S.eq
  refine cc_def (names := ["self", "cell", "i"]) (rest := []) (by walk_at "m:K") (by walk_at "m:K") hr (by walk_at "m:bind") (by rfl) (by decide) (by rfl) (by rfl) (by walk_at "m:fr") ?_
  intro L A' hA' hr'
  walk_at "m"
  refine base_c k (by walk_at "m:hole") hr' ?_
  walk_at "m"
  rw [hb]
  walk_at "m"
  exact h
end
section
variable {c : Cx} {A : Around} {a : Ad} {σ : Sig} {w : Wc} {F : Wc → Sig} {n : Nat} {P : D → Sig → Prop}
local macro_rules | `(tactic| walk_at "m:call") => `(tactic| ((with_reducible refine CC.cl ?_); walk_at "m:cc"))
local macro_rules | `(tactic| walk_at "m:cc") => `(tactic| ((with_reducible first | refine' push_c (by assumption) ?S (Rm.mono (by assumption) ?hr) ?h1 ?_ | refine' new_var_c (by assumption) ?S (Rm.mono (by assumption) ?hr) ?h1 ?_); (case S => walk_at "m:hole"); (case hr => walk_at "m:om"); (case h1 => walk_at "m:om")))
local macro_rules | `(tactic| walk_at "m:cc") => `(tactic| ((with_reducible first | refine' is_compound_c (by assumption) ?S (Rm.mono (by assumption) ?hr) ?_ | refine' base_c (by assumption) ?S (Rm.mono (by assumption) ?hr) ?_); (case S => walk_at "m:hole"); (case hr => walk_at "m:om")))
-- the symbols
theorem functor_c {y : Sy} {F : Sy → Sig} (k : OKc c) (S : Hole (ssig a) σ y F) (hr : Rm A 1) {p q : Int} (h1 : y.fl.length < 1000000) (h2 : y.kv.length < 1000000)
    (h : P (.int (fnF y p q).1) (F (fnF y p q).2)) : CC c A σ (.ref 102) [.ref a.sg, .int p, .int q] P := by
  have hF := S.all
  obtain rfl := S.eq
  refine cc_def (names := ["self", "atom", "arity"]) (rest := ["key", "found", "number"]) (by walk_at "m:K") (by walk_at "m:K") hr (by walk_at "m:bind") (by rfl) (by decide) (by rfl) (by rfl) (by walk_at "m:fr") ?_
  intro L A' hA' hr'
  unfold fnF at h
  walk_at "m"
  refine br_by (fun e => ?_) (fun e => ?_)
  · walk_at "m"
    rw [if_pos (of_decide_eq_true e)] at h
    exact h
  · walk_at "m"
    rw [if_neg (of_decide_eq_false e)] at h
    exact h
theorem atom_c {y : Sy} {F : Sy → Sig} (k : OKc c) (S : Hole (ssig a) σ y F) (hr : Rm A 1) {x : Str} (h1 : y.tl.length < 1000000) (h2 : y.ak.length < 1000000)
    (h : P (.int (atF y x).1) (F (atF y x).2)) : CC c A σ (.ref 88) [.ref a.sg, .str x] P := by
  have hF := S.all
  obtain rfl := S.eq
  refine cc_def (names := ["self", "text"]) (rest := ["found", "number"]) (by walk_at "m:K") (by walk_at "m:K") hr (by walk_at "m:bind") (by rfl) (by decide) (by rfl) (by rfl) (by walk_at "m:fr") ?_
  intro L A' hA' hr'
  unfold atF at h
  walk_at "m"
  refine br_by (fun e => ?_) (fun e => ?_)
  · walk_at "m"
    rw [if_pos (of_decide_eq_true e)] at h
    exact h
  · walk_at "m"
    rw [if_neg (of_decide_eq_false e)] at h
    exact h
local macro_rules | `(tactic| walk_at "m:cc") => `(tactic| ((with_reducible first | refine' functor_c (by assumption) ?S (Rm.mono (by assumption) ?hr) ?h1 ?h2 ?_ | refine' atom_c (by assumption) ?S (Rm.mono (by assumption) ?hr) ?h1 ?h2 ?_); (case S => walk_at "m:hole"); (case hr => walk_at "m:om"); (case h1 => walk_at "m:om"); (case h2 => walk_at "m:om")))
theorem func_c {y : Sy} {F : Sy → Sig} (k : OKc c) (S : Hole (ssig a) σ y F) (hr : Rm A 2) {x : Str} {q : Int} (h1 : y.tl.length < 1000000) (h2 : y.ak.length < 1000000)
    (h3 : (atF y x).2.fl.length < 1000000) (h4 : (atF y x).2.kv.length < 1000000)
    (h : P (.int (fnF (atF y x).2 (atF y x).1 q).1) (F (fnF (atF y x).2 (atF y x).1 q).2)) : CC c A σ (.ref 109) [.ref a.sg, .str x, .int q] P := by
  have hF := S.all
  obtain rfl := S.eq
  refine cc_def (names := ["self", "text", "arity"]) (rest := []) (by walk_at "m:K") (by walk_at "m:K") hr (by walk_at "m:bind") (by rfl) (by decide) (by rfl) (by rfl) (by walk_at "m:fr") ?_
  intro L A' hA' hr'
  walk_at "m"
  exact h
theorem name_c {y : Sy} {F : Sy → Sig} (k : OKc c) (S : Hole (ssig a) σ y F) (hr : Rm A 1) {i : Nat} {p : Int × Int} (h1 : i < 1000000) (h2 : y.fl[i]? = some p)
    (h : P (.int p.1) (F y)) : CC c A σ (.ref 116) [.ref a.sg, .int i] P := by
  have hF := S.all
  obtain rfl := S.eq
  refine cc_def (names := ["self", "functor"]) (rest := []) (by walk_at "m:K") (by walk_at "m:K") hr (by walk_at "m:bind") (by rfl) (by decide) (by rfl) (by rfl) (by walk_at "m:fr") ?_
  intro L A' hA' hr'
  walk_at "m"
  exact h
theorem arity_c {y : Sy} {F : Sy → Sig} (k : OKc c) (S : Hole (ssig a) σ y F) (hr : Rm A 1) {i : Nat} {p : Int × Int} (h1 : i < 1000000) (h2 : y.fl[i]? = some p)
    (h : P (.int p.2) (F y)) : CC c A σ (.ref 123) [.ref a.sg, .int i] P := by
  have hF := S.all
  obtain rfl := S.eq
  refine cc_def (names := ["self", "functor"]) (rest := []) (by walk_at "m:K") (by walk_at "m:K") hr (by walk_at "m:bind") (by rfl) (by decide) (by rfl) (by rfl) (by walk_at "m:fr") ?_
  intro L A' hA' hr'
  walk_at "m"
  exact h
end
local macro_rules | `(tactic| walk_at "m:call") => `(tactic| ((with_reducible refine CC.clr ?_); walk_at "m:cc"))
local macro_rules | `(tactic| walk_at "m:cc") => `(tactic| ((with_reducible first | refine' push_c (by assumption) ?S (Rm.mono (by assumption) ?hr) ?h1 ?_ | refine' new_var_c (by assumption) ?S (Rm.mono (by assumption) ?hr) ?h1 ?_); (case S => walk_at "m:hole"); (case hr => walk_at "m:om"); (case h1 => walk_at "m:om")))
local macro_rules | `(tactic| walk_at "m:cc") => `(tactic| ((with_reducible first | refine' is_compound_c (by assumption) ?S (Rm.mono (by assumption) ?hr) ?_ | refine' base_c (by assumption) ?S (Rm.mono (by assumption) ?hr) ?_); (case S => walk_at "m:hole"); (case hr => walk_at "m:om")))
local macro_rules | `(tactic| walk_at "m:cc") => `(tactic| ((with_reducible first | refine' functor_c (by assumption) ?S (Rm.mono (by assumption) ?hr) ?h1 ?h2 ?_ | refine' atom_c (by assumption) ?S (Rm.mono (by assumption) ?hr) ?h1 ?h2 ?_); (case S => walk_at "m:hole"); (case hr => walk_at "m:om"); (case h1 => walk_at "m:om"); (case h2 => walk_at "m:om")))
local macro_rules | `(tactic| walk_at "m:cc") => `(tactic| ((with_reducible first | refine' arity_c (by assumption) ?S (Rm.mono (by assumption) ?hr) ?h1 ?h2 ?_ | refine' name_c (by assumption) ?S (Rm.mono (by assumption) ?hr) ?h1 ?h2 ?_); (case S => walk_at "m:hole"); (case hr => walk_at "m:om"); (case h2 => walk_at "m:at"); (case h1 => walk_at "m:om")))
section
variable {c : Cx} {A : Around} {a : Ad} {σ : Sig} {w : Wc} {F : Wc → Sig} {n : Nat} {P : D → Sig → Prop}
theorem deref_c (k : OKc c) (S : Hole (wsig a) σ w F) (hr : Rm A 1) {m : Nat} {x y : Int} {q : Int × Int} (hd : Dr w.hs w.ss m (x, y) q) (h1 : w.hs.length < 1000000) (h2 : w.ss.length < 1000000)
    (h : P (cellD q) (F w)) : CC c A σ (.ref 230) [.ref a.st, .tup [.int x, .int y]] P := by
  have hF := S.all
  obtain rfl := S.eq
  refine cc_def (names := ["self", "cell"]) (rest := ["tag", "found"]) (by walk_at "m:K") (by walk_at "m:K") hr (by walk_at "m:bind") (by rfl) (by decide) (by rfl) (by rfl) (by walk_at "m:fr") ?_
  intro L A' hA' hr'
  refine x_while ?_
  refine wl_nat (α := Nat × (Int × Int) × Option D × Option D) (fun z => z.1) (fun z => (L, .fr [("self", some (.ref a.st)), ("cell", some (cellD z.2.1)), ("tag", z.2.2.1), ("found", z.2.2.2)]) :: F w) (fun z => Dr w.hs w.ss z.1 z.2.1 q) (m, (x, y), none, none) hd rfl ?_
  rintro ⟨m, p, t, f⟩ hd ih
  dsimp only at hd ih ⊢
  refine wl_turn ?_
  walk_at "m"
  cases hd with
  | stop n0 n1 =>
    refine br_of_f (beq_eq_false_iff_ne.mpr n0) ?_
    walk_at "m"
    refine br_of_f (beq_eq_false_iff_ne.mpr n1) ?_
    walk_at "m"
    refine contW_ret ?_
    walk_at "m"
    exact h
  | @here0 _ i g =>
    have li := lt_of_get g
    refine br_t ?_
    walk_at "m"
    refine br_of_t (decide_eq_true rfl) ?_
    walk_at "m"
    refine contW_ret ?_
    walk_at "m"
    exact h
  | @here1 _ i g =>
    have li := lt_of_get g
    refine br_f ?_
    walk_at "m"
    refine br_t ?_
    walk_at "m"
    refine br_of_t (decide_eq_true rfl) ?_
    walk_at "m"
    refine contW_ret ?_
    walk_at "m"
    exact h
  | @go0 n i p _ g ne r =>
    have li := lt_of_get g
    refine br_t ?_
    walk_at "m"
    refine br_of_f (decide_eq_false ne) ?_
    walk_at "m"
    refine contW_next ?_
    exact ih (n, p, _, _) r (Nat.lt_succ_self _)
  | @go1 n i p _ g ne r =>
    have li := lt_of_get g
    refine br_f ?_
    walk_at "m"
    refine br_t ?_
    walk_at "m"
    refine br_of_f (decide_eq_false ne) ?_
    walk_at "m"
    refine contW_next ?_
    exact ih (n, p, _, _) r (Nat.lt_succ_self _)
theorem is_unbound_c (k : OKc c) (S : Hole (wsig a) σ w F) (hr : Rm A 1) {x : Int} {i : Nat} {p : Int × Int} (hx : (x = 0 ∧ w.hs[i]? = some p) ∨ (x = 1 ∧ w.ss[i]? = some p)) (h1 : w.hs.length < 1000000) (h2 : w.ss.length < 1000000)
    (h : P (.bool (decide (p = (x, (i : Int))))) (F w)) : CC c A σ (.ref 237) [.ref a.st, .tup [.int x, .int i]] P := by
  have hF := S.all
  obtain rfl := S.eq
  refine cc_def (names := ["self", "cell"]) (rest := []) (by walk_at "m:K") (by walk_at "m:K") hr (by walk_at "m:bind") (by rfl) (by decide) (by rfl) (by rfl) (by walk_at "m:fr") ?_
  intro L A' hA' hr'
  walk_at "m"
  rcases hx with ⟨rfl, hx⟩ | ⟨rfl, hx⟩
  · have li := lt_of_get hx
    refine br_t ?_
    walk_at "m"
    exact h
  · have li := lt_of_get hx
    refine br_f ?_
    walk_at "m"
    refine br_t ?_
    walk_at "m"
    exact h
local macro_rules | `(tactic| walk_at "m:cc") => `(tactic| ((with_reducible first | refine' deref_c (by assumption) ?S (Rm.mono (by assumption) ?hr) (by assumption) ?h1 ?h2 ?_); (case S => walk_at "m:hole"); (case hr => walk_at "m:om"); (case h1 => walk_at "m:om"); (case h2 => walk_at "m:om")))
theorem glob_c (k : OKc c) (S : Hole (wsig a) σ w F) (hr : Rm A 2) {m : Nat} {x y : Int} {q : Int × Int} (hd : Dr w.hs w.ss m (x, y) q) (h1 : w.hs.length < 1000000) (h2 : w.ss.length < 1000000) (hq : q.1 ≠ 1)
    (h : P (cellD q) (F w)) : CC c A σ (.ref 258) [.ref a.st, .tup [.int x, .int y]] P := by
  have hF := S.all
  obtain rfl := S.eq
  refine cc_def (names := ["self", "cell"]) (rest := ["fresh"]) (by walk_at "m:K") (by walk_at "m:K") hr (by walk_at "m:bind") (by rfl) (by decide) (by rfl) (by rfl) (by walk_at "m:fr") ?_
  intro L A' hA' hr'
  walk_at "m"
  refine br_of_f (beq_eq_false_iff_ne.mpr hq) ?_
  walk_at "m"
  exact h
theorem bind1_c (k : OKc c) (S : Hole (wsig a) σ w F) (hr : Rm A 1) {i : Nat} {x y : Int} (h1 : w.ss.length < 1000000) (hi : i < w.ss.length)
    (h : P .none (F { w with ss := w.ss.set i (x, y) })) : CC c A σ (.ref 244) [.ref a.st, .tup [.int 1, .int i], .tup [.int x, .int y]] P := by
  have hF := S.all
  obtain rfl := S.eq
  refine cc_def (names := ["self", "cell", "value"]) (rest := ["place"]) (by walk_at "m:K") (by walk_at "m:K") hr (by walk_at "m:bind") (by rfl) (by decide) (by rfl) (by rfl) (by walk_at "m:fr") ?_
  intro L A' hA' hr'
  walk_at "m"
  refine br_f ?_
  walk_at "m"
  refine br_of_f (decide_eq_false (by omega)) ?_
  walk_at "m"
  exact h
local macro_rules | `(tactic| walk_at "m:cc") => `(tactic| ((with_reducible first | refine' bind1_c (by assumption) ?S (Rm.mono (by assumption) ?hr) ?h1 ?h2 ?_); (case S => walk_at "m:hole"); (case hr => walk_at "m:om"); (case h1 => walk_at "m:om"); (case h2 => walk_at "m:om")))
/-- the stack's variable gets a heap variable -/
theorem glob1_c (k : OKc c) (S : Hole (wsig a) σ w F) (hr : Rm A 3) {i : Nat} (hi : w.ss[i]? = some (1, (i : Int))) (h1 : w.hs.length < 100000) (h2 : w.ss.length < 1000000)
    (h : P (.tup [.int 0, .int w.hs.length]) (F { w with hs := w.hs ++ [(0, (w.hs.length : Int))], ss := w.ss.set i (0, (w.hs.length : Int)) })) : CC c A σ (.ref 258) [.ref a.st, .tup [.int 1, .int i]] P := by
  have hF := S.all
  obtain rfl := S.eq
  refine cc_def (names := ["self", "cell"]) (rest := ["fresh"]) (by walk_at "m:K") (by walk_at "m:K") hr (by walk_at "m:bind") (by rfl) (by decide) (by rfl) (by rfl) (by walk_at "m:fr") ?_
  intro L A' hA' hr'
  have hd : Dr w.hs w.ss 0 (1, (i : Int)) (1, (i : Int)) := .here1 hi
  have li := lt_of_get hi
  walk_at "m"
  refine br_t ?_
  walk_at "m"
  exact h
theorem stack_put_c (k : OKc c) (S : Hole (wsig a) σ w F) (hr : Rm A 1) {i : Nat} {x y : Int} (h0 : w.ss = []) (h1 : i < 100)
    (h : P .none (F { w with ss := List.replicate i (5, 0) ++ [(x, y)] })) : CC c A σ (.ref 279) [.ref a.st, .int i, .tup [.int x, .int y]] P := by
  have hF := S.all
  obtain rfl := S.eq
  refine cc_def (names := ["self", "i", "value"]) (rest := ["stack"]) (by walk_at "m:K") (by walk_at "m:K") hr (by walk_at "m:bind") (by rfl) (by decide) (by rfl) (by rfl) (by walk_at "m:fr") ?_
  intro L A' hA' hr'
  have l0 : w.ss.length = 0 := by rw [h0]; rfl
  walk_at "m"
  refine br_of_f (decide_eq_false (by omega)) ?_
  walk_at "m"
  refine x_while ?_
  refine wl_nat (α := Nat) (fun z => i - z) (fun z => (L, .fr [("self", some (.ref a.st)), ("i", some (.int i)), ("value", some (.tup [.int x, .int y])), ("stack", some (.ref a.sk))]) :: F { w with ss := List.replicate z (5, 0) }) (fun z => z ≤ i) 0 (Nat.zero_le _) (by rw [show ({ w with ss := List.replicate 0 (5, 0) } : Wc) = w from by rw [List.replicate_zero, ← h0]]) ?_
  intro z hz ih
  have lz : (List.replicate z ((5 : Int), (0 : Int))).length = z := List.length_replicate
  have lz' : ({ w with ss := List.replicate z (5, 0) } : Wc).ss.length = z := lz
  refine wl_turn ?_
  walk_at "m"
  rw [lz]
  refine br_by (fun e => ?_) (fun e => ?_)
  · have e := of_decide_eq_true e
    walk_at "m"
    refine contW_next ?_
    have := ih (z + 1) (by omega) (by omega)
    rw [List.replicate_succ'] at this
    exact this
  · have e := of_decide_eq_false e
    have : z = i := by omega
    subst this
    walk_at "m"
    exact h
end
local macro_rules | `(tactic| walk_at "m:cc") => `(tactic| ((with_reducible first | refine' deref_c (by assumption) ?S (Rm.mono (by assumption) ?hr) (by assumption) ?h1 ?h2 ?_); (case S => walk_at "m:hole"); (case hr => walk_at "m:om"); (case h1 => walk_at "m:om"); (case h2 => walk_at "m:om")))
local macro_rules | `(tactic| walk_at "m:cc") => `(tactic| ((with_reducible first | refine' bind1_c (by assumption) ?S (Rm.mono (by assumption) ?hr) ?h1 ?h2 ?_); (case S => walk_at "m:hole"); (case hr => walk_at "m:om"); (case h1 => walk_at "m:om"); (case h2 => walk_at "m:om")))
section
variable {c : Cx} {A : Around} {a : Ad} {σ : Sig} {w : Wc} {F : Wc → Sig} {n : Nat} {P : D → Sig → Prop}
theorem reserve_c (k : OKc c) (S : Hole (wsig a) σ w F) (hr : Rm A 1) {n : Nat} (hlen : w.hs.length + n ≤ 100000)
    (h : P (.int w.hs.length) (F { w with hs := w.hs ++ vars w.hs.length n })) : CC c A σ (.ref 216) [.ref a.st, .int n] P := by
  have hF := S.all
  obtain rfl := S.eq
  refine cc_def (names := ["self", "count"]) (rest := ["first", "step"]) (by walk_at "m:K") (by walk_at "m:K") hr (by walk_at "m:bind") (by rfl) (by decide) (by rfl) (by rfl) (by walk_at "m:fr") ?_
  intro L A' hA' hr'
  walk_at "m"
  refine br_of_f (decide_eq_false (by omega)) ?_
  walk_at "m"
  refine x_for ?_
  walk_at "m"
  refine cl_range fun r => ?_
  refine i_rngN .head (by omega) fun it => ?_
  refine ⟨_, rfl, ?_⟩
  refine fl_range (α := Option D) (fun i z => (r, .rng 0 n 1) :: (L, .fr [("self", some (.ref a.st)), ("count", some (.int n)), ("first", some (.int w.hs.length)), ("step", z)]) :: F { w with hs := w.hs ++ vars w.hs.length i }) (fun _ _ => True) none trivial
    (by rw [show vars w.hs.length 0 = [] from rfl, List.append_nil]) hr'.h (fun i z hi _ => ?_) (fun z _ => ?_)
  · have lz : ({ w with hs := w.hs ++ vars w.hs.length i } : Wc).hs.length < 1000000 := by rw [List.length_append, vars_length]; omega
    walk_at "m"
    refine afterL_next (some (.int i)) trivial ?_
    rw [vars_succ, ← List.append_assoc]
    rfl
  · walk_at "m"
    exact h
local macro_rules | `(tactic| walk_at "m:cc") => `(tactic| ((with_reducible first | refine' reserve_c (by assumption) ?S (Rm.mono (by assumption) ?hr) ?h1 ?_); (case S => walk_at "m:hole"); (case hr => walk_at "m:om"); (case h1 => walk_at "m:om")))
theorem width_c (k : OKc c) (S : Hole (wsig a) σ w F) (hr : Rm A 2) {x y r : Int} (h1 : w.hs.length < 1000000) (h2 : w.sy.fl.length < 1000000)
    (hw : (x = 3 ∧ r = 2) ∨ (x = 2 ∧ ∃ i f : Nat, ∃ t z : Int, y = i ∧ w.hs[i]? = some (t, (f : Int)) ∧ w.sy.fl[f]? = some (z, r)) ∨ (x ≠ 3 ∧ x ≠ 2 ∧ r = 0))
    (h : P (.int r) (F w)) : CC c A σ (.ref 300) [.ref a.st, .tup [.int x, .int y]] P := by
  have hF := S.all
  obtain rfl := S.eq
  refine cc_def (names := ["self", "cell"]) (rest := ["tag"]) (by walk_at "m:K") (by walk_at "m:K") hr (by walk_at "m:bind") (by rfl) (by decide) (by rfl) (by rfl) (by walk_at "m:fr") ?_
  intro L A' hA' hr'
  walk_at "m"
  rcases hw with ⟨rfl, rfl⟩ | ⟨rfl, i, f, t, z, rfl, g1, g2⟩ | ⟨n1, n2, rfl⟩
  · refine br_t ?_
    walk_at "m"
    exact h
  · have l1 := lt_of_get g1
    have l2 := lt_of_get g2
    refine br_f ?_
    walk_at "m"
    refine br_t ?_
    walk_at "m"
    exact h
  · refine br_of_f (beq_eq_false_iff_ne.mpr n1) ?_
    walk_at "m"
    refine br_of_f (beq_eq_false_iff_ne.mpr n2) ?_
    walk_at "m"
    exact h
theorem functor_of_c (k : OKc c) (S : Hole (wsig a) σ w F) (hr : Rm A 2) {x y r : Int} {sy' : Sy} (h1 : w.hs.length < 1000000) (h2 : w.sy.fl.length < 1000000) (h3 : w.sy.kv.length < 1000000)
    (hw : (x = 2 ∧ (∃ i : Nat, ∃ t : Int, y = i ∧ w.hs[i]? = some (t, r)) ∧ sy' = w.sy) ∨ (x = 3 ∧ r = 0 ∧ sy' = w.sy) ∨ (x = 4 ∧ r = (fnF w.sy y 0).1 ∧ sy' = (fnF w.sy y 0).2) ∨ (x ≠ 2 ∧ x ≠ 3 ∧ x ≠ 4 ∧ r = -1 ∧ sy' = w.sy))
    (h : P (.int r) (F { w with sy := sy' })) : CC c A σ (.ref 293) [.ref a.st, .tup [.int x, .int y]] P := by
  have hF := S.all
  obtain rfl := S.eq
  refine cc_def (names := ["self", "cell"]) (rest := ["tag"]) (by walk_at "m:K") (by walk_at "m:K") hr (by walk_at "m:bind") (by rfl) (by decide) (by rfl) (by rfl) (by walk_at "m:fr") ?_
  intro L A' hA' hr'
  walk_at "m"
  rcases hw with ⟨rfl, ⟨i, t, rfl, g1⟩, rfl⟩ | ⟨rfl, rfl, rfl⟩ | ⟨rfl, rfl, rfl⟩ | ⟨n1, n2, n3, rfl, rfl⟩
  · have l1 := lt_of_get g1
    refine br_t ?_
    walk_at "m"
    exact h
  · refine br_f ?_
    walk_at "m"
    refine br_t ?_
    walk_at "m"
    exact h
  · refine br_f ?_
    walk_at "m"
    refine br_f ?_
    walk_at "m"
    refine br_t ?_
    walk_at "m"
    exact h
  · refine br_of_f (beq_eq_false_iff_ne.mpr n1) ?_
    walk_at "m"
    refine br_of_f (beq_eq_false_iff_ne.mpr n2) ?_
    walk_at "m"
    refine br_of_f (beq_eq_false_iff_ne.mpr n3) ?_
    walk_at "m"
    exact h
/-- a block for a list's cell -/
theorem new_block0_c (k : OKc c) (S : Hole (wsig a) σ w F) (hr : Rm A 2) (hlen : w.hs.length + 2 ≤ 100000)
    (h : P (.tup [.int 3, .int w.hs.length]) (F { w with hs := w.hs ++ vars w.hs.length 2 })) : CC c A σ (.ref 321) [.ref a.st, .int 0] P := by
  have hF := S.all
  obtain rfl := S.eq
  refine cc_def (names := ["self", "f"]) (rest := ["start"]) (by walk_at "m:K") (by walk_at "m:K") hr (by walk_at "m:bind") (by rfl) (by decide) (by rfl) (by rfl) (by walk_at "m:fr") ?_
  intro L A' hA' hr'
  walk_at "m"
  refine br_t ?_
  walk_at "m"
  show CC _ _ _ _ [_, .int ((2 : Nat) : Int)] _
  refine reserve_c k (by walk_at "m:hole") hr' (n := 2) (by omega) ?_
  walk_at "m"
  exact h
theorem new_block_c (k : OKc c) (S : Hole (wsig a) σ w F) (hr : Rm A 2) {f n : Nat} {z : Int} (hf : f ≠ 0) (hn : w.sy.fl[f]? = some (z, (n : Int))) (h2 : w.sy.fl.length < 1000000) (hlen : w.hs.length + (1 + n) ≤ 100000)
    (h : P (.tup [.int 2, .int w.hs.length]) (F { w with hs := w.hs ++ (6, (f : Int)) :: vars (w.hs.length + 1) n })) : CC c A σ (.ref 321) [.ref a.st, .int f] P := by
  have hF := S.all
  obtain rfl := S.eq
  refine cc_def (names := ["self", "f"]) (rest := ["start"]) (by walk_at "m:K") (by walk_at "m:K") hr (by walk_at "m:bind") (by rfl) (by decide) (by rfl) (by rfl) (by walk_at "m:fr") ?_
  intro L A' hA' hr'
  have lf := lt_of_get hn
  walk_at "m"
  refine br_of_f (beq_eq_false_iff_ne.mpr (by omega)) ?_
  walk_at "m"
  rw [show (1 : Int) + (n : Int) = ((1 + n : Nat) : Int) from by omega]
  refine (reserve_c k (by walk_at "m:hole") hr' (n := 1 + n) (by omega) ?_)
  have lz : ({ w with hs := w.hs ++ vars w.hs.length (1 + n) } : Wc).hs.length = w.hs.length + (1 + n) := by rw [List.length_append, vars_length]
  walk_at "m"
  have e : (w.hs ++ vars w.hs.length (1 + n)).set w.hs.length (6, (f : Int)) = w.hs ++ (6, (f : Int)) :: vars (w.hs.length + 1) n := by
    rw [List.set_append_right _ _ (Nat.le_refl _), Nat.sub_self]
    congr 1
    unfold vars
    rw [Nat.add_comm 1 n, List.range_succ_eq_map, List.map_cons, List.set_cons_zero, List.map_map]
    congr 1
    apply List.map_congr_left
    intro i _
    simp only [Function.comp]
    congr 2
    omega
  rw [← e] at h
  exact h
end
local macro_rules | `(tactic| walk_at "m:cc") => `(tactic| ((with_reducible first | refine' reserve_c (by assumption) ?S (Rm.mono (by assumption) ?hr) ?h1 ?_); (case S => walk_at "m:hole"); (case hr => walk_at "m:om"); (case h1 => walk_at "m:om")))
section
variable {c : Cx} {A : Around} {a : Ad} {σ : Sig} {w : Wc} {F : Wc → Sig} {n : Nat} {P : D → Sig → Prop}
theorem build_list_c (k : OKc c) (S : Hole (wsig a) σ w F) (hr : Rm A 4) {ca : Addr} {ps : List (Int × Int)} {ts : List Tm} {dt : D} {et : Tm} {ds : List D} {T : Int → Option Nat}
    (hca : ∀ w', ∃ f g, Sel (F w') ca (.list (cm ps)) f g)
    (hds : (ds = [.ref a.st, .ref ca] ∧ dt = .none) ∨ ds = [.ref a.st, .ref ca, dt])
    (hdt : (dt = .none ∧ et = .a 0) ∨ ∃ p, dt = cellD p ∧ RD w.hs w.ss T p et)
    (hpl : ps.length = ts.length) (hps : ∀ (i : Nat) (p : Int × Int), ps[i]? = some p → ∃ t, ts[i]? = some t ∧ RD w.hs w.ss T p t)
    (hlen : w.hs.length + 2 * ps.length ≤ 100000) (h2 : w.ss.length < 1000000)
    (h : ∀ hs' q, Ext w.hs hs' → hs'.length = w.hs.length + 2 * ps.length → (∀ p ∈ hs', p ∈ w.hs ∨ p.1 ≠ 1) → Rp hs' w.ss T q (mkL ts et) → P (cellD q) (F { w with hs := hs' })) : CC c A σ (.ref 350) ds P := by
  have hF := S.all
  obtain rfl := S.eq
  refine cc_def (ds' := [.ref a.st, .ref ca, dt]) (names := ["self", "cells", "tail"]) (rest := ["end", "values", "cell", "start", "place", "value"]) (by walk_at "m:K") (by walk_at "m:K") hr ?_ (by rfl) (by decide) (by rfl) (by rfl) (by walk_at "m:fr") ?_
  · rcases hds with ⟨rfl, rfl⟩ | rfl
    · intro s vs X r
      cases r with | @cons v1 _ _ _ r1 r => cases r with | @cons v2 _ _ _ r2 r =>
      cases r
      exact ⟨[v1, v2, .none], binds_K (T := 343) X rfl (by walk_at "m:K") rfl rfl rfl, .cons r1 (.cons r2 (.cons .none .nil))⟩
    · intro s vs X r
      refine ⟨vs, ?_, r⟩
      cases r with | @cons v1 _ _ _ r1 r => cases r with | @cons v2 _ _ _ r2 r => cases r with | @cons v3 _ _ _ r3 r =>
      cases r
      exact binds_K (T := 343) X rfl (by walk_at "m:K") rfl rfl rfl
  intro L A' hA' hr'
  refine x_ifJ (α := Int × Int) (fun e => (L, .fr [("self", some (.ref a.st)), ("cells", some (.ref ca)), ("tail", some dt), ("end", some (cellD e)), ("values", none), ("cell", none), ("start", none), ("place", none), ("value", none)]) :: F w) (fun e => Rp w.hs w.ss T e et) ?_ (fun e he => ?_)
  · walk_at "m"
    rcases hdt with ⟨rfl, rfl⟩ | ⟨p, rfl, q, m, hd, hq⟩
    · refine br_t ?_
      walk_at "m"
      exact joinF_next (4, 0) (by rw [Rp]) rfl
    · refine br_f ?_
      walk_at "m"
      refine glob_c k (by walk_at "m:hole") (hr'.mono (by omega)) hd (by omega) h2 hq.ne1 ?_
      walk_at "m"
      exact joinF_next q hq rfl
  walk_at "m"
  intro va
  walk_at "m"
  refine x_for ?_
  walk_at "m"
  obtain ⟨f, g, Sca⟩ := hca w
  refine i_list (.tail (.tail Sca)) fun it => ⟨_, rfl, ?_⟩
  refine fl_list (α := List (Int × Int) × Option D) (fun i z => (va, .list (cm z.1)) :: (L, .fr [("self", some (.ref a.st)), ("cells", some (.ref ca)), ("tail", some dt), ("end", some (cellD e)), ("values", some (.ref va)), ("cell", z.2), ("start", none), ("place", none), ("value", none)]) :: F w)
    (fun i z => z.1.length = i ∧ ∀ (j : Nat) (q : Int × Int), z.1[j]? = some q → ∃ t, ts[j]? = some t ∧ Rp w.hs w.ss T q t) ([], none) ⟨rfl, fun j q hj => by simp at hj⟩ rfl hr'.h (fun i z _ => Sel.any _ (Sel.any _ Sca.anyOf)) ?_ ?_
  · rintro i ⟨qs, z⟩ d hd ⟨hql, hqs⟩
    dsimp only at hql hqs ⊢
    obtain ⟨p, hp, rfl⟩ := cm_geti hd
    have li := lt_of_get hp
    obtain ⟨t, ht, q, m, hpq, hq⟩ := hps i p hp
    walk_at "m"
    refine glob_c k (by walk_at "m:hole") (hr'.mono (by omega)) hpq (by omega) h2 hq.ne1 ?_
    walk_at "m"
    refine afterL_next (qs ++ [q], some (cellD p)) ⟨by rw [List.length_append, hql]; rfl, fun j q' hj => ?_⟩ rfl
    rcases get_snoc hj with hj | ⟨rfl, rfl⟩
    · exact hqs j q' hj
    · rw [hql]; exact ⟨t, ht, hq⟩
  rintro ⟨qs, z⟩ ⟨hql, hqs⟩
  rw [cm_length] at hql
  dsimp only at hql hqs ⊢
  walk_at "m"
  refine br_by (fun e0 => ?_) (fun e0 => ?_)
  · have e0 := beq_iff_eq.mp e0
    have hq0 : qs = [] := List.length_eq_zero_iff.mp (by omega)
    have ht0 : ts = [] := List.length_eq_zero_iff.mp (by omega)
    have hp0 : ps = [] := List.length_eq_zero_iff.mp (by omega)
    subst ht0; subst hp0
    walk_at "m"
    refine retP_skip ?_
    walk_at "m"
    exact h w.hs e (.refl _) rfl (fun p hp => .inl hp) he
  have e0 := beq_eq_false_iff_ne.mp e0
  walk_at "m"
  refine x_for ?_
  walk_at "m"
  refine i_list .head fun iu => ⟨_, rfl, ?_⟩
  refine fl_list (α := List (Int × Int) × Option D) (fun j y => (va, .list (cm qs)) :: (L, .fr [("self", some (.ref a.st)), ("cells", some (.ref ca)), ("tail", some dt), ("end", some (cellD e)), ("values", some (.ref va)), ("cell", z), ("start", some (.int w.hs.length)), ("place", some (.int ((w.hs.length + 2 * j : Nat) : Int))), ("value", y.2)]) :: F { w with hs := y.1 })
    (fun j y => y.1.length = w.hs.length + 2 * qs.length ∧ Ext w.hs y.1 ∧ (∀ p ∈ y.1, p ∈ w.hs ∨ p.1 ≠ 1) ∧ (∀ i, i < j → y.1[w.hs.length + 2 * i]? = qs[i]?) ∧ (∀ i, i < j → y.1[w.hs.length + 2 * i + 1]? = some (3, ((w.hs.length + 2 * i + 2 : Nat) : Int))))
    (w.hs ++ vars w.hs.length (2 * qs.length), none) ⟨by rw [List.length_append, vars_length], Ext.app _ _, ?_, fun i hi => by omega, fun i hi => by omega⟩ rfl hr'.h (fun i z _ => Sel.any0) ?_ ?_
  · intro p hp
    rcases List.mem_append.mp hp with hp | hp
    · exact .inl hp
    · unfold vars at hp
      obtain ⟨i, _, rfl⟩ := List.mem_map.mp hp
      exact .inr (by simp)
  · rintro j ⟨H, y⟩ d hd ⟨g1, g2, g3, g4, g5⟩
    dsimp only at g1 g2 g3 g4 g5 ⊢
    obtain ⟨q, hq, rfl⟩ := cm_geti hd
    have lj := lt_of_get hq
    have q1 : q.1 ≠ 1 := by obtain ⟨t, _, hqt⟩ := hqs j q hq; exact hqt.ne1
    walk_at "m"
    have e1 : (((w.hs.length + 2 * j : Nat) : Int) + 1).toNat = w.hs.length + 2 * j + 1 := by omega
    have e2 : ((w.hs.length + 2 * j : Nat) : Int) + 2 = ((w.hs.length + 2 * (j + 1) : Nat) : Int) := by omega
    refine afterL_next ((H.set (w.hs.length + 2 * j) q).set (w.hs.length + 2 * j + 1) (3, ((w.hs.length + 2 * (j + 1) : Nat) : Int)), some (cellD q)) ⟨by rw [List.length_set, List.length_set]; exact g1, (g2.set (by omega)).set (by omega), ?_, ?_, ?_⟩ ?_
    · intro p hp
      rcases mem_set_or hp with hp | rfl
      · rcases mem_set_or hp with hp | rfl
        · exact g3 p hp
        · exact .inr q1
      · exact .inr (by simp)
    · intro i hi
      dsimp only
      rw [get_set_ne (by omega)]
      by_cases e : i = j
      · subst e
        rw [get_set_eq (by omega), hq]
      · rw [get_set_ne (by omega)]
        exact g4 i (by omega)
    · intro i hi
      dsimp only
      by_cases e : i = j
      · subst e
        rw [get_set_eq (by rw [List.length_set]; omega)]
        congr 2
      · rw [get_set_ne (by omega), get_set_ne (by omega)]
        exact g5 i (by omega)
    · simp only [e1, e2, Int.toNat_natCast]
  · rintro ⟨H, y⟩ ⟨g1, g2, g3, g4, g5⟩
    rw [cm_length] at g4 g5
    rw [cm_length]
    dsimp only at g1 g2 g3 g4 g5 ⊢
    have e3 : (((w.hs.length + 2 * qs.length : Nat) : Int) - 1).toNat = w.hs.length + 2 * (qs.length - 1) + 1 := by omega
    walk_at "m"
    refine retP_skip ?_
    walk_at "m"
    rw [e3]
    have ne : qs ≠ [] := fun z => e0 (by rw [z]; rfl)
    have hx : Ext w.hs (H.set (w.hs.length + 2 * (qs.length - 1) + 1) e) := g2.set (by omega)
    refine h _ _ hx (by rw [List.length_set]; omega) (fun p hp => ?_) (Rp_mkL (by omega) (he.mono hx) (fun i q t hq ht => ?_) (fun i hi => ?_) (fun i hi => ?_) (fun _ => get_set_eq (by omega)) ne)
    · rcases mem_set_or hp with hp | rfl
      · exact g3 p hp
      · exact .inr he.ne1
    · obtain ⟨t', ht', hqt⟩ := hqs i q hq
      rw [ht] at ht'
      cases ht'
      exact hqt.mono hx
    · rw [get_set_ne (by omega)]; exact g4 i hi
    · rw [get_set_ne (by omega)]; exact g5 i (by omega)
end
section
variable {c : Cx} {A : Around} {a : Ad} {σ : Sig} {w : Wc} {F : Wc → Sig} {n : Nat} {P : D → Sig → Prop}
theorem new_struct0_c (k : OKc c) (S : Hole (wsig a) σ w F) (hr : Rm A 4) {ca : Addr} {i : Nat} {p : Int × Int}
    (hca : ∀ w', ∃ f g, Sel (F w') ca (.list (cm [])) f g) (h1 : w.sy.fl[i]? = some p) (h2 : w.sy.fl.length < 1000000)
    (h : P (.tup [.int 4, .int p.1]) (F w)) : CC c A σ (.ref 342) [.ref a.st, .int i, .ref ca] P := by
  have hF := S.all
  obtain rfl := S.eq
  refine cc_def (names := ["self", "f", "cells"]) (rest := ["values", "cell", "made", "place", "value"]) (by walk_at "m:K") (by walk_at "m:K") hr (by walk_at "m:bind") (by rfl) (by decide) (by rfl) (by rfl) (by walk_at "m:fr") ?_
  intro L A' hA' hr'
  obtain ⟨f, g, Sca⟩ := hca w
  have li := lt_of_get h1
  walk_at "m"
  refine cl_lenc (.tail Sca) (by simp) ?_
  walk_at "m"
  refine br_t ?_
  walk_at "m"
  exact h
theorem new_struct_c (k : OKc c) (S : Hole (wsig a) σ w F) (hr : Rm A 4) {ca : Addr} {ps : List (Int × Int)} {ts : List Tm} {T : Int → Option Nat} {f : Nat} {z : Int}
    (hca : ∀ w', ∃ f g, Sel (F w') ca (.list (cm ps)) f g) (hf : w.sy.fl[f]? = some (z, (ps.length : Int))) (hfl : w.sy.fl.length < 1000000) (har : ArOk f ps.length)
    (hpl : ps.length = ts.length) (hps : ∀ (i : Nat) (p : Int × Int), ps[i]? = some p → ∃ t, ts[i]? = some t ∧ RD w.hs w.ss T p t)
    (hlen : w.hs.length + (1 + ps.length) ≤ 100000) (h2 : w.ss.length < 1000000)
    (h : ∀ hs' q, Ext w.hs hs' → hs'.length = w.hs.length + (1 + ps.length) → (∀ p ∈ hs', p ∈ w.hs ∨ p.1 ≠ 1) → Rp hs' w.ss T q (.s f ts) → P (cellD q) (F { w with hs := hs' })) : CC c A σ (.ref 342) [.ref a.st, .int f, .ref ca] P := by
  have hF := S.all
  obtain rfl := S.eq
  refine cc_def (names := ["self", "f", "cells"]) (rest := ["values", "cell", "made", "place", "value"]) (by walk_at "m:K") (by walk_at "m:K") hr (by walk_at "m:bind") (by rfl) (by decide) (by rfl) (by rfl) (by walk_at "m:fr") ?_
  intro L A' hA' hr'
  obtain ⟨_, _, Sca⟩ := hca w
  have n0 : ps.length ≠ 0 := by unfold ArOk at har; omega
  have f0 : f ≠ 0 := by unfold ArOk at har; omega
  walk_at "m"
  refine cl_lenc (.tail Sca) (by omega) ?_
  walk_at "m"
  refine br_of_f (beq_eq_false_iff_ne.mpr (by omega)) ?_
  walk_at "m"
  intro va
  walk_at "m"
  refine x_for ?_
  walk_at "m"
  refine i_list (.tail (.tail Sca)) fun it => ⟨_, rfl, ?_⟩
  refine fl_list (α := List (Int × Int) × Option D) (fun i z => (va, .list (cm z.1)) :: (L, .fr [("self", some (.ref a.st)), ("f", some (.int f)), ("cells", some (.ref ca)), ("values", some (.ref va)), ("cell", z.2), ("made", none), ("place", none), ("value", none)]) :: F w)
    (fun i z => z.1.length = i ∧ ∀ (j : Nat) (q : Int × Int), z.1[j]? = some q → ∃ t, ts[j]? = some t ∧ Rp w.hs w.ss T q t) ([], none) ⟨rfl, fun j q hj => by simp at hj⟩ rfl hr'.h (fun i z _ => Sel.any _ (Sel.any _ Sca.anyOf)) ?_ ?_
  · rintro i ⟨qs, z⟩ d hd ⟨hql, hqs⟩
    dsimp only at hql hqs ⊢
    obtain ⟨p, hp, rfl⟩ := cm_geti hd
    have li := lt_of_get hp
    obtain ⟨t, ht, q, m, hpq, hq⟩ := hps i p hp
    walk_at "m"
    refine glob_c k (by walk_at "m:hole") (hr'.mono (by omega)) hpq (by omega) h2 hq.ne1 ?_
    walk_at "m"
    refine afterL_next (qs ++ [q], some (cellD p)) ⟨by rw [List.length_append, hql]; rfl, fun j q' hj => ?_⟩ rfl
    rcases get_snoc hj with hj | ⟨rfl, rfl⟩
    · exact hqs j q' hj
    · rw [hql]; exact ⟨t, ht, hq⟩
  rintro ⟨qs, zz⟩ ⟨hql, hqs⟩
  rw [cm_length] at hql
  dsimp only at hql hqs ⊢
  walk_at "m"
  refine new_block_c k (by walk_at "m:hole") (hr'.mono (by omega)) f0 hf hfl (by omega) ?_
  walk_at "m"
  rw [if_neg (by decide), show (w.hs.length : Int) + 1 = ((w.hs.length + 1 + 0 : Nat) : Int) from by omega]
  refine x_for ?_
  walk_at "m"
  refine i_list .head fun iu => ⟨_, rfl, ?_⟩
  refine fl_list (α := List (Int × Int) × Option D) (fun j y => (va, .list (cm qs)) :: (L, .fr [("self", some (.ref a.st)), ("f", some (.int f)), ("cells", some (.ref ca)), ("values", some (.ref va)), ("cell", zz), ("made", some (.tup [.int 2, .int w.hs.length])), ("place", some (.int ((w.hs.length + 1 + j : Nat) : Int))), ("value", y.2)]) :: F { w with hs := y.1 })
    (fun j y => y.1.length = w.hs.length + (1 + ps.length) ∧ Ext w.hs y.1 ∧ (∀ p ∈ y.1, p ∈ w.hs ∨ p.1 ≠ 1) ∧ y.1[w.hs.length]? = some (6, (f : Int)) ∧ (∀ i, i < j → y.1[w.hs.length + 1 + i]? = qs[i]?))
    (w.hs ++ (6, (f : Int)) :: vars (w.hs.length + 1) ps.length, none) ⟨by rw [List.length_append, List.length_cons, vars_length]; omega, Ext.app _ _, ?_, ?_, fun i hi => by omega⟩ rfl hr'.h (fun i z _ => Sel.any0) ?_ ?_
  · intro p hp
    rcases List.mem_append.mp hp with hp | hp
    · exact .inl hp
    · rcases List.mem_cons.mp hp with rfl | hp
      · exact .inr (by simp)
      · unfold vars at hp
        obtain ⟨i, _, rfl⟩ := List.mem_map.mp hp
        exact .inr (by simp)
  · dsimp only
    rw [List.getElem?_append_right (Nat.le_refl _), Nat.sub_self]; rfl
  · rintro j ⟨H, y⟩ d hd ⟨g1, g2, g3, g4, g5⟩
    dsimp only at g1 g2 g3 g4 g5 ⊢
    obtain ⟨q, hq, rfl⟩ := cm_geti hd
    have lj := lt_of_get hq
    have q1 : q.1 ≠ 1 := by obtain ⟨t, _, hqt⟩ := hqs j q hq; exact hqt.ne1
    walk_at "m"
    have e2 : ((w.hs.length + 1 + j : Nat) : Int) + 1 = ((w.hs.length + 1 + (j + 1) : Nat) : Int) := by omega
    refine afterL_next (H.set (w.hs.length + 1 + j) q, some (cellD q)) ⟨by rw [List.length_set]; exact g1, g2.set (by omega), ?_, ?_, ?_⟩ ?_
    · intro p hp
      rcases mem_set_or hp with hp | rfl
      · exact g3 p hp
      · exact .inr q1
    · dsimp only
      rw [get_set_ne (by omega)]; exact g4
    · intro i hi
      dsimp only
      by_cases e : i = j
      · subst e
        rw [get_set_eq (by omega), hq]
      · rw [get_set_ne (by omega)]
        exact g5 i (by omega)
    · simp only [e2, Int.toNat_natCast]
  · rintro ⟨H, y⟩ ⟨g1, g2, g3, g4, g5⟩
    rw [cm_length] at g5
    rw [cm_length]
    dsimp only at g1 g2 g3 g4 g5 ⊢
    walk_at "m"
    refine retP_skip ?_
    walk_at "m"
    refine h _ (2, (w.hs.length : Int)) g2 g1 g3 ?_
    rw [Rp]
    refine .inr ⟨by rw [← hpl]; exact har, w.hs.length, rfl, g4, RpL.of fun i t ht => ?_⟩
    have li : i < qs.length := by have := lt_of_get ht; omega
    obtain ⟨t', ht', hqt⟩ := hqs i qs[i] (List.getElem?_eq_getElem li)
    rw [ht] at ht'
    cases ht'
    have hqt := hqt.mono g2
    exact ⟨_, _, 0, by rw [g5 i li]; exact List.getElem?_eq_getElem li, hqt.stop, hqt⟩
end
section
variable {c : Cx} {A : Around} {a : Ad} {σ : Sig} {w : Wc} {F : Wc → Sig} {n : Nat} {P : D → Sig → Prop}
theorem list_cells_c (k : OKc c) (S : Hole (wsig a) σ w F) (hr : Rm A 3) {x y : Int} {t : Tm} {T : Int → Option Nat} (inj : TInj T) (hp : RD w.hs w.ss T (x, y) t) (hsz : t.sz < 4000) (h1 : w.hs.length < 1000000) (h2 : w.ss.length < 1000000)
    (h : ∀ fa qs ts q e, t = mkL ts e → ¬ isL e → qs.length = ts.length → (∀ (i : Nat) (q : Int × Int), qs[i]? = some q → ∃ t, ts[i]? = some t ∧ Rp w.hs w.ss T q t) → Rp w.hs w.ss T q e → P (.tup [.ref fa, cellD q]) ((fa, .list (cm qs)) :: F w)) :
    CC c A σ (.ref 357) [.ref a.st, .tup [.int x, .int y]] P := by
  have hF := S.all
  obtain rfl := S.eq
  refine cc_def (names := ["self", "cell"]) (rest := ["found", "seen"]) (by walk_at "m:K") (by walk_at "m:K") hr (by walk_at "m:bind") (by rfl) (by decide) (by rfl) (by rfl) (by walk_at "m:fr") ?_
  intro L A' hA' hr'
  walk_at "m"
  intro fa
  walk_at "m"
  refine cl_set fun se => ?_
  walk_at "m"
  obtain ⟨q0, m, hd, hq0⟩ := hp
  refine deref_c k (by walk_at "m:hole") (hr'.mono (by omega)) hd h1 h2 ?_
  walk_at "m"
  refine x_while ?_
  refine wl_inv (α := List (Int × Int) × List Int × (Int × Int) × List Tm × Tm) (fun z => z.2.2.2.2.sz) (fun z => (se, .iset z.2.1) :: (fa, .list (cm z.1)) :: (L, .fr [("self", some (.ref a.st)), ("cell", some (cellD z.2.2.1)), ("found", some (.ref fa)), ("seen", some (.ref se))]) :: F w)
    (fun z => t = mkL z.2.2.2.1 z.2.2.2.2 ∧ Rp w.hs w.ss T z.2.2.1 z.2.2.2.2 ∧ z.1.length = z.2.2.2.1.length ∧ (∀ (i : Nat) (q : Int × Int), z.1[i]? = some q → ∃ t, z.2.2.2.1[i]? = some t ∧ Rp w.hs w.ss T q t) ∧
      z.2.1.length = z.1.length ∧ z.1.length + z.2.2.2.2.sz < 4000 ∧ ∀ b ∈ z.2.1, ∃ t', Rp w.hs w.ss T (3, b) t' ∧ z.2.2.2.2.sz < t'.sz) ([], [], q0, [], t)
    ⟨rfl, hq0, rfl, fun i q hi => by simp at hi, rfl, by simpa using hsz, fun b hb => by simp at hb⟩ rfl ?_
  rintro ⟨qs, is, q, ts, u⟩ ⟨g1, g2, g3, g4, g5, g6, g7⟩
  dsimp only at g1 g2 g3 g4 g5 g6 g7 ⊢
  walk_at "m"
  by_cases hl : isL u
  · obtain ⟨t1, t2, rfl⟩ := hl
    obtain ⟨b, rfl, ⟨p1, q1, n1, i1, i2, i3⟩, p2, q2, n2, j1, j2, j3⟩ := g2.list
    have lb := lt_of_get i1
    have lb' := lt_of_get j1
    refine br_t ?_
    walk_at "m"
    have nin : (b : Int) ∉ is := fun hb => by
      obtain ⟨t', r, s⟩ := g7 _ hb
      have := Rp.det inj g2 r
      subst this
      omega
    refine br_of_t (decide_eq_true nin) ?_
    walk_at "m"
    refine ⟨_, _, _, _, rfl, .head, by have : (4096 : Nat) = scanBound := rfl; have := Tm.sz_pos (.s 0 [t1, t2]); omega, ?_⟩
    walk_at "m"
    have e1 : ((b : Int) + 1).toNat = b + 1 := by omega
    have sz := Tm.sz_tl t1 t2
    refine afterL_next (qs ++ [q1], (b : Int) :: is, q2, ts ++ [t1], t2) ⟨⟨by rw [g1, mkL_snoc], j3, by rw [List.length_append, List.length_append, g3]; rfl, fun i q hi => ?_, by rw [List.length_cons, List.length_append, g5]; rfl, by rw [List.length_append]; simp only [List.length_cons, List.length_nil]; omega, fun b' hb' => ?_⟩, by dsimp only; omega⟩ rfl
    · dsimp only at hi ⊢
      rcases get_snoc hi with hi | ⟨rfl, rfl⟩
      · obtain ⟨t', ht', r⟩ := g4 i q hi
        exact ⟨t', by rw [List.getElem?_append_left (lt_of_get ht')]; exact ht', r⟩
      · exact ⟨t1, by rw [g3, List.getElem?_append_right (Nat.le_refl _), Nat.sub_self]; rfl, i3⟩
    · dsimp only at hb' ⊢
      rcases List.mem_cons.mp hb' with rfl | hb'
      · exact ⟨_, g2, by omega⟩
      · obtain ⟨t', r, s⟩ := g7 _ hb'
        exact ⟨t', r, by omega⟩
  · refine br_of_f (beq_eq_false_iff_ne.mpr fun e => hl (g2.isL e)) ?_
    walk_at "m"
    exact retP_ret (.cons_cons _ (.cons _ (.refl _))) (h fa qs ts q u g1 hl g3 g4 g2)
end
section
variable {c : Cx} {A : Around} {a : Ad} {σ : Sig} {w : Wc} {n : Nat} {P : D → Sig → Prop} {row : Addr} {l : List Int} {F : List Int → Sig}
theorem next_c (k : OKc c) (S : Hole (rsig row) σ l F) (hr : Rm A 1) (hl : l.length < 1000000) (h : ∀ x l', l'.length ≤ l.length → P (.int x) (F l')) : CC c A σ (.ref 390) [.ref row] P := by
  have hF := S.all
  obtain rfl := S.eq
  refine cc_def (names := ["row"]) (rest := []) (by walk_at "m:K") (by walk_at "m:K") hr (by walk_at "m:bind") (by rfl) (by decide) (by rfl) (by rfl) (by walk_at "m:fr") ?_
  intro L A' hA' hr'
  obtain ⟨f, g, s, e⟩ := S.row
  walk_at "m"
  refine e_ite ?_
  walk_at "m"
  intro b
  refine o_neil hr' (l := l) (k := []) (.tail (.tail s)) (.head) ?_
  walk_at "m"
  refine br_by (fun hn => ?_) (fun hn => ?_)
  · have hn := of_decide_eq_true hn
    obtain ⟨x, hx⟩ := Option.ne_none_iff_exists'.mp (mt List.getLast?_eq_none_iff.mp hn)
    walk_at "m"
    refine mt_popi (.tail (.tail s)) hx hl ?_
    refine retP_skip ?_
    walk_at "m"
    rw [e]
    exact h _ _ (by rw [List.length_dropLast]; omega)
  · walk_at "m"
    refine retP_skip ?_
    walk_at "m"
    exact h 0 l (Nat.le_refl _)
local macro_rules | `(tactic| walk_at "m:cc") => `(tactic| ((with_reducible first | refine' next_c (by assumption) ?S (Rm.mono (by assumption) ?hr) ?h1 ?_); (case S => walk_at "m:hole"); (case hr => walk_at "m:om"); (case h1 => walk_at "m:om")))
theorem picked_c (k : OKc c) (S : Hole (rsig row) σ l F) (hr : Rm A 2) (hl : l.length < 1000000) {st : D} {p : Int × Int} {t : Tm} {i : Int}
    (h : ∀ q u l', l'.length ≤ l.length → ((q = (1, i) ∧ u = .v 1) ∨ (q = p ∧ u = t) ∨ (q = (4, 4) ∧ u = .a 4) ∨ (q = (0, 0) ∧ u = .v 0) ∨ (q = (5, 7) ∧ u = .i 7)) → P (.tup [cellD q, u.d]) (F l')) :
    CC c A σ (.ref 409) [.ref row, st, .tup [.int p.1, .int p.2], t.d, .int i] P := by
  have hF := S.all
  obtain rfl := S.eq
  refine cc_def (names := ["row", "store", "cell", "term", "index"]) (rest := ["kind"]) (by walk_at "m:K") (by walk_at "m:K") hr (by walk_at "m:bind") (by rfl) (by decide) (by rfl) (by rfl) (by walk_at "m:fr") ?_
  intro L A' hA' hr'
  walk_at "m"
  intro x l' hl'
  walk_at "m"
  refine o_modl (by decide) fun kd hkd => ?_
  walk_at "m"
  refine br_by (fun e => ?_) (fun e => ?_)
  · walk_at "m"
    exact h (1, i) (.v 1) l' hl' (.inl ⟨rfl, rfl⟩)
  walk_at "m"
  refine br_by (fun e => ?_) (fun e => ?_)
  · walk_at "m"
    exact h p t l' hl' (.inr (.inl ⟨rfl, rfl⟩))
  walk_at "m"
  refine br_by (fun e => ?_) (fun e => ?_)
  · walk_at "m"
    exact h (4, 4) (.a 4) l' hl' (.inr (.inr (.inl ⟨rfl, rfl⟩)))
  walk_at "m"
  refine br_by (fun e => ?_) (fun e => ?_)
  · walk_at "m"
    exact h (0, 0) (.v 0) l' hl' (.inr (.inr (.inr (.inl ⟨rfl, rfl⟩))))
  walk_at "m"
  exact h (5, 7) (.i 7) l' hl' (.inr (.inr (.inr (.inr ⟨rfl, rfl⟩))))
theorem term_c (k : OKc c) : ∀ (deep : Nat) {A : Around} {σ : Sig} {l : List Int} {F : List Int → Sig} {P : D → Sig → Prop}, Hole (rsig row) σ l F → Rm A (deep + 2) → l.length < 1000000 →
    (∀ t l', l'.length ≤ l.length → Drawn deep t → P t.d (F l')) → CC c A σ (.ref 397) [.ref row, .int deep] P := by
  intro deep
  induction deep using Nat.strongRecOn with
  | _ deep ih =>
  intro A σ l F P S hr hl h
  have hF := S.all
  obtain rfl := S.eq
  refine cc_def (n := deep + 1) (names := ["row", "deep"]) (rest := ["kind", "f", "parts", "turn"]) (by walk_at "m:K") (by walk_at "m:K") hr (by walk_at "m:bind") (by rfl) (by decide) (by rfl) (by rfl) (by walk_at "m:fr") ?_
  intro L A' hA' hr'
  walk_at "m"
  intro x l' hl'
  refine e_iteJ (fun d => ∃ j : Int, d = .int j ∧ 0 < j ∧ j ≤ 9 ∧ (deep = 0 → j = 3)) ((L, .fr [("row", some (.ref row)), ("deep", some (.int deep)), ("kind", none), ("f", none), ("parts", none), ("turn", none)]) :: F l') ?_ ?_
  · walk_at "m"
    refine br_by (fun e => ?_) (fun e => ?_)
    · have e := of_decide_eq_true e
      walk_at "m"
      exact ⟨⟨9, rfl, by omega, by omega, by omega⟩, rfl⟩
    · have e := of_decide_eq_false e
      walk_at "m"
      exact ⟨⟨3, rfl, by omega, by omega, by omega⟩, rfl⟩
  rintro _ ⟨j, rfl, j0, j9, jd⟩
  refine o_modl j0 fun kd hkd => ?_
  walk_at "m"
  refine br_by (fun e => ?_) (fun e => ?_)
  · walk_at "m"
    intro b
    walk_at "m"
    intro x2 l2 hl2
    walk_at "m"
    refine o_modl (j := 2) (by decide) fun kk hkk => ?_
    obtain ⟨v, hv, hv'⟩ : ∃ v : Int, [D.int 0, D.int 4][kk]? = some (.int v) ∧ (v = 0 ∨ v = 4) := by
      have : kk = 0 ∨ kk = 1 := by omega
      rcases this with rfl | rfl
      · exact ⟨0, rfl, .inl rfl⟩
      · exact ⟨4, rfl, .inr rfl⟩
    refine sb_list (k := (kk : Int)) .head (by omega) (by omega) (d := .int v) (by rw [Int.toNat_natCast]; exact hv) ?_
    walk_at "m"
    refine retP_skip ?_
    walk_at "m"
    exact h (.a v) l2 (by omega) (drawn_a _ _ hv')
  have n1 := beq_eq_false_iff_ne.mp e
  walk_at "m"
  refine br_by (fun e => ?_) (fun e => ?_)
  · walk_at "m"
    refine o_pow (by decide) (by decide) ?_
    walk_at "m"
    intro b
    walk_at "m"
    intro x2 l2 hl2
    walk_at "m"
    refine o_modl (j := 4) (by decide) fun kk hkk => ?_
    obtain ⟨v, hv⟩ : ∃ v : Int, [D.int 0, D.int 1, D.int (-1), D.int (10 ^ Int.toNat 30)][kk]? = some (.int v) := by
      have : kk = 0 ∨ kk = 1 ∨ kk = 2 ∨ kk = 3 := by omega
      rcases this with rfl | rfl | rfl | rfl
      · exact ⟨_, rfl⟩
      · exact ⟨_, rfl⟩
      · exact ⟨_, rfl⟩
      · exact ⟨_, rfl⟩
    refine sb_list (k := (kk : Int)) .head (by omega) (by omega) (d := .int v) (by rw [Int.toNat_natCast]; exact hv) ?_
    walk_at "m"
    refine retP_skip ?_
    walk_at "m"
    exact h (.i v) l2 (by omega) (drawn_i _ _)
  have n2 := beq_eq_false_iff_ne.mp e
  walk_at "m"
  refine br_by (fun e => ?_) (fun e => ?_)
  · walk_at "m"
    intro x2 l2 hl2
    walk_at "m"
    refine o_modl (j := 4) (by decide) fun kk hkk => ?_
    walk_at "m"
    exact h (.v kk) l2 (by omega) (drawn_v _ _)
  have n3 := of_decide_eq_false e
  have d0 : 0 < deep := by omega
  obtain ⟨f, n, hf, hn, hfn⟩ : ∃ f n : Nat, [D.int 12, D.int 13, D.int 18, D.int 0, D.int 0][kd - 4]? = some (.int f) ∧ [D.int 1, D.int 2, D.int 3, D.int 2, D.int 2][kd - 4]? = some (.int n) ∧ ((f = 0 ∧ n = 2) ∨ ArOk f n) := by
    have : kd = 4 ∨ kd = 5 ∨ kd = 6 ∨ kd = 7 ∨ kd = 8 := by omega
    rcases this with rfl | rfl | rfl | rfl | rfl
    · exact ⟨12, 1, rfl, rfl, .inr (.inl ⟨rfl, rfl⟩)⟩
    · exact ⟨13, 2, rfl, rfl, .inr (.inr (.inl ⟨rfl, rfl⟩))⟩
    · exact ⟨18, 3, rfl, rfl, .inr (.inr (.inr ⟨rfl, rfl⟩))⟩
    · exact ⟨0, 2, rfl, rfl, .inl ⟨rfl, rfl⟩⟩
    · exact ⟨0, 2, rfl, rfl, .inl ⟨rfl, rfl⟩⟩
  have e4 : ((kd : Int) - 4).toNat = kd - 4 := by omega
  walk_at "m"
  intro b1
  walk_at "m"
  refine sb_list .head (by omega) (by omega) (d := .int f) (by rw [e4]; exact hf) ?_
  walk_at "m"
  intro pa
  walk_at "m"
  refine x_for ?_
  walk_at "m"
  intro b2
  walk_at "m"
  refine sb_list .head (by omega) (by omega) (d := .int n) (by rw [e4]; exact hn) ?_
  walk_at "m"
  have n3' : n ≤ 3 := by unfold ArOk at hfn; omega
  refine cl_range fun r => ?_
  refine i_rngN .head (by omega) fun it => ⟨_, rfl, ?_⟩
  refine fl_range (α := List Tm × List Int × Option D) (fun i z => (r, .rng 0 n 1) :: (b2, .list [.int 1, .int 2, .int 3, .int 2, .int 2]) :: (pa, .list (Tm.ds z.1)) :: (b1, .list [.int 12, .int 13, .int 18, .int 0, .int 0]) ::
      (L, .fr [("row", some (.ref row)), ("deep", some (.int deep)), ("kind", some (.int kd)), ("f", some (.int f)), ("parts", some (.ref pa)), ("turn", z.2.2)]) :: F z.2.1)
    (fun i z => z.1.length = i ∧ z.2.1.length ≤ l'.length ∧ ∀ t ∈ z.1, Drawn (deep - 1) t) ([], l', none) ⟨rfl, Nat.le_refl _, fun t ht => by simp at ht⟩ rfl hr'.h ?_ ?_
  · rintro i ⟨ts, l2, tn⟩ hi ⟨h1, h2, h3⟩
    dsimp only at h1 h2 h3 ⊢
    walk_at "m"
    rw [show (deep : Int) - 1 = ((deep - 1 : Nat) : Int) from by omega]
    refine ih (deep - 1) (by omega) (by walk_at "m:hole") (hr'.mono (by omega)) (by omega) fun t l3 hl3 ht => ?_
    walk_at "m"
    refine ⟨t, ts, _, _, rfl, .tail (.tail (.tail .head)), by omega, ?_⟩
    walk_at "m"
    refine afterL_next (ts ++ [t], l3, some (.int i)) ⟨by rw [List.length_append, h1]; rfl, by dsimp only; omega, fun u hu => ?_⟩ rfl
    rcases List.mem_append.mp hu with hu | hu
    · exact h3 u hu
    · rw [List.mem_singleton.mp hu]; exact ht
  · rintro ⟨ts, l2, tn⟩ ⟨h1, h2, h3⟩
    dsimp only at h1 h2 h3 ⊢
    walk_at "m"
    refine cl_tuple (.tail (.tail .head)) (by rw [Tm.ds_length]; have := sizeLine_big; omega) ?_
    walk_at "m"
    refine retP_skip ?_
    walk_at "m"
    refine retP_skip ?_
    walk_at "m"
    refine retP_skip ?_
    walk_at "m"
    have := drawn_s (k := deep - 1) (f := f) (ts := ts) (by rw [h1]; exact hfn) h3
    rw [show deep - 1 + 1 = deep from by omega] at this
    exact h (.s f ts) l2 (by omega) this
end
local macro_rules | `(tactic| walk_at "m:cc") => `(tactic| ((with_reducible first | refine' next_c (by assumption) ?S (Rm.mono (by assumption) ?hr) ?h1 ?_); (case S => walk_at "m:hole"); (case hr => walk_at "m:om"); (case h1 => walk_at "m:om")))
section
variable {c : Cx} {A : Around} {a : Ad} {σ : Sig} {w : Wc} {n : Nat} {P : D → Sig → Prop} {sc : Addr} {xs : List Int}
theorem row_c (k : OKc c) (hB : BL c sc (im xs)) (hr : Rm A 1) (hxs : xs.length < 1000) (h : ∀ ra l, l.length ≤ 120 → P (.ref ra) ((ra, .list (im l)) :: σ)) : CC c A σ (.ref 383) [.ref sc] P := by
  refine cc_def (names := ["script"]) (rest := ["row", "cell", "number", "turn"]) (by walk_at "m:K") (by walk_at "m:K") hr (by walk_at "m:bind") (by rfl) (by decide) (by rfl) (by rfl) (by walk_at "m:fr") ?_
  intro L A' hA' hr'
  have z := sizeLine_big
  walk_at "m"
  intro ra
  walk_at "m"
  refine x_for ?_
  refine e_takeB ?_
  walk_at "m"
  refine ⟨sc, 40, im xs, rfl, rfl, by omega, hB, by rw [im_length]; omega, fun sl => ?_⟩
  refine i_list .head fun it => ⟨_, rfl, ?_⟩
  rw [show List.take (Int.toNat 40) (im xs) = im (xs.take 40) from by unfold im; rw [List.map_take]; rfl]
  refine fl_list (α := List Int × Option D × Option D × Option D) (fun i z => (sl, .list (im (xs.take 40))) :: (ra, .list (im z.1)) :: (L, .fr [("script", some (.ref sc)), ("row", some (.ref ra)), ("cell", z.2.1), ("number", z.2.2.1), ("turn", z.2.2.2)]) :: σ)
    (fun i z => z.1.length ≤ 31 * i) ([], none, none, none) (by simp) rfl hr'.h (fun i z _ => Sel.any0) ?_ ?_
  · rintro i ⟨rw', c1, c2, c3⟩ d hd hok
    dsimp only at hok ⊢
    obtain ⟨v, hv, rfl⟩ := im_geti hd
    have li : i < 40 := by have := lt_of_get hv; rw [List.length_take] at this; omega
    walk_at "m"
    refine e_iteJ (fun d => ∃ j : Int, d = .int j) ((it, .lit sl (i + 1)) :: (sl, .list (im (xs.take 40))) :: (ra, .list (im rw')) :: (L, .fr [("script", some (.ref sc)), ("row", some (.ref ra)), ("cell", some (.int v)), ("number", c2), ("turn", c3)]) :: σ) ?_ ?_
    · walk_at "m"
      refine br_by (fun e => ?_) (fun e => ?_)
      · walk_at "m"
        exact ⟨⟨_, rfl⟩, rfl⟩
      · walk_at "m"
        exact ⟨⟨_, rfl⟩, rfl⟩
    rintro _ ⟨num, rfl⟩
    walk_at "m"
    refine o_mod (by decide) ?_
    refine ⟨_, _, _, _, rfl, .tail (.tail .head), by omega, ?_⟩
    walk_at "m"
    refine o_div (by decide) (nopylong _ (by decide)) ?_
    walk_at "m"
    refine x_for ?_
    walk_at "m"
    refine cl_range (n := ((30 : Nat) : Int)) fun r => ?_
    refine i_rngN .head (by omega) fun iu => ⟨_, rfl, ?_⟩
    refine fl_range (α := List Int × Int × Option D) (fun j y => (r, .rng 0 ((30 : Nat) : Int) 1) :: (it, .lit sl (i + 1)) :: (sl, .list (im (xs.take 40))) :: (ra, .list (im y.1)) :: (L, .fr [("script", some (.ref sc)), ("row", some (.ref ra)), ("cell", some (.int v)), ("number", some (.int y.2.1)), ("turn", y.2.2)]) :: σ)
      (fun j y => y.1.length ≤ 31 * i + 1 + j) (_, _, c3) (by rw [List.length_append]; simp only [List.length_cons, List.length_nil]; omega) rfl hr'.h ?_ ?_
    · rintro j ⟨rw2, nm, tn⟩ hj hok2
      dsimp only at hok2 ⊢
      walk_at "m"
      refine br_by (fun e => ?_) (fun e => ?_)
      · walk_at "m"
        refine o_mod (by decide) ?_
        refine ⟨_, _, _, _, rfl, .tail (.tail (.tail (.tail .head))), by omega, ?_⟩
        walk_at "m"
        refine o_div (by decide) (nopylong _ (by decide)) ?_
        walk_at "m"
        exact afterL_next (_, _, some (.int j)) (by rw [List.length_append]; simp only [List.length_cons, List.length_nil]; omega) rfl
      · walk_at "m"
        exact afterL_next (rw2, nm, some (.int j)) (by dsimp only; omega) rfl
    · rintro ⟨rw2, nm, tn⟩ hok2
      dsimp only at hok2 ⊢
      refine contF_next (XS.weak (List.sublist_cons_self _ _) ?_)
      walk_at "m"
      refine afterL_next (rw2, some (.int v), some (.int nm), tn) ?_ rfl
      show rw2.length ≤ 31 * (i + 1)
      omega
  · rintro ⟨rw', c1, c2, c3⟩ hok
    have hle : rw'.length ≤ 31 * 40 := by
      dsimp only at hok
      rw [im_length, List.length_take] at hok
      omega
    refine contF_next (XS.weak (List.sublist_cons_self _ _) ?_)
    refine x_asg (e_take ?_)
    walk_at "m"
    refine ⟨ra, 120, im rw', _, _, rfl, rfl, by omega, .head, by rw [im_length]; omega, fun rb => ?_⟩
    rw [show List.take (Int.toNat 120) (im rw') = im (rw'.take 120) from by unfold im; rw [List.map_take]; rfl]
    walk_at "m"
    refine mt_reverse .head (by rw [im_length, List.length_take]; omega) ?_
    walk_at "m"
    refine retP_ret (.cons_cons _ (.cons _ (.cons _ (.refl _)))) ?_
    rw [show (im (rw'.take 120)).reverse = im (rw'.take 120).reverse from by unfold im; rw [List.map_reverse]]
    exact h rb _ (by rw [List.length_reverse, List.length_take]; omega)
end
section
variable {c : Cx} {a : Ad} {na : Addr} {T : Int → Option Nat}
theorem same_v (k : OKc c) {A : Around} {σ : Sig} {z : Wc × List Int} {F : Wc × List Int → Sig} {P : D → Sig → Prop} {p : Int × Int} {x : Int} (S : Hole (nsig a na T) σ z F) (hr : Rm A 4) (inj : TInj T) (hTl : ∀ ns, NsOk T ns → ns.length < 1000) (hs : SyOk z.1.sy) (hp : RD z.1.hs z.1.ss T p (.v x))
    (hn : NsOk T z.2) (h1 : z.1.hs.length < 1000000) (h2 : z.1.ss.length < 1000000)
    (h : ∀ sy' ns', SyOk sy' → NsOk T ns' → P (.bool true) (F ({ z.1 with sy := sy' }, ns'))) : CC c A σ (.ref 402) [.ref a.st, .tup [.int p.1, .int p.2], .tup [.str "v", .int x], .ref na] P := by
  have hF := S.all
  obtain rfl := S.eq
  refine cc_def1 (n1 := "store") (n2 := "cell") (n3 := "term") (y := "names") (rest := ["place"]) (by walk_at "m:K") (by walk_at "m:K") hr (fun _ _ _ _ => by rfl) (fun _ => by rfl) (by decide) (by rfl) (by rfl) (by rfl) (by rfl) (by walk_at "m:fr") ?_
  intro L C A' hA' hr'
  refine XS.perm (List.Perm.swap _ _ _) ?_
  obtain ⟨w, ns⟩ := z
  obtain ⟨q, m, hd, hq⟩ := hp
  dsimp only at hs hd hq hn h1 h2 h
  rw [Rp] at hq
  obtain ⟨r, hT, rfl, hr0⟩ := hq
  walk_at "m"
  refine br_of_t (by decide +kernel) ?_
  refine x_ifJ (α := List Int) (fun ns' => (C, .cell (some (.ref na))) :: (L, .fr [("store", some (.ref a.st)), ("cell", some (.tup [.int 0, .int r])), ("term", some (.tup [.str "v", .int x])), ("place", none)]) :: F (w, ns')) (fun ns' => NsOk T ns' ∧ x ∈ ns') ?_ ?_
  · walk_at "m"
    have hS := hF.s (w, ns)
    obtain ⟨f, g, s, e⟩ := hS.nm
    refine o_notini' (.tail (.tail s)) ?_
    rw [kAt_nkv]
    dsimp only
    walk_at "m"
    by_cases hx : x ∈ ns
    · rw [if_pos hx]
      refine br_f ?_
      walk_at "m"
      exact joinF_next ns ⟨hn, hx⟩ rfl
    rw [if_neg hx]
    refine br_t ?_
    walk_at "m"
    refine br_f ?_
    walk_at "m"
    refine e_comp (names := ["k"]) (cl := [("names", C)]) ?_ (by rfl) (by rfl) (by rfl) (by decide) (by rfl)
    walk_at "m"
    refine i_dict (.tail (.tail s)) fun it ep => ⟨it, rfl, ?_⟩
    intro D1 L1
    refine ⟨self_key (.tail (.tail .head)), ?_⟩
    refine CP.perm (List.perm_middle (l₁ := [_, _])).symm ?_
    have e0 : f (.idictE (nkv T ns) ep) = f (.idictE (nkv T ns) ep) := rfl
    have len : (nkv T ns).length < 1000 := by unfold nkv; rw [List.length_map]; exact hTl ns hn
    refine cp_key (α := List (Int × Int) × Option D) (fun i z => (L1, .fr [("k", z.2)]) :: (D1, .list (cm z.1)) :: (C, .cell (some (.ref na))) :: (L, .fr [("store", some (.ref a.st)), ("cell", some (.tup [.int 0, .int r])), ("term", some (.tup [.str "v", .int x])), ("place", none)]) :: f (.idictE (nkv T ns) ep))
      (fun i z => z.1 = (ns.take i).map fun y => ((0 : Int), (((T y).getD 0 : Nat) : Int))) ([], none) rfl rfl hr'.h (fun i z _ => Sel.any _ (Sel.any _ (Sel.any _ (Sel.any _ (s.again _).anyOf)))) ?_ ?_
    · rintro i ⟨vs, kk⟩ y v hy hvs
      dsimp only at hvs ⊢
      walk_at "m"
      have hi : i < ns.length := by have := lt_of_get hy; unfold nkv at this; rw [List.length_map] at this; exact this
      have hyi : y = ns[i] ∧ v = .tup [.int 0, .int ((T ns[i]).getD 0 : Nat)] := by
        unfold nkv at hy
        rw [List.getElem?_map, List.getElem?_eq_getElem hi] at hy
        simp only [Option.map_some, Option.some.injEq, Prod.mk.injEq] at hy
        exact ⟨hy.1.symm, hy.2.symm⟩
      obtain ⟨rfl, rfl⟩ := hyi
      refine sb_idictE (.tail (.tail (.tail (.tail (.tail (s.again _)))))) (x := .tup [.int 0, .int ((T ns[i]).getD 0 : Nat)]) (by rw [kAt_nkv, if_pos (List.getElem_mem hi)]) ?_
      refine ⟨cm vs, _, _, .tail (.tail .head), by rw [cm_length, hvs, List.length_map, List.length_take]; have := hTl ns hn; have := sizeLine_big; omega, (vs ++ [((0 : Int), (((T ns[i]).getD 0 : Nat) : Int))], some (.int ns[i])), ?_, ?_⟩
      · dsimp only
        rw [hvs, List.take_succ_eq_append_getElem hi, List.map_append]; rfl
      · rw [show cm (vs ++ [((0 : Int), (((T ns[i]).getD 0 : Nat) : Int))]) = cm vs ++ [.tup [.int 0, .int ((T ns[i]).getD 0 : Nat)]] from cm_append _ _]
    · rintro ⟨vs, kk⟩ hvs
      dsimp only at hvs ⊢
      refine ⟨_, _, _, .head, ?_⟩
      refine OP2.conv (σ := (D1, .list (cm vs)) :: (C, .cell (some (.ref na))) :: (L, .fr [("store", some (.ref a.st)), ("cell", some (.tup [.int 0, .int r])), ("term", some (.tup [.str "v", .int x])), ("place", none)]) :: F (w, ns)) (fun s' hs' => by rw [← e ns]; exact x_unE (.tail (.tail (.tail (s.again _)))) hs') ?_
      refine o_inc hr' (p := (0, (r : Int))) .head ?_
      have nin : ((0 : Int), (r : Int)) ∉ vs := fun hin => by
        have : nkv T ns = ns.map fun x => (x, .tup [.int 0, .int ((T x).getD 0 : Nat)]) := rfl
        rw [this, List.length_map, List.take_length] at hvs
        rw [hvs] at hin
        obtain ⟨y, hy, hyr⟩ := List.mem_map.mp hin
        obtain ⟨r', hr''⟩ := hn.2 y hy
        rw [hr''] at hyr
        simp only [Option.getD_some, Prod.mk.injEq, true_and, Int.natCast_inj] at hyr
        subst hyr
        exact hx (inj y x _ hr'' hT ▸ hy)
      rw [decide_eq_false nin]
      refine ⟨_, rfl, ?_⟩
      walk_at "m"
      refine si_idict (.tail (.tail (.tail s))) (by have := sizeLine_big; show (nkv T ns).length ≤ _; omega) ?_
      rw [show kPut (nkv T ns) x (.tup [.int 0, .int (r : Nat)]) = nkv T (ns ++ [x]) from kPut_nkv hx hT, e]
      refine XS.weak (List.sublist_cons_self _ _) ?_
      walk_at "m"
      refine joinF_next (ns ++ [x]) ⟨⟨?_, ?_⟩, by simp⟩ rfl
      · refine ⟨List.mem_append_left _ hn.1.1, List.nodup_append.mpr ⟨hn.1.2, by simp, fun y hy z hz => ?_⟩⟩
        rw [List.mem_singleton.mp hz]
        rintro rfl
        exact hx hy
      · intro y hy
        rcases List.mem_append.mp hy with hy | hy
        · exact hn.2 y hy
        · rw [List.mem_singleton.mp hy]; exact ⟨r, hT⟩
  · rintro ns' ⟨hn', hx'⟩
    walk_at "m"
    have hS := hF.s (w, ns')
    obtain ⟨f, g, s, e⟩ := hS.nm
    refine sb_idict (.tail (.tail s)) (x := .tup [.int 0, .int r]) (by rw [kAt_nkv, if_pos hx', hT]; rfl) ?_
    walk_at "m"
    refine br_of_t (decide_eq_true rfl) ?_
    walk_at "m"
    refine is_unbound_c k (by walk_at "m:hole") (hr'.mono (by omega)) (.inl ⟨rfl, hr0⟩) h1 h2 ?_
    walk_at "m"
    refine br_of_t (decide_eq_true rfl) ?_
    walk_at "m"
    refine functor_of_c k (by walk_at "m:hole") (hr'.mono (by omega)) h1 (by have := hs.len; omega) (by have := hs.len; omega) (r := -1) (sy' := w.sy) (.inr (.inr (.inr ⟨by simp, by simp, by simp, rfl, rfl⟩))) ?_
    walk_at "m"
    exact h w.sy ns' hs hn'
theorem same_a (k : OKc c) {A : Around} {σ : Sig} {z : Wc × List Int} {F : Wc × List Int → Sig} {P : D → Sig → Prop} {p : Int × Int} {x : Int} (S : Hole (nsig a na T) σ z F) (hr : Rm A 4) (hs : SyOk z.1.sy) (hp : RD z.1.hs z.1.ss T p (.a x)) (hx : x = 0 ∨ x = 4)
    (h1 : z.1.hs.length < 1000000) (h2 : z.1.ss.length < 1000000)
    (h : ∀ sy', SyOk sy' → P (.bool true) (F ({ z.1 with sy := sy' }, z.2))) : CC c A σ (.ref 402) [.ref a.st, .tup [.int p.1, .int p.2], .tup [.str "a", .int x], .ref na] P := by
  have hF := S.all
  obtain rfl := S.eq
  refine cc_def1 (n1 := "store") (n2 := "cell") (n3 := "term") (y := "names") (rest := ["place"]) (by walk_at "m:K") (by walk_at "m:K") hr (fun _ _ _ _ => by rfl) (fun _ => by rfl) (by decide) (by rfl) (by rfl) (by rfl) (by rfl) (by walk_at "m:fr") ?_
  intro L C A' hA' hr'
  refine XS.perm (List.Perm.swap _ _ _) ?_
  obtain ⟨w, ns⟩ := z
  obtain ⟨q, m, hd, hq⟩ := hp
  dsimp only at hs hd hq h1 h2 h
  rw [Rp] at hq
  subst hq
  have hsl := hs.len
  obtain ⟨f1, f2, f3⟩ := hs.fn hx
  have hsl' := f1.len
  walk_at "m"
  refine br_of_f (by decide +kernel) ?_
  walk_at "m"
  refine br_of_t (by decide +kernel) ?_
  walk_at "m"
  refine br_of_t (decide_eq_true rfl) ?_
  walk_at "m"
  refine functor_of_c k (by walk_at "m:hole") (hr'.mono (by omega)) h1 (by show w.sy.fl.length < _; omega) (by show w.sy.kv.length < _; omega) (r := (fnF w.sy x 0).1) (sy' := (fnF w.sy x 0).2) (.inr (.inr (.inl ⟨rfl, rfl, rfl⟩))) ?_
  walk_at "m"
  rw [f2]
  refine br_of_t (by simp) ?_
  walk_at "m"
  exact h _ f1
theorem same_i (k : OKc c) {A : Around} {σ : Sig} {z : Wc × List Int} {F : Wc × List Int → Sig} {P : D → Sig → Prop} {p : Int × Int} {x : Int} (S : Hole (nsig a na T) σ z F) (hr : Rm A 4) (hs : SyOk z.1.sy) (hp : RD z.1.hs z.1.ss T p (.i x))
    (h1 : z.1.hs.length < 1000000) (h2 : z.1.ss.length < 1000000)
    (h : P (.bool true) (F z)) : CC c A σ (.ref 402) [.ref a.st, .tup [.int p.1, .int p.2], .tup [.str "i", .int x], .ref na] P := by
  have hF := S.all
  obtain rfl := S.eq
  refine cc_def1 (n1 := "store") (n2 := "cell") (n3 := "term") (y := "names") (rest := ["place"]) (by walk_at "m:K") (by walk_at "m:K") hr (fun _ _ _ _ => by rfl) (fun _ => by rfl) (by decide) (by rfl) (by rfl) (by rfl) (by rfl) (by walk_at "m:fr") ?_
  intro L C A' hA' hr'
  refine XS.perm (List.Perm.swap _ _ _) ?_
  obtain ⟨w, ns⟩ := z
  obtain ⟨q, m, hd, hq⟩ := hp
  dsimp only at hs hd hq h1 h2 h
  rw [Rp] at hq
  subst hq
  have hsl := hs.len
  walk_at "m"
  refine br_of_f (by decide +kernel) ?_
  walk_at "m"
  refine br_of_f (by decide +kernel) ?_
  walk_at "m"
  refine br_of_t (by decide +kernel) ?_
  walk_at "m"
  refine br_of_t (decide_eq_true rfl) ?_
  walk_at "m"
  refine functor_of_c k (by walk_at "m:hole") (hr'.mono (by omega)) h1 (by show w.sy.fl.length < _; omega) (by show w.sy.kv.length < _; omega) (r := -1) (sy' := w.sy) (.inr (.inr (.inr ⟨by simp, by simp, by simp, rfl, rfl⟩))) ?_
  walk_at "m"
  refine br_t ?_
  walk_at "m"
  refine width_c k (by walk_at "m:hole") (hr'.mono (by omega)) h1 (by show w.sy.fl.length < _; omega) (r := 0) (.inr (.inr ⟨by simp, by simp, rfl⟩)) ?_
  walk_at "m"
  exact h
end
section
variable {c : Cx} {a : Ad} {na : Addr} {T : Int → Option Nat}
theorem same_c (k : OKc c) (inj : TInj T) (hTl : ∀ ns, NsOk T ns → ns.length < 1000) : ∀ (N : Nat) (t : Tm), t.sz ≤ N → ∀ {A : Around} {σ : Sig} {z : Wc × List Int} {F : Wc × List Int → Sig} {P : D → Sig → Prop} {p : Int × Int}, Hole (nsig a na T) σ z F → Rm A (t.dp + 4) → SyOk z.1.sy → RD z.1.hs z.1.ss T p t →
    t.ok → NsOk T z.2 → z.1.hs.length < 1000000 → z.1.ss.length < 1000000 →
    (∀ sy' ns', SyOk sy' → NsOk T ns' → P (.bool true) (F ({ z.1 with sy := sy' }, ns'))) → CC c A σ (.ref 402) [.ref a.st, .tup [.int p.1, .int p.2], t.d, .ref na] P := by
  intro N
  induction N with
  | zero => intro t ht; have := Tm.sz_pos t; omega
  | succ N ih =>
  intro t ht A σ z F P p S hr hs hp hok hn h1 h2 h
  match t, ht, hr, hp, hok with
  | .v x, ht, hr, hp, hok => exact same_v k S (hr.mono (by simp only [Tm.dp]; omega)) inj hTl hs hp hn h1 h2 h
  | .a x, ht, hr, hp, hok => exact same_a k S (hr.mono (by simp only [Tm.dp]; omega)) hs hp hok h1 h2 fun sy' hsy => h sy' _ hsy hn
  | .i x, ht, hr, hp, hok => exact same_i k S (hr.mono (by simp only [Tm.dp]; omega)) hs hp h1 h2 (h _ _ hs hn)
  | .s f ts, ht, hr, hp, hok =>
  have hF := S.all
  obtain rfl := S.eq
  rw [Tm.dp] at hr
  rw [Tm.sz] at ht
  refine cc_def1 (n := Tm.dps ts + 4) (d3 := .tup [.str "s", .int f, .tup (Tm.ds ts)]) (n1 := "store") (n2 := "cell") (n3 := "term") (y := "names") (rest := ["place"]) (by walk_at "m:K") (by walk_at "m:K") (hr.mono (by omega)) (fun _ _ _ _ => by rfl) (fun _ => by rfl) (by decide) (by rfl) (by rfl) (by rfl) (by rfl) (by walk_at "m:fr") ?_
  intro L C A' hA' hr'
  refine XS.perm (List.Perm.swap _ _ _) ?_
  obtain ⟨w, ns⟩ := z
  obtain ⟨q, m, hd, hq⟩ := hp
  dsimp only at hs hd hq h1 h2 h hn
  have hsl := hs.len
  rw [Tm.ok] at hok
  have key : (q.1 = 2 ∨ q.1 = 3) ∧ ((q.1 = 2 ∧ (∃ i : Nat, ∃ t : Int, q.2 = i ∧ w.hs[i]? = some (t, (f : Int))) ∧ w.sy = w.sy) ∨ (q.1 = 3 ∧ (f : Int) = 0 ∧ w.sy = w.sy) ∨ (q.1 = 4 ∧ (f : Int) = (fnF w.sy q.2 0).1 ∧ w.sy = (fnF w.sy q.2 0).2) ∨ (q.1 ≠ 2 ∧ q.1 ≠ 3 ∧ q.1 ≠ 4 ∧ (f : Int) = -1 ∧ w.sy = w.sy)) ∧
      ((q.1 = 3 ∧ (ts.length : Int) = 2) ∨ (q.1 = 2 ∧ ∃ i f : Nat, ∃ t z : Int, q.2 = i ∧ w.hs[i]? = some (t, (f : Int)) ∧ w.sy.fl[f]? = some (z, (ts.length : Int))) ∨ (q.1 ≠ 3 ∧ q.1 ≠ 2 ∧ (ts.length : Int) = 0)) ∧
      ∃ b : Nat, (if q.1 = 3 then q.2 else q.2 + 1) = (b : Int) ∧ RpL w.hs w.ss T b ts := by
    rw [Rp] at hq
    rcases hq with ⟨rfl, l2, b, rfl, hL⟩ | ⟨har, b, rfl, hb, hL⟩
    · exact ⟨.inr rfl, .inr (.inl ⟨rfl, rfl, rfl⟩), .inl ⟨rfl, by omega⟩, b, rfl, hL⟩
    · obtain ⟨zz, hz⟩ := hs.ar har
      exact ⟨.inl rfl, .inl ⟨rfl, ⟨b, 6, rfl, hb⟩, rfl⟩, .inr (.inl ⟨rfl, b, f, 6, zz, rfl, hb, hz⟩), b + 1, by simp, hL⟩
  obtain ⟨k1, k2, k3, b, hb, hL⟩ := key
  have l3 : ts.length ≤ 3 := by have := hok.1; unfold ArOk at this; omega
  walk_at "m"
  refine br_of_f (by decide +kernel) ?_
  walk_at "m"
  refine br_of_f (by decide +kernel) ?_
  walk_at "m"
  refine br_of_f (by decide +kernel) ?_
  walk_at "m"
  refine br_of_f (by rcases k1 with e | e <;> rw [e] <;> rfl) ?_
  walk_at "m"
  refine functor_of_c k (by walk_at "m:hole") (hr'.mono (by omega)) h1 (by show w.sy.fl.length < _; omega) (by show w.sy.kv.length < _; omega) (r := (f : Int)) (sy' := w.sy) k2 ?_
  walk_at "m"
  refine br_of_f (by simp) ?_
  walk_at "m"
  refine width_c k (by walk_at "m:hole") (hr'.mono (by omega)) h1 (by show w.sy.fl.length < _; omega) (r := (ts.length : Int)) k3 ?_
  walk_at "m"
  refine cl_lenT (by rw [Tm.ds_length]; omega) ?_
  rw [Tm.ds_length]
  walk_at "m"
  refine br_of_f (by simp) ?_
  walk_at "m"
  refine x_for ?_
  walk_at "m"
  refine cl_lenT (by rw [Tm.ds_length]; omega) ?_
  rw [Tm.ds_length]
  walk_at "m"
  refine cl_range fun r => ?_
  refine i_rngN .head (by omega) fun it => ⟨_, rfl, ?_⟩
  refine fl_range (α := Sy × List Int × Option D) (fun i y => (r, .rng 0 ts.length 1) :: (C, .cell (some (.ref na))) :: (L, .fr [("store", some (.ref a.st)), ("cell", some (.tup [.int q.1, .int q.2])), ("term", some (.tup [.str "s", .int f, .tup (Tm.ds ts)])), ("place", y.2.2)]) :: F ({ w with sy := y.1 }, y.2.1))
    (fun i y => SyOk y.1 ∧ NsOk T y.2.1) (w.sy, ns, none) ⟨hs, hn⟩ rfl hr'.h ?_ ?_
  · rintro i ⟨sy1, ns1, pl⟩ hi ⟨g1, g2⟩
    dsimp only at g1 g2 ⊢
    have gl := g1.len
    obtain ⟨p1, q1, m1, hb1, hd1, hq1⟩ := hL.get (List.getElem?_eq_getElem hi)
    have lb := lt_of_get hb1
    walk_at "m"
    refine arg_c k (by walk_at "m:hole") (hr'.mono (by omega)) (b := b + i) (by rw [hb]; omega) (by omega) (by exact hb1) ?_
    walk_at "m"
    rw [hb, show (b : Int) + (i : Int) = ((b + i : Nat) : Int) from by omega]
    walk_at "m"
    refine br_of_f (decide_eq_false (by simp)) ?_
    walk_at "m"
    refine arg_c k (by walk_at "m:hole") (hr'.mono (by omega)) (b := b + i) (by rw [hb]; omega) (by omega) (by exact hb1) ?_
    walk_at "m"
    refine sb_tup (k := (i : Int)) (by omega) (by omega) (d := ts[i].d) (by rw [Int.toNat_natCast]; exact Tm.ds_get (List.getElem?_eq_getElem hi)) ?_
    walk_at "m"
    have mem : ts[i] ∈ ts := List.getElem_mem hi
    refine ih ts[i] (by have := Tm.sz_mem mem; omega) (.skip (.skip (.skip (.skip (hF.s _))))) (hr'.mono (by have := Tm.dp_mem mem; omega)) g1 ⟨q1, m1, hd1, hq1⟩ (Tm.ok_mem hok.2 mem) g2 h1 h2 fun sy2 ns2 hsy2 hns2 => ?_
    walk_at "m"
    refine br_f ?_
    walk_at "m"
    exact afterL_next (sy2, ns2, some (.int i)) ⟨hsy2, hns2⟩ rfl
  · rintro ⟨sy1, ns1, pl⟩ ⟨g1, g2⟩
    walk_at "m"
    exact h _ _ g1 g2
end
section
variable {c : Cx} {A : Around} {a : Ad} {σ : Sig} {w : Wc} {F : Wc → Sig} {n : Nat} {P : D → Sig → Prop}
theorem new_blk_c (k : OKc c) (S : Hole (wsig a) σ w F) (hr : Rm A 2) {f n : Nat} (hs : SyOk w.sy) (ho : (f = 0 ∧ n = 2) ∨ ArOk f n) (hlen : w.hs.length + (1 + n) ≤ 100000)
    (h : P (.tup [.int (bc f w.hs.length).1, .int (bc f w.hs.length).2]) (F { w with hs := w.hs ++ bk f n w.hs.length })) : CC c A σ (.ref 321) [.ref a.st, .int f] P := by
  rcases ho with ⟨rfl, rfl⟩ | ha
  · exact new_block0_c k S hr (by omega) h
  · have f0 : f ≠ 0 := by unfold ArOk at ha; omega
    obtain ⟨z, hz⟩ := hs.ar ha
    unfold bc bk at h
    rw [if_neg f0, if_neg f0] at h
    exact new_block_c k S hr f0 hz (by have := hs.len; omega) hlen h
noncomputable def wd (W : List (Nat × List Tm)) : List D := W.map fun e => .tup [.int e.1, .tup (Tm.ds e.2)]
noncomputable def flatW (W : List (Nat × List Tm)) : List (Nat × Tm) := W.flatMap fun e => zipF e.1 e.2
theorem flatW_snoc (W : List (Nat × List Tm)) (n b : Nat) (ts : List Tm) (h : n ≤ W.length) : flatW ((W ++ [(b, ts)]).drop n) = flatW (W.drop n) ++ zipF b ts := by
  unfold flatW
  rw [List.drop_append_of_le_length h, List.flatMap_append]
  simp
theorem flatW_cons {W : List (Nat × List Tm)} {n b : Nat} {ts : List Tm} (h : W[n]? = some (b, ts)) : flatW (W.drop n) = zipF b ts ++ flatW (W.drop (n + 1)) := by
  have l := lt_of_get h
  rw [List.drop_eq_getElem_cons l]
  have : W[n] = (b, ts) := by rw [List.getElem?_eq_getElem l] at h; exact Option.some.inj h
  rw [this]
  unfold flatW
  rw [List.flatMap_cons]
theorem wd_snoc (W : List (Nat × List Tm)) (b : Nat) (ts : List Tm) : wd W ++ [.tup [.int (b : Nat), .tup (Tm.ds ts)]] = wd (W ++ [(b, ts)]) := by unfold wd; rw [List.map_append]; rfl
theorem put_term_c (k : OKc c) {td : Addr} (S : Hole (wsig a) σ w F) (hr : Rm A 6) {i : Nat} {t : Tm} {dt : D} {B N : Nat} (hdt : dt = t.d) (hok : t.ok) (hs : SyOk w.sy) (hhs : w.hs = [(0, 0)]) (hss : w.ss = List.replicate i (5, 0) ++ [(1, (i : Int))]) (hi : i < 100)
    (hB : 3 + t.nd ≤ B) (hB' : B ≤ 1000) (hN : 3 + t.sz ≤ N) (hN' : N ≤ 900)
    (h : ∀ hs' tb q, PtOk hs' tb B N → Rp hs' (List.replicate i (5, 0) ++ [(0, 1)]) (tAt tb) q t → P (cellD q) (F { w with hs := hs', ss := List.replicate i (5, 0) ++ [(0, 1)] })) :
    CC c A ((td, .idict [(0, .tup [.int 0, .int 0]), (1, .tup [.int 1, .int i])]) :: σ) (.ref 364) [.ref a.st, dt, .ref td] P := by
  have hF := S.all
  obtain rfl := S.eq
  refine cc_def (names := ["self", "term", "table"]) (rest := ["k", "kind", "made", "waiting", "at", "place", "items", "item", "inner"]) (by walk_at "m:K") (by walk_at "m:K") hr (by walk_at "m:bind") (by rfl) (by decide) (by rfl) (by rfl) (by walk_at "m:fr") ?_
  intro L A' hA' hr'
  refine XS.perm (List.Perm.swap _ _ _) ?_
  have zz := sizeLine_big
  have hsi : w.ss[i]? = some (1, (i : Int)) := by rw [hss, List.getElem?_append_right (by simp)]; simp
  have lhs : w.hs.length = 1 := by rw [hhs]; rfl
  have lss : w.ss.length = i + 1 := by rw [hss]; simp
  refine x_for ?_
  walk_at "m"
  refine cl_listD hr' .head (by simp only [List.length_cons, List.length_nil]; omega) fun la => ?_
  refine i_list .head fun it => ⟨_, rfl, ?_⟩
  refine fl_turn ?_
  refine n_list .head (.tail .head) (d := .int 0) rfl ?_
  walk_at "m"
  refine sb_idict (.tail (.tail .head)) (x := .tup [.int 0, .int 0]) rfl ?_
  walk_at "m"
  refine br_f ?_
  walk_at "m"
  refine contL_next ?_
  refine fl_turn ?_
  refine n_list .head (.tail .head) (d := .int 1) rfl ?_
  walk_at "m"
  refine sb_idict (.tail (.tail .head)) (x := .tup [.int 1, .int i]) rfl ?_
  walk_at "m"
  refine br_t ?_
  walk_at "m"
  refine sb_idict (.tail (.tail .head)) (x := .tup [.int 1, .int i]) rfl ?_
  walk_at "m"
  refine glob1_c k (by walk_at "m:hole") (hr'.mono (by omega)) hsi (by omega) (by omega) ?_
  walk_at "m"
  refine si_idict (.tail (.tail .head)) (by simp only [List.length_cons, List.length_nil]; omega) ?_
  have e1 : w.hs ++ [(0, (w.hs.length : Int))] = [(0, 0), (0, 1)] := by rw [hhs]; rfl
  have e2 : w.ss.set i (0, (w.hs.length : Int)) = List.replicate i (5, 0) ++ [(0, 1)] := by rw [hss, lhs, List.set_append_right _ _ (by simp)]; simp
  have e3 : kPut [(0, D.tup [.int 0, .int 0]), (1, D.tup [.int 1, .int i])] 1 (D.tup [.int 0, .int (w.hs.length : Int)]) = tkv [(0, 0), (1, 1)] := by rw [lhs]; rfl
  rw [e1, e2, e3]
  walk_at "m"
  refine contL_next ?_
  refine fl_turn ?_
  refine n_list0 .head (.tail .head) hr'.h (by simp [im]) ?_
  refine contF_next (XS.weak (List.sublist_cons_self _ _) ?_)
  cases t with
  | a x =>
    rw [Tm.d] at hdt
    subst hdt
    walk_at "m"
    refine br_of_f (by decide +kernel) ?_
    walk_at "m"
    refine br_of_t (by decide +kernel) ?_
    walk_at "m"
    exact h _ [(0, 0), (1, 1)] (4, x) (PtOk_0 (by omega) (by omega)) (by rw [Rp])
  | i x =>
    rw [Tm.d] at hdt
    subst hdt
    walk_at "m"
    refine br_of_f (by decide +kernel) ?_
    walk_at "m"
    refine br_of_f (by decide +kernel) ?_
    walk_at "m"
    refine br_of_t (by decide +kernel) ?_
    walk_at "m"
    exact h _ [(0, 0), (1, 1)] (5, x) (PtOk_0 (by omega) (by omega)) (by rw [Rp])
  | v x =>
    rw [Tm.d] at hdt
    subst hdt
    walk_at "m"
    refine br_of_t (by decide +kernel) ?_
    walk_at "m"
    refine o_notini' .head ?_
    rw [kAt_tkv]
    walk_at "m"
    cases hx : tAt [(0, 0), (1, 1)] x with
    | some r =>
      have p0 := PtOk_0 (B := B) (N := N) (by omega) (by omega)
      refine br_f ?_
      walk_at "m"
      refine sb_idict .head (x := .tup [.int 0, .int (r : Nat)]) (by rw [kAt_tkv, hx]; rfl) ?_
      walk_at "m"
      exact h _ [(0, 0), (1, 1)] (0, (r : Int)) p0 (by rw [Rp]; exact ⟨r, hx, rfl, p0.root x r hx⟩)
    | none =>
      have p0 := PtOk_var (B := B) (N := N) (by omega) (by omega) hx
      have hx' : tAt ([(0, 0), (1, 1)] ++ [(x, 2)]) x = some 2 := by rw [tAt_new hx, if_pos rfl]
      refine br_t ?_
      walk_at "m"
      refine si_idict .head (by simp only [tkv, List.length_map, List.length_cons, List.length_nil]; omega) ?_
      rw [show kPut (tkv [(0, 0), (1, 1)]) x (D.tup [.int 0, .int (([((0 : Int), (0 : Int)), (0, 1)] : List (Int × Int)).length : Int)]) = tkv ([(0, 0), (1, 1)] ++ [(x, 2)]) from kPut_tkv hx]
      walk_at "m"
      refine sb_idict .head (x := .tup [.int 0, .int ((2 : Nat) : Int)]) (by rw [kAt_tkv, hx']; rfl) ?_
      walk_at "m"
      exact h _ ([(0, 0), (1, 1)] ++ [(x, 2)]) (0, ((2 : Nat) : Int)) p0 (by rw [Rp]; exact ⟨2, hx', rfl, p0.root x 2 hx'⟩)
  | s f ts =>
    rw [Tm.d] at hdt
    subst hdt
    have hok' := hok
    rw [Tm.ok] at hok'
    obtain ⟨ho, hoks⟩ := hok'
    have hnd : (Tm.s f ts).nd = 1 + ts.length + Tm.nds ts := by rw [Tm.nd]
    rw [hnd] at hB
    walk_at "m"
    refine br_of_f (by decide +kernel) ?_
    walk_at "m"
    refine br_of_f (by decide +kernel) ?_
    walk_at "m"
    refine br_of_f (by decide +kernel) ?_
    walk_at "m"
    refine new_blk_c k (by walk_at "m:hole") (hr'.mono (by omega)) (by exact hs) ho (by simp only [List.length_cons, List.length_nil]; omega) ?_
    walk_at "m"
    intro wa
    rw [bc_base]
    walk_at "m"
    refine x_while ?_
    have hsz : (Tm.s f ts).sz = 1 + Tm.szs ts := by rw [Tm.sz]
    have fl1 : flatW (List.drop 0 [(bb f 2, ts)]) = zipF (bb f 2) ts := by unfold flatW; simp
    refine wl_inv (α := List (Int × Int) × List (Int × Nat) × List (Nat × List Tm) × Nat × Option D × Option D × Option D × Option D × Option D) (fun z => psz (flatW (z.2.2.1.drop z.2.2.2.1)) + (z.2.2.1.length - z.2.2.2.1))
      (fun z => (wa, .list (wd z.2.2.1)) :: (td, .idict (tkv z.2.1)) :: (L, .fr [("self", some (.ref a.st)), ("term", some (.tup [.str "s", .int f, .tup (Tm.ds ts)])), ("table", some (.ref td)), ("k", some (.int 1)), ("kind", z.2.2.2.2.1), ("made", some (.tup [.int (bc f 2).1, .int (bc f 2).2])), ("waiting", some (.ref wa)), ("at", some (.int (z.2.2.2.1 : Nat))), ("place", z.2.2.2.2.2.1), ("items", z.2.2.2.2.2.2.1), ("item", z.2.2.2.2.2.2.2.1), ("inner", z.2.2.2.2.2.2.2.2)]) :: F { sy := w.sy, hs := z.1, ss := List.replicate i (5, 0) ++ [(0, 1)] })
      (fun z => PI (List.replicate i (5, 0) ++ [(0, 1)]) B N (bc f 2) (.s f ts) z.1 z.2.1 (flatW (z.2.2.1.drop z.2.2.2.1)) ∧ z.2.2.2.1 ≤ z.2.2.1.length ∧ z.2.2.1.length + psz (flatW (z.2.2.1.drop z.2.2.2.1)) ≤ N)
      ([(0, 0), (0, 1)] ++ bk f ts.length 2, [(0, 0), (1, 1)], [(bb f 2, ts)], 0, _, _, _, _, _) ⟨by rw [fl1]; exact PI.start hok (by rw [hnd]; omega) (by omega), Nat.zero_le _, by rw [fl1, psz_zip]; simp only [List.length_cons, List.length_nil]; omega⟩ rfl ?_
    rintro ⟨H, tb, W, at0, o1, o2, o3, o4, o5⟩ ⟨g1, g2, g3⟩
    dsimp only at g1 g2 g3 ⊢
    walk_at "m"
    refine cl_len .head (by unfold wd; rw [List.length_map]; omega) ?_
    rw [show (wd W).length = W.length from List.length_map ..]
    walk_at "m"
    refine br_by (fun e => ?_) (fun e => ?_)
    · have e := of_decide_eq_true e
      have la : at0 < W.length := by omega
      obtain ⟨b, its, hW⟩ : ∃ b its, W[at0]? = some (b, its) := ⟨_, _, List.getElem?_eq_getElem la⟩
      have fc := flatW_cons hW
      walk_at "m"
      refine sb_list (k := (at0 : Int)) .head (by omega) (by omega) (d := .tup [.int (b : Nat), .tup (Tm.ds its)]) (by rw [Int.toNat_natCast]; unfold wd; rw [List.getElem?_map, hW]; rfl) ?_
      refine a_tup2 hr' ?_
      walk_at "m"
      rw [show (at0 : Int) + 1 = ((at0 + 1 : Nat) : Int) from by omega]
      refine x_for ?_
      walk_at "m"
      refine i_tup fun iu => ⟨_, rfl, ?_⟩
      refine fl_tup (α := List (Int × Int) × List (Int × Nat) × List (Nat × List Tm) × Option D × Option D × Option D)
        (fun j y => (wa, .list (wd y.2.2.1)) :: (td, .idict (tkv y.2.1)) :: (L, .fr [("self", some (.ref a.st)), ("term", some (.tup [.str "s", .int f, .tup (Tm.ds ts)])), ("table", some (.ref td)), ("k", some (.int 1)), ("kind", y.2.2.2.1), ("made", some (.tup [.int (bc f 2).1, .int (bc f 2).2])), ("waiting", some (.ref wa)), ("at", some (.int ((at0 + 1 : Nat) : Int))), ("place", some (.int ((b + j : Nat) : Int))), ("items", some (.tup (Tm.ds its))), ("item", y.2.2.2.2.1), ("inner", y.2.2.2.2.2)]) :: F { sy := w.sy, hs := y.1, ss := List.replicate i (5, 0) ++ [(0, 1)] })
        (fun j y => PI (List.replicate i (5, 0) ++ [(0, 1)]) B N (bc f 2) (.s f ts) y.1 y.2.1 (zipF (b + j) (its.drop j) ++ flatW (y.2.2.1.drop (at0 + 1))) ∧ at0 + 1 ≤ y.2.2.1.length ∧ y.2.2.1.length + psz (zipF (b + j) (its.drop j) ++ flatW (y.2.2.1.drop (at0 + 1))) ≤ W.length + psz (flatW (W.drop at0)))
        (H, tb, W, o1, o4, o5) ⟨by show PI _ _ _ _ _ H tb (zipF b its ++ flatW (W.drop (at0 + 1))); rw [← fc]; exact g1, la, by show W.length + psz (zipF b its ++ flatW (W.drop (at0 + 1))) ≤ _; rw [← fc]; exact Nat.le_refl _⟩ rfl hr'.h ?_ ?_
      · rintro j ⟨H1, tb1, W1, p1, p2, p3⟩ d hd ⟨i1, i2, i3⟩
        dsimp only at i1 i2 i3 ⊢
        have lj : j < its.length := by have := lt_of_get hd; rw [Tm.ds_length] at this; exact this
        obtain ⟨u, hu⟩ : ∃ u, its[j]? = some u := ⟨_, List.getElem?_eq_getElem lj⟩
        have hdu : d = u.d := by have := Tm.ds_get hu; rw [hd] at this; exact Option.some.inj this
        have hdr : its.drop j = u :: its.drop (j + 1) := by
          rw [List.drop_eq_getElem_cons lj]
          rw [List.getElem?_eq_getElem lj] at hu
          rw [Option.some.inj hu]
        rw [hdr, zipF, List.cons_append] at i1 i3
        rw [psz_cons] at i3
        have lp := lt_of_get (i1.own _ (.head _))
        have lenB := i1.len
        have up := Tm.sz_pos u
        dsimp only at lp i3 up
        have e5 : ((b + j : Nat) : Int) + 1 = ((b + (j + 1) : Nat) : Int) := by omega
        cases u with
        | a x =>
          rw [Tm.d] at hdu
          subst hdu
          walk_at "m"
          refine br_of_f (by decide +kernel) ?_
          walk_at "m"
          refine br_of_t (by decide +kernel) ?_
          walk_at "m"
          refine afterL_next (H1.set (b + j) (4, x), tb1, W1, some (.str "a"), some (.tup [.str "a", .int x]), p3) ⟨i1.atom, i2, show W1.length + psz (zipF (b + j + 1) (its.drop (j + 1)) ++ flatW (W1.drop (at0 + 1))) ≤ _ by omega⟩ ?_
          simp only [e5, Int.toNat_natCast]
        | i x =>
          rw [Tm.d] at hdu
          subst hdu
          walk_at "m"
          refine br_of_f (by decide +kernel) ?_
          walk_at "m"
          refine br_of_f (by decide +kernel) ?_
          walk_at "m"
          refine br_of_t (by decide +kernel) ?_
          walk_at "m"
          refine afterL_next (H1.set (b + j) (5, x), tb1, W1, some (.str "i"), some (.tup [.str "i", .int x]), p3) ⟨i1.int, i2, show W1.length + psz (zipF (b + j + 1) (its.drop (j + 1)) ++ flatW (W1.drop (at0 + 1))) ≤ _ by omega⟩ ?_
          simp only [e5, Int.toNat_natCast]
        | v x =>
          rw [Tm.d] at hdu
          subst hdu
          walk_at "m"
          refine br_of_t (by decide +kernel) ?_
          walk_at "m"
          refine o_ini (.tail (.tail .head)) ?_
          rw [kAt_tkv]
          walk_at "m"
          cases hx : tAt tb1 x with
          | some r =>
            refine br_t ?_
            walk_at "m"
            refine sb_idict (.tail (.tail .head)) (x := .tup [.int 0, .int (r : Nat)]) (by rw [kAt_tkv, hx]; rfl) ?_
            walk_at "m"
            refine afterL_next (H1.set (b + j) (0, (r : Int)), tb1, W1, some (.str "v"), some (.tup [.str "v", .int x]), p3) ⟨i1.known hx, i2, show W1.length + psz (zipF (b + j + 1) (its.drop (j + 1)) ++ flatW (W1.drop (at0 + 1))) ≤ _ by omega⟩ ?_
            simp only [e5, Int.toNat_natCast]
          | none =>
            refine br_f ?_
            walk_at "m"
            refine si_idict (.tail (.tail .head)) (by have := i1.cnt; unfold tkv; rw [List.length_map]; omega) ?_
            rw [kPut_tkv hx]
            walk_at "m"
            refine afterL_next (H1, tb1 ++ [(x, b + j)], W1, some (.str "v"), some (.tup [.str "v", .int x]), p3) ⟨i1.fresh hx, i2, show W1.length + psz (zipF (b + j + 1) (its.drop (j + 1)) ++ flatW (W1.drop (at0 + 1))) ≤ _ by omega⟩ ?_
            simp only [e5, Int.toNat_natCast]
        | s f' ts' =>
          rw [Tm.d] at hdu
          subst hdu
          have ho' := i1.ok _ (.head _)
          simp only [Tm.ok] at ho'
          obtain ⟨ho', hoks'⟩ := ho'
          obtain ⟨kl, kb⟩ := bk_len (len := H1.length) ho'
          have hnd' : (Tm.s f' ts').nd = 1 + ts'.length + Tm.nds ts' := by rw [Tm.nd]
          have hsz' : (Tm.s f' ts').sz = 1 + Tm.szs ts' := by rw [Tm.sz]
          rw [pnd_cons] at lenB
          simp only [hnd'] at lenB
          walk_at "m"
          refine br_of_f (by decide +kernel) ?_
          walk_at "m"
          refine br_of_f (by decide +kernel) ?_
          walk_at "m"
          refine br_of_f (by decide +kernel) ?_
          walk_at "m"
          refine new_blk_c k (by walk_at "m:hole") (hr'.mono (by omega)) (by exact hs) ho' (by show H1.length + _ ≤ _; omega) ?_
          walk_at "m"
          refine mt_append (.tail .head) ?_
          walk_at "m"
          rw [bc_base]
          refine ⟨wd W1, _, _, .tail .head, by unfold wd; rw [List.length_map]; omega, ?_⟩
          rw [wd_snoc]
          walk_at "m"
          have i1' := i1.grow
          have fs := flatW_snoc W1 (at0 + 1) (bb f' H1.length) ts' i2
          refine afterL_next ((H1 ++ bk f' ts'.length H1.length).set (b + j) (bc f' H1.length), tb1, W1 ++ [(bb f' H1.length, ts')], some (.str "s"), some (.tup [.str "s", .int f', .tup (Tm.ds ts')]), some (.tup [.int (bc f' H1.length).1, .int (bc f' H1.length).2])) ⟨?_, ?_, ?_⟩ ?_
          · dsimp only
            rw [fs, ← List.append_assoc]
            exact i1'
          · dsimp only
            rw [List.length_append]; omega
          · dsimp only
            rw [fs, ← List.append_assoc, psz_app, psz_zip, List.length_append]
            show W1.length + 1 + (psz (zipF (b + j + 1) (its.drop (j + 1)) ++ flatW (W1.drop (at0 + 1))) + _) ≤ _
            omega
          · simp only [e5, Int.toNat_natCast]
      · rintro ⟨H1, tb1, W1, p1, p2, p3⟩ ⟨i1, i2, i3⟩
        rw [Tm.ds_length] at i1 i3
        rw [List.drop_length, zipF, List.nil_append] at i1 i3
        dsimp only at i1 i2 i3
        walk_at "m"
        exact afterL_next (H1, tb1, W1, at0 + 1, _, _, _, _, _) ⟨⟨i1, i2, by dsimp only; omega⟩, by dsimp only; omega⟩ rfl
    · have e := of_decide_eq_false e
      have ea : at0 = W.length := by omega
      have fe : flatW (W.drop at0) = [] := by rw [ea, List.drop_length]; rfl
      rw [fe] at g1
      walk_at "m"
      refine retP_skip ?_
      walk_at "m"
      exact h H tb (bc f 2) g1.out g1.done
end
section
variable {c : Cx}
theorem tables (k : OKc c) : ∃ ds rs : List D, (ds.all isStrD = true ∧ rs.all isRowD = true ∧ ds.length ≤ 100 ∧ rs.length ≤ 100 ∧ SyOk (rs.foldl rowD (ds.foldl atD y00))) ∧
    (∀ {A : Around} {σ : Sig} {P : D → Sig → Prop}, Rm A 1 → P (.tup ds) σ → CC c A σ (.ref 60) [] P) ∧ ∀ {A : Around} {σ : Sig} {P : D → Sig → Prop}, Rm A 1 → P (.tup rs) σ → CC c A σ (.ref 67) [] P := by
  refine' ⟨_, _, ?g, ?h1, ?h2⟩
  case h1 =>
    intro A σ P hr h
    refine cc_def (names := []) (rest := []) (by walk_at "m:K") (by walk_at "m:K") hr (by walk_at "m:bind") (by rfl) (by decide) (by rfl) (by rfl) (by walk_at "m:fr") ?_
    intro L A' hA' hr'
    walk_at "m"
    exact h
  case h2 =>
    intro A σ P hr h
    refine cc_def (names := []) (rest := []) (by walk_at "m:K") (by walk_at "m:K") hr (by walk_at "m:bind") (by rfl) (by decide) (by rfl) (by rfl) (by walk_at "m:fr") ?_
    intro L A' hA' hr'
    walk_at "m"
    exact h
  case g => exact ⟨by rfl, by rfl, by decide, by decide, by unfold SyOk; decide +kernel⟩
end
section
variable {c : Cx}
theorem sym_init (k : OKc c) {A : Around} {σ : Sig} {P : D → Sig → Prop} {x dx : Addr} (hr : Rm A 4) (h : ∀ tx an fs fn y, SyOk y → P .none (ssig ⟨x, dx, tx, an, fs, fn, 0, 0, 0, 0, 0⟩ y ++ σ)) :
    CC c A ((x, .inst 154 dx) :: (dx, .ns [("texts", none), ("atom_numbers", none), ("functors", none), ("functor_numbers", none)] 0) :: σ) (.ref 81) [.ref x] P := by
  obtain ⟨ds, rs, ⟨g1, g2, g3, g4, g5⟩, hca, hcb⟩ := tables k
  refine cc_def (names := ["self"]) (rest := ["text", "row"]) (by walk_at "m:K") (by walk_at "m:K") hr (by walk_at "m:bind") (by rfl) (by decide) (by rfl) (by rfl) (by walk_at "m:fr") ?_
  intro L A' hA' hr'
  walk_at "m"
  intro tx
  walk_at "m"
  refine pa_inst (.tail (.tail .head)) (.tail (.tail (.tail .head))) (by walk_at "m:upd") (po_texts k) (by decide) ?_
  refine x_asg (e_dictS fun an => ?_)
  walk_at "m"
  refine pa_inst (.tail (.tail (.tail .head))) (.tail (.tail (.tail (.tail .head)))) (by walk_at "m:upd") (po_atom_numbers k) (by decide) ?_
  walk_at "m"
  intro fs
  walk_at "m"
  refine pa_inst (.tail (.tail (.tail (.tail .head)))) (.tail (.tail (.tail (.tail (.tail .head))))) (by walk_at "m:upd") (po_functors k) (by decide) ?_
  refine x_asg (e_dictT fun fn => ?_)
  walk_at "m"
  refine pa_inst (.tail (.tail (.tail (.tail (.tail .head))))) (.tail (.tail (.tail (.tail (.tail (.tail .head)))))) (by walk_at "m:upd") (po_functor_numbers k) (by decide) ?_
  refine XS.perm (σ' := (L, .fr [("self", some (.ref x)), ("text", none), ("row", none)]) :: (x, .inst 154 dx) :: (dx, .ns [("texts", some (.ref tx)), ("atom_numbers", some (.ref an)), ("functors", some (.ref fs)), ("functor_numbers", some (.ref fn))] 4) :: (tx, .list []) :: (an, .sdict []) :: (fs, .list []) :: (fn, .tdict []) :: σ) (by walk_at "m:perm") ?_
  obtain ⟨a, e1, e2, e3, e4, e5, e6⟩ : ∃ a : Ad, a.sg = x ∧ a.sgd = dx ∧ a.tx = tx ∧ a.an = an ∧ a.fs = fs ∧ a.fn = fn := ⟨⟨x, dx, tx, an, fs, fn, 0, 0, 0, 0, 0⟩, rfl, rfl, rfl, rfl, rfl, rfl⟩
  subst e1; subst e2; subst e3; subst e4; subst e5; subst e6
  have hend : ∀ y, SyOk y → P .none (ssig a y ++ σ) := fun y hy => h a.tx a.an a.fs a.fn y hy
  obtain ⟨F, hF, e⟩ : ∃ F, HF (ssig a) F ∧ ∀ y, F y = ssig a y ++ σ := ⟨fun y => ssig a y ++ σ, fun y => Hole.here, fun _ => rfl⟩
  show XS c A' _ ((L, .fr [("self", some (.ref a.sg)), ("text", none), ("row", none)]) :: (ssig a y00 ++ σ)) _ _
  rw [← e]
  have l0 : y00.le 0 := ⟨Nat.le_refl _, Nat.le_refl _, Nat.le_refl _, Nat.le_refl _⟩
  have l1 := fold_at (ds := ds) l0
  refine x_for ?_
  walk_at "m"
  refine hca (hr'.mono (by omega)) ?_
  refine i_tup fun it => ⟨_, rfl, ?_⟩
  refine fl_tup (α := Option D) (fun i z => (L, .fr [("self", some (.ref a.sg)), ("text", z), ("row", none)]) :: F ((ds.take i).foldl atD y00)) (fun _ _ => True) none trivial rfl hr'.h ?_ ?_
  · intro i z d hd _
    have hd' : d = .str (unstr d) := isStrD_of (List.all_eq_true.mp g1 d (List.mem_of_getElem? hd))
    have li : i < 100 := by have := lt_of_get hd; omega
    have l2 := fold_at (ds := ds.take i) l0
    rw [List.length_take] at l2
    obtain ⟨m1, m2, m3, m4⟩ := l2
    rw [take_fold hd, hd']
    walk_at "m"
    exact afterL_next (some (.str (unstr d))) trivial rfl
  · intro z _
    rw [List.take_length]
    refine contF_next ?_
    refine x_for ?_
    walk_at "m"
    refine hcb (hr'.mono (by omega)) ?_
    refine i_tup fun iu => ⟨_, rfl, ?_⟩
    refine fl_tup (α := Option D) (fun i y => (L, .fr [("self", some (.ref a.sg)), ("text", z), ("row", y)]) :: F ((rs.take i).foldl rowD (ds.foldl atD y00))) (fun _ _ => True) none trivial rfl hr'.h ?_ ?_
    · intro i y d hd _
      have hd' : d = .tup [.str (rowS d), .int (rowI d)] := isRowD_of (List.all_eq_true.mp g2 d (List.mem_of_getElem? hd))
      have li : i < 100 := by have := lt_of_get hd; omega
      have l2 := fold_row (ds := rs.take i) l1
      rw [List.length_take] at l2
      have l3 := atF_le l2 (rowS d)
      obtain ⟨m1, m2, m3, m4⟩ := l2
      obtain ⟨m5, m6, m7, m8⟩ := l3
      rw [take_fold hd]
      generalize hY : (rs.take i).foldl rowD (ds.foldl atD y00) = Y at m1 m2 m3 m4 m5 m6 m7 m8 ⊢
      have hR : rowD Y d = (fnF (atF Y (rowS d)).2 (atF Y (rowS d)).1 (rowI d)).2 := rfl
      rw [hR, hd']
      simp only [rowS, rowI]
      walk_at "m"
      refine func_c k (by walk_at "m:hole") (hr'.mono (by omega)) (by omega) (by omega) (Nat.lt_of_le_of_lt m7 (by omega)) (Nat.lt_of_le_of_lt m8 (by omega)) ?_
      walk_at "m"
      exact afterL_next _ trivial rfl
    · intro y _
      rw [List.take_length]
      walk_at "m"
      rw [e]
      exact hend _ g5
theorem sym_c (k : OKc c) {A : Around} {σ : Sig} {P : D → Sig → Prop} (hr : Rm A 5) (h : ∀ a y, SyOk y → P (.ref a.sg) (ssig a y ++ σ)) : CC c A σ (.ref 154) [] P :=
  cc_cls (n := 4) (names := ["texts", "atom_numbers", "functors", "functor_numbers"]) (mk_154 k) (in_154 k) (fn_154 k) hr (by decide) rfl fun x dx A' hr' => by
    refine sym_init k hr' fun tx an fs fn y hy => ⟨rfl, h ⟨x, dx, tx, an, fs, fn, 0, 0, 0, 0, 0⟩ y hy⟩
theorem store_c (k : OKc c) {A : Around} {σ : Sig} {P : D → Sig → Prop} {sg : Addr} (hr : Rm A 5)
    (h : ∀ st std hp sk tr, P (.ref st) ((st, .inst 374 std) :: (std, .ns [("symbols", some (.ref sg)), ("max_heap", some (.int 100000)), ("heap", some (.ref hp)), ("stack", some (.ref sk)), ("trail", some (.ref tr)), ("hb", some (.int 0)), ("bb", some (.int 0))] 7) :: (hp, .list []) :: (sk, .list []) :: (tr, .list []) :: σ)) :
    CC c A σ (.ref 374) [.ref sg] P :=
  cc_cls (n := 4) (names := ["symbols", "max_heap", "heap", "stack", "trail", "hb", "bb"]) (mk_374 k) (in_374 k) (fn_374 k) hr (by decide) rfl fun x dx A' hr' => by
    refine cc_def (ds' := [.ref x, .ref sg, .int 100000]) (names := ["self", "symbols", "max_heap"]) (rest := []) (by walk_at "m:K") (by walk_at "m:K") hr' ?_ (by rfl) (by decide) (by rfl) (by rfl) (by walk_at "m:fr") ?_
    · intro s vs X r
      cases r with | @cons v1 _ _ _ r1 r => cases r with | @cons v2 _ _ _ r2 r =>
      cases r
      exact ⟨[v1, v2, _], binds_K (T := 188) X rfl (by walk_at "m:K") rfl rfl rfl, .cons r1 (.cons r2 (.cons (.int _ _) .nil))⟩
    intro L A' hA' hr'
    simp only [List.map_cons, List.map_nil]
    walk_at "m"
    refine pa_inst (.tail .head) (.tail (.tail .head)) (by walk_at "m:upd") (po_symbols k) (by decide) ?_
    walk_at "m"
    refine pa_inst (.tail .head) (.tail (.tail .head)) (by walk_at "m:upd") (po_max_heap k) (by decide) ?_
    walk_at "m"
    intro hp
    walk_at "m"
    refine pa_inst (.tail (.tail .head)) (.tail (.tail (.tail .head))) (by walk_at "m:upd") (po_heap k) (by decide) ?_
    walk_at "m"
    intro sk
    walk_at "m"
    refine pa_inst (.tail (.tail (.tail .head))) (.tail (.tail (.tail (.tail .head)))) (by walk_at "m:upd") (po_stack k) (by decide) ?_
    walk_at "m"
    intro tr
    walk_at "m"
    refine pa_inst (.tail (.tail (.tail (.tail .head)))) (.tail (.tail (.tail (.tail (.tail .head))))) (by walk_at "m:upd") (po_trail k) (by decide) ?_
    walk_at "m"
    refine pa_inst (.tail (.tail (.tail (.tail .head)))) (.tail (.tail (.tail (.tail (.tail .head))))) (by walk_at "m:upd") (po_hb k) (by decide) ?_
    walk_at "m"
    refine pa_inst (.tail (.tail (.tail (.tail .head)))) (.tail (.tail (.tail (.tail (.tail .head))))) (by walk_at "m:upd") (po_bb k) (by decide) ?_
    refine XS.perm (σ' := (L, .fr [("self", some (.ref x)), ("symbols", some (.ref sg)), ("max_heap", some (.int 100000))]) :: (x, .inst 374 dx) :: (dx, .ns [("symbols", some (.ref sg)), ("max_heap", some (.int 100000)), ("heap", some (.ref hp)), ("stack", some (.ref sk)), ("trail", some (.ref tr)), ("hb", some (.int 0)), ("bb", some (.int 0))] 7) :: (hp, .list []) :: (sk, .list []) :: (tr, .list []) :: σ) (by walk_at "m:perm") ?_
    walk_at "m"
    exact h x dx hp sk tr
end
section
variable {c : Cx}
noncomputable abbrev lf (o1 o2 o3 o4 o5 o6 o7 o8 o9 o10 o11 o12 o13 o14 o15 o16 o17 : Option D) : List (Str × Option D) :=
  [("script", o1), ("signs", o2), ("first", o3), ("names", o4), ("items", o5), ("draw", o6), ("item", o7), ("whole", o8), ("end", o9), ("told", o10), ("last", o11), ("due", o12), ("flat", o13), ("place", o14), ("three", o15), ("made", o16), ("held", o17)]
noncomputable def pd (its : List ((Int × Int) × Tm)) : List D := its.map fun e => .tup [cellD e.1, e.2.d]
theorem pd_len (its : List ((Int × Int) × Tm)) : (pd its).length = its.length := List.length_map ..
theorem map_get {α β : Type} {f : α → β} {l : List α} {j : Nat} {p : β} (h : (l.map f)[j]? = some p) : ∃ e, l[j]? = some e ∧ p = f e := by
  rw [List.getElem?_map] at h
  cases e : l[j]? with
  | none => rw [e] at h; cases h
  | some x => rw [e] at h; exact ⟨x, rfl, (Option.some.inj h).symm⟩
theorem pd_get {its : List ((Int × Int) × Tm)} {j : Nat} {d : D} (h : (pd its)[j]? = some d) : ∃ e, its[j]? = some e ∧ d = .tup [cellD e.1, e.2.d] := map_get h
theorem cm_take_len (its : List ((Int × Int) × Tm)) (j : Nat) (h : its.length ≤ 1000) : (cm ((its.take j).map (·.1))).length ≤ sizeLine := by
  rw [cm_length, List.length_map, List.length_take]; have := sizeLine_big; omega
theorem ds_take_len (its : List ((Int × Int) × Tm)) (j : Nat) (h : its.length ≤ 1000) : (Tm.ds ((its.take j).map (·.2))).length ≤ sizeLine := by
  rw [Tm.ds_length, List.length_map, List.length_take]; have := sizeLine_big; omega
theorem cm_take_snoc {its : List ((Int × Int) × Tm)} {j : Nat} {e : (Int × Int) × Tm} (h : its[j]? = some e) : cm ((its.take j).map (·.1)) ++ [.tup [.int e.1.1, .int e.1.2]] = cm ((its.take (j + 1)).map (·.1)) := by
  rw [List.take_add_one, h, List.map_append, cm_append]; rfl
theorem ds_take_snoc {its : List ((Int × Int) × Tm)} {j : Nat} {e : (Int × Int) × Tm} (h : its[j]? = some e) : Tm.ds ((its.take j).map (·.2)) ++ [e.2.d] = Tm.ds ((its.take (j + 1)).map (·.2)) := by
  rw [List.take_add_one, h, List.map_append, Tm.ds_append]; rfl
noncomputable def PkOk (i : Nat) (q : Int × Int) (t : Tm) (p : Int × Int) (u : Tm) : Prop := (p = (1, (i : Int)) ∧ u = .v 1) ∨ (p = q ∧ u = t) ∨ (p = (4, 4) ∧ u = .a 4) ∨ (p = (0, 0) ∧ u = .v 0) ∨ (p = (5, 7) ∧ u = .i 7)
end
section
variable {c : Cx} {A : Around} {env : Env} {σ : Sig}
theorem t_join {e : Expr} {P Q : Bool → Sig → Prop} (h : TS c A env σ e Q) (k : ∀ b σ', Q b σ' → P b σ') : TS c A env σ e P := TT.mono h k
theorem dps_le {n : Nat} : ∀ {ts : List Tm}, (∀ t ∈ ts, t.dp ≤ n) → Tm.dps ts ≤ n
  | [], _ => by simp [Tm.dps]
  | t :: ts, h => by
    have h1 := h t (.head _)
    have h2 := dps_le (ts := ts) fun u hu => h u (.tail _ hu)
    rw [Tm.dps]; omega
theorem im_take_snoc {H : List (Int × Int)} {j : Nat} {p : Int × Int} (h : H[j]? = some p) : im ((H.take j).map (·.1)) ++ [.int p.1] = im ((H.take (j + 1)).map (·.1)) := by
  rw [List.take_add_one, h, List.map_append]; unfold im; rw [List.map_append]; rfl
/-- the law's function, as it lies in the written part -/
noncomputable def LawF (c : Cx) (qual : Str) (scope : Scope) (body : List Stmt) (cdv : Value) : Prop :=
  ∃ oc od name params dV kV doc pm an ct osl, c.K.lookup 414 = some ⟨oc, od, .func (fnOf name qual params body scope dV kV doc pm an cdv ct), osl⟩
theorem lawF_use {q q' : Str} {s s' : Scope} {b b' : List Stmt} {v v' : Value} {Q : Str → Scope → List Stmt → Value → Prop} {oc od name params dV kV doc pm an ct osl} (lw : LawF c q s b v)
    (h0 : c.K.lookup 414 = some ⟨oc, od, .func (fnOf name q' params b' s' dV kV doc pm an v' ct), osl⟩) (h : Q q' s' b' v') : Q q s b v := by
  obtain ⟨_, _, _, _, _, _, _, _, _, _, _, e⟩ := lw
  have e1 := congrArg (fun o : Option Obj => match o with | some ⟨_, _, .func fd, _⟩ => some (fd.qualname, fd.scope, fd.body, fd.code) | _ => none) (h0.symm.trans e)
  dsimp only [fnOf] at e1
  simp only [Option.some.injEq, Prod.mk.injEq] at e1
  obtain ⟨rfl, rfl, e3, rfl⟩ := e1
  injection e3 with e3
  subst e3
  exact h
end
section
variable {c : Cx} {A' : Around} {P : D → Sig → Prop} {sc L ra c1 c2 c3 c4 c5 na D1 : Addr} {a : Ad} {i nd : Nat} {t te : Tm} {q q2 pe : Int × Int} {tb : List (Int × Nat)} {hs1 SS H : List (Int × Int)} {G : Wc × List Int → Sig} {l6 : List Int} {o1 : Option D} {qual : Str} {scope : Scope} {body st : List Stmt} {cdv : Value}
theorem law_C (k : OKc c) (h : ∀ σ, P (.bool true) σ) (hr' : Rm A' 59) (hi : (i : Int) < 6) (inj : TInj (tAt tb)) (hTl : ∀ ns, NsOk (tAt tb) ns → ns.length < 1000) (hpt : PtOk hs1 tb 100 100) (hSS : List.replicate i ((5 : Int), (0 : Int)) ++ [(0, 1)] = SS)
    (hq : Rp hs1 (List.replicate i ((5 : Int), (0 : Int)) ++ [(0, 1)]) (tAt tb) q t) (ht : Drawn 2 t) (hpk : ∀ (p : Int × Int) (u : Tm), PkOk i q t p u → RD hs1 SS (tAt tb) p u ∧ u.ok ∧ u.dp ≤ 2 ∧ u.sz ≤ 13) (lw2 : SS.length = i + 1)
    (x1 : Ext hs1 H) (x2 : H.length ≤ 110) (x3 : ∀ p ∈ H, p ∈ hs1 ∨ p.1 ≠ 1) (x9 : l6.length ≤ 120) (hG : HF (nsig a na (tAt tb)) G) {y4 : Sy} {ns4 : List Int} (hy4 : SyOk y4) (hns4 : NsOk (tAt tb) ns4) {fa fl : Addr} {q3 : Int × Int} {e : Tm} {pl : Option D} (lw : LawF c qual scope body cdv) (hst : body.drop 22 = st) :
    XS c A' (envX qual scope L 414 cdv [("cell", c5), ("term", c4), ("index", c3), ("store", c2), ("row", c1)]) ((L, .fr (lf (some (.ref sc)) (some (.ref a.sg)) (some (.tup [.int 0, .int 0])) (some (.ref na)) (some (.ref D1)) (some (.int nd)) o1 (some (.tup [.int q2.1, .int q2.2])) (some (.tup [.tup [.int pe.1, .int pe.2], te.d])) (some (.ref fa)) (some (.tup [.int q3.1, .int q3.2])) (some e.d) (some (.ref fl)) pl none none none)) :: (ra, .list (im l6)) :: (c5, .cell (some (.tup [.int q.1, .int q.2]))) :: (c4, .cell (some t.d)) :: (c3, .cell (some (.int i))) :: (c2, .cell (some (.ref a.st))) :: (c1, .cell (some (.ref ra))) :: G (⟨y4, H, SS⟩, ns4)) st (retP P) := by
  subst hst
  have zz := sizeLine_big
  have tdp : t.dp ≤ 2 := ht.dp
  refine lawF_use (Q := fun qual scope body cdv => XS c A' (envX qual scope L 414 cdv [("cell", c5), ("term", c4), ("index", c3), ("store", c2), ("row", c1)]) _ (body.drop 22) (retP P)) lw (by walk_at "m:K") ?_
  simp only [List.drop_succ_cons, List.drop_zero]
  refine x_asgc (names := ["turn"]) ?_ (by rfl) (by rfl) (by rfl) (by rfl) (by decide) (by rfl)
  walk_at "m"
  refine cl_range fun r3 => ?_
  refine i_rngN (n := 3) .head (by omega) fun it5 => ⟨_, rfl, ?_⟩
  intro D4 L4
  refine ⟨self_rng (.tail (.tail .head)), ?_⟩
  refine CP.perm (List.perm_middle (l₁ := [_, _])).symm ?_
  refine cp_range (n := 3) (α := List ((Int × Int) × Tm) × List Int × Option D) (fun j z => (L4, .fr [("turn", z.2.2)]) :: (D4, .list (pd z.1)) :: (r3, .rng 0 3 1) :: (L, .fr (lf (some (.ref sc)) (some (.ref a.sg)) (some (.tup [.int 0, .int 0])) (some (.ref na)) (some (.ref D1)) (some (.int nd)) o1 (some (.tup [.int q2.1, .int q2.2])) (some (.tup [.tup [.int pe.1, .int pe.2], te.d])) (some (.ref fa)) (some (.tup [.int q3.1, .int q3.2])) (some e.d) (some (.ref fl)) pl none none none)) :: (ra, .list (im z.2.1)) :: (c5, .cell (some (.tup [.int q.1, .int q.2]))) :: (c4, .cell (some t.d)) :: (c3, .cell (some (.int i))) :: (c2, .cell (some (.ref a.st))) :: (c1, .cell (some (.ref ra))) :: G (⟨y4, H, SS⟩, ns4))
    (fun j z => z.1.length = j ∧ (∀ e ∈ z.1, PkOk i q t e.1 e.2) ∧ z.2.1.length ≤ 120) ([], l6, none) ⟨rfl, fun e he => by simp at he, x9⟩ rfl hr'.h ?_ ?_
  · rintro j ⟨trs, l7, tn⟩ hj ⟨g1, g2, g3⟩
    dsimp only at g1 g2 g3 ⊢
    walk_at "m"
    refine picked_c k (l := l7) (by walk_at "m:holeR") (hr'.mono (by omega)) (by omega) fun p u l8 hl8 hp => ?_
    refine ⟨pd trs, _, _, .tail (.tail .head), by unfold pd; rw [List.length_map]; omega, (trs ++ [(p, u)], l8, some (.int j)), ⟨by rw [List.length_append, g1]; rfl, fun e he => ?_, by dsimp only; omega⟩, ?_⟩
    · rcases List.mem_append.mp he with he | he
      · exact g2 e he
      · rw [List.mem_singleton.mp he]; exact hp
    · rw [show pd (trs ++ [(p, u)]) = pd trs ++ [.tup [cellD p, u.d]] from by unfold pd; rw [List.map_append]; rfl]
  rintro ⟨trs, l7, tn4⟩ ⟨t1, t2, t3⟩
  dsimp only at t1 t2 t3 ⊢
  walk_at "m"
  refine ⟨_, _, _, .head, ?_⟩
  refine XS.weak (List.Sublist.cons_cons _ drop1) ?_
  walk_at "m"
  refine e_comp (names := ["item"]) ?_ (by rfl) (by rfl) (by rfl) (by decide) (by rfl)
  walk_at "m"
  refine i_list .head fun it5 => ⟨_, rfl, ?_⟩
  intro D5 L5
  refine ⟨self_list (.tail (.tail .head)), ?_⟩
  refine CP.perm (List.perm_middle (l₁ := [_, _])).symm ?_
  refine cp_list (α := Option D) (fun j z => (L5, .fr [("item", z)]) :: (D5, .list (cm ((trs.take j).map (·.1)))) :: (D4, .list (pd trs)) :: (L, .fr (lf (some (.ref sc)) (some (.ref a.sg)) (some (.tup [.int 0, .int 0])) (some (.ref na)) (some (.ref D1)) (some (.int nd)) o1 (some (.tup [.int q2.1, .int q2.2])) (some (.tup [.tup [.int pe.1, .int pe.2], te.d])) (some (.ref fa)) (some (.tup [.int q3.1, .int q3.2])) (some e.d) (some (.ref fl)) pl (some (.ref D4)) none none)) :: (ra, .list (im l7)) :: (c5, .cell (some (.tup [.int q.1, .int q.2]))) :: (c4, .cell (some t.d)) :: (c3, .cell (some (.int i))) :: (c2, .cell (some (.ref a.st))) :: (c1, .cell (some (.ref ra))) :: G (⟨y4, H, SS⟩, ns4)) (fun _ _ => True) none trivial rfl hr'.h (fun j z _ => Sel.any _ (Sel.any _ Sel.any0)) ?_ ?_
  · intro j z d hd _
    obtain ⟨pu, hpu, rfl⟩ := pd_get hd
    walk_at "m"
    refine ⟨_, _, _, .tail (.tail .head), cm_take_len trs j (by omega), some (.tup [cellD pu.1, pu.2.d]), trivial, ?_⟩
    rw [cm_take_snoc hpu]
  intro z _
  rw [pd_len, List.take_length]
  refine ⟨_, _, _, .head, ?_⟩
  walk_at "m"
  have hpkH : ∀ (p : Int × Int) (u : Tm), PkOk i q t p u → RD H SS (tAt tb) p u := fun p u hp => (hpk p u hp).1.mono x1
  obtain ⟨zf, hzf⟩ := hy4.ar (f := 18) (n := 3) (.inr (.inr ⟨rfl, rfl⟩))
  have yl4 := hy4.len
  have har : ArOk 18 (trs.map (·.2)).length := by rw [List.length_map, t1]; exact .inr (.inr ⟨rfl, rfl⟩)
  refine new_struct_c k (by walk_at "m:hole") (hr'.mono (by omega)) (f := 18) (z := zf) (ps := trs.map (·.1)) (ts := trs.map (·.2)) (T := tAt tb) (fun w' => ⟨_, _, .head⟩) (by rw [List.length_map, t1]; exact hzf) (by show y4.fl.length < _; omega) (by rw [List.length_map, t1]; exact .inr (.inr ⟨rfl, rfl⟩))
    (by rw [List.length_map, List.length_map]) (fun j p hp => ?_) (by rw [List.length_map, t1]; show H.length + _ ≤ _; omega) (by show SS.length < _; omega) fun H2 q5 u1 u2 u3 u4 => ?_
  · obtain ⟨e, he, rfl⟩ := map_get hp
    exact ⟨e.2, by rw [List.getElem?_map, he]; rfl, hpkH _ _ (t2 e (List.mem_of_getElem? he))⟩
  replace u2 : H2.length = H.length + 4 := by rw [List.length_map, t1] at u2; exact u2
  dsimp only at u1 u3 u4 ⊢
  refine AS.weak drop1 ?_
  walk_at "m"
  refine e_comp (names := ["item"]) ?_ (by rfl) (by rfl) (by rfl) (by decide) (by rfl)
  walk_at "m"
  refine i_list .head fun it6 => ⟨_, rfl, ?_⟩
  intro D6 L6
  refine ⟨self_list (.tail (.tail .head)), ?_⟩
  refine CP.perm (List.perm_middle (l₁ := [_, _])).symm ?_
  refine cp_list (α := Option D) (fun j z => (L6, .fr [("item", z)]) :: (D6, .list (Tm.ds ((trs.take j).map (·.2)))) :: (D4, .list (pd trs)) :: (L, .fr (lf (some (.ref sc)) (some (.ref a.sg)) (some (.tup [.int 0, .int 0])) (some (.ref na)) (some (.ref D1)) (some (.int nd)) o1 (some (.tup [.int q2.1, .int q2.2])) (some (.tup [.tup [.int pe.1, .int pe.2], te.d])) (some (.ref fa)) (some (.tup [.int q3.1, .int q3.2])) (some e.d) (some (.ref fl)) pl (some (.ref D4)) (some (.tup [.int q5.1, .int q5.2])) none)) :: (ra, .list (im l7)) :: (c5, .cell (some (.tup [.int q.1, .int q.2]))) :: (c4, .cell (some t.d)) :: (c3, .cell (some (.int i))) :: (c2, .cell (some (.ref a.st))) :: (c1, .cell (some (.ref ra))) :: G (⟨y4, H2, SS⟩, ns4)) (fun _ _ => True) none trivial rfl hr'.h (fun j z _ => Sel.any _ (Sel.any _ Sel.any0)) ?_ ?_
  · intro j z d hd _
    obtain ⟨pu, hpu, rfl⟩ := pd_get hd
    walk_at "m"
    refine ⟨_, _, _, .tail (.tail .head), ds_take_len trs j (by omega), some (.tup [cellD pu.1, pu.2.d]), trivial, ?_⟩
    rw [ds_take_snoc hpu]
  intro z _
  rw [pd_len, List.take_length]
  refine ⟨_, _, _, .head, ?_⟩
  walk_at "m"
  have zz2 := sizeLine_big
  refine cl_tuple .head (by rw [Tm.ds_length, List.length_map, t1]; omega) ?_
  refine VS.weak drop1 ?_
  walk_at "m"
  rw [show D.tup [.str "s", .int 18, .tup (Tm.ds (trs.map (·.2)))] = (Tm.s 18 (trs.map (·.2))).d from by rw [Tm.d]; rfl]
  have trk : ∀ u ∈ trs.map (·.2), u.ok ∧ u.dp ≤ 2 ∧ u.sz ≤ 13 := fun u hu => by
    obtain ⟨e, he, rfl⟩ := List.mem_map.mp hu
    exact (hpk _ _ (t2 e he)).2
  have tk : (Tm.s 18 (trs.map (·.2))).ok := by
    rw [Tm.ok]
    exact ⟨.inr har, Tm.oks_of fun u hu => (trk u hu).1⟩
  have td3 : (Tm.s 18 (trs.map (·.2))).dp ≤ 3 := by
    rw [Tm.dp]
    have := dps_le (n := 2) fun u hu => (trk u hu).2.1
    omega
  refine same_c k inj hTl (Tm.s 18 (trs.map (·.2))).sz (Tm.s 18 (trs.map (·.2))) (Nat.le_refl _) (p := q5) (z := (⟨y4, H2, SS⟩, ns4)) (.skip (.skip (.skip (.skip (.skip (.skip (.skip (.skip (hG.s _))))))))) (hr'.mono (by omega)) (by exact hy4) (by exact u4.rd) (by exact tk) (by exact hns4) (by show H2.length < _; omega) (by show SS.length < _; omega) fun y5 ns5 hy5 hns5 => ?_
  dsimp only
  walk_at "m"
  refine br_f ?_
  walk_at "m"
  obtain ⟨hy6, -, iN, hi1, hi2⟩ := hy5.fn (n := 4) (.inr rfl)
  have yl5 := hy5.len
  have yl6 := hy6.len
  refine functor_c k (by walk_at "m:hole") (hr'.mono (by omega)) (by show y5.fl.length < _; omega) (by show y5.kv.length < _; omega) ?_
  dsimp only
  rw [hi1]
  generalize (fnF y5 4 0).2 = y6 at *
  walk_at "m"
  intro la
  walk_at "m"
  refine new_struct0_c k (by walk_at "m:hole") (hr'.mono (by omega)) (w := ⟨y6, H2, SS⟩) (i := iN) (p := (4, 0)) (fun w' => by exact ⟨_, _, .head⟩) (by exact hi2) (by show y6.fl.length < _; omega) ?_
  dsimp only
  walk_at "m"
  refine br_of_f (decide_eq_false (by simp)) ?_
  refine TSs.weak drop2 ?_
  have x12 : Ext hs1 H2 := x1.trans u1
  have hqH : Rp H2 SS (tAt tb) q t := by
    have : Rp hs1 SS (tAt tb) q t := by rw [← hSS]; exact hq
    exact this.mono x12
  walk_at "m"
  refine same_c k inj hTl (t).sz (t) (Nat.le_refl _) (p := q) (z := (⟨y6, H2, SS⟩, ns5)) (.skip (.skip (.skip (.skip (.skip (.skip (.skip (hG.s _)))))))) (hr'.mono (by omega)) (by exact hy6) (by exact hqH.rd) (by exact ht.ok) (by exact hns5) (by show H2.length < _; omega) (by show SS.length < _; omega) fun y7 ns7 hy7 hns7 => ?_
  dsimp only
  walk_at "m"
  refine br_f ?_
  walk_at "m"
  have hsi2 : SS[i]? = some (0, 1) := by rw [← hSS, List.getElem?_append_right (by simp)]; simp
  have r1 := x12 _ _ (hpt.root 1 1 hpt.t1)
  have hdi : Dr H2 SS 1 (1, (i : Int)) (0, 1) := .go1 (p := (0, 1)) hsi2 (by simp) (.here0 (i := 1) r1)
  refine deref_c k (by walk_at "m:hole") (hr'.mono (by omega)) (q := (0, 1)) hdi (by show H2.length < _; omega) (by show SS.length < _; omega) ?_
  dsimp only
  walk_at "m:a"
  obtain ⟨_, _, sn, -⟩ := (hG.s (⟨y7, H2, SS⟩, ns7)).nm
  obtain ⟨_, _, sh, -⟩ := (hG.s (⟨y7, H2, SS⟩, ns7)).w.hp
  obtain ⟨_, _, sk, -⟩ := (hG.s (⟨y7, H2, SS⟩, ns7)).w.sk
  obtain ⟨_, _, st⟩ := (hG.s (⟨y7, H2, SS⟩, ns7)).w.tr
  dsimp only at sn sh sk st
  refine x_ifJ (α := Unit) (fun _ => (L, .fr (lf (some (.ref sc)) (some (.ref a.sg)) (some (.tup [.int 0, .int 0])) (some (.ref na)) (some (.ref D1)) (some (.int nd)) o1 (some (.tup [.int q2.1, .int q2.2])) (some (.tup [.tup [.int pe.1, .int pe.2], te.d])) (some (.ref fa)) (some (.tup [.int q3.1, .int q3.2])) (some e.d) (some (.ref fl)) pl (some (.ref D4)) (some (.tup [.int q5.1, .int q5.2])) (some (.tup [.int 0, .int 1])))) :: (ra, .list (im l7)) :: (c5, .cell (some (.tup [.int q.1, .int q.2]))) :: (c4, .cell (some t.d)) :: (c3, .cell (some (.int i))) :: (c2, .cell (some (.ref a.st))) :: (c1, .cell (some (.ref ra))) :: G (⟨y7, H2, SS⟩, ns7)) (fun _ => True) ?_ ?_
  · walk_at "m"
    refine o_ini (.tail (.tail (.tail (.tail (.tail (.tail (.tail sn))))))) ?_
    rw [kAt_nkv]
    by_cases h1n : (1 : Int) ∈ ns7
    · rw [if_pos h1n]
      refine ⟨_, rfl, br_t ?_⟩
      walk_at "m"
      refine sb_idict (.tail (.tail (.tail (.tail (.tail (.tail (.tail sn))))))) (x := .tup [.int 0, .int 1]) (by rw [kAt_nkv, if_pos h1n, hpt.t1]; rfl) ?_
      walk_at "m"
      refine br_of_f (decide_eq_false (by simp)) ?_
      walk_at "m"
      refine br_of_t (by rfl) ?_
      walk_at "m"
      refine sb_idict (.tail (.tail (.tail (.tail (.tail (.tail (.tail sn))))))) (x := .tup [.int 0, .int 0]) (by rw [kAt_nkv, if_pos hns7.1.1, hpt.t0]; rfl) ?_
      walk_at "m"
      refine br_of_f (decide_eq_false (by simp)) ?_
      walk_at "m"
      exact joinF_next () trivial rfl
    · rw [if_neg h1n]
      refine ⟨_, rfl, br_f ?_⟩
      walk_at "m"
      refine br_of_t (by rfl) ?_
      walk_at "m"
      refine sb_idict (.tail (.tail (.tail (.tail (.tail (.tail (.tail sn))))))) (x := .tup [.int 0, .int 0]) (by rw [kAt_nkv, if_pos hns7.1.1, hpt.t0]; rfl) ?_
      walk_at "m"
      refine br_of_f (decide_eq_false (by simp)) ?_
      walk_at "m"
      exact joinF_next () trivial rfl
  rintro _ _
  have tag : (1 : Int) ∉ H2.map (·.1) := fun hm => by
    obtain ⟨p, hp, e⟩ := List.mem_map.mp hm
    rcases u3 p hp with hp | hp
    · rcases x3 p hp with hp | hp
      · exact hpt.tag p hp e
      · exact hp e
    · exact hp e
  refine x_ret ?_
  refine e_boolop ?_
  refine b_and ?_
  refine e_cmp ?_ (by k_dflt rfl)
  walk_at "m"
  refine e_comp (names := ["entry"]) ?_ (by rfl) (by rfl) (by rfl) (by decide) (by rfl)
  walk_at "m"
  refine i_list (.tail (.tail (.tail (.tail (.tail (.tail (.tail sh))))))) fun it8 => ⟨_, rfl, ?_⟩
  intro D8 L8
  refine ⟨self_list (.tail (.tail .head)), ?_⟩
  refine CP.perm (List.perm_middle (l₁ := [_, _])).symm ?_
  refine cp_list (α := Option D) (fun j z => (L8, .fr [("entry", z)]) :: (D8, .list (im ((H2.take j).map (·.1)))) :: (L, .fr (lf (some (.ref sc)) (some (.ref a.sg)) (some (.tup [.int 0, .int 0])) (some (.ref na)) (some (.ref D1)) (some (.int nd)) o1 (some (.tup [.int q2.1, .int q2.2])) (some (.tup [.tup [.int pe.1, .int pe.2], te.d])) (some (.ref fa)) (some (.tup [.int q3.1, .int q3.2])) (some e.d) (some (.ref fl)) pl (some (.ref D4)) (some (.tup [.int q5.1, .int q5.2])) (some (.tup [.int 0, .int 1])))) :: (ra, .list (im l7)) :: (c5, .cell (some (.tup [.int q.1, .int q.2]))) :: (c4, .cell (some t.d)) :: (c3, .cell (some (.int i))) :: (c2, .cell (some (.ref a.st))) :: (c1, .cell (some (.ref ra))) :: G (⟨y7, H2, SS⟩, ns7)) (fun _ _ => True) none trivial rfl hr'.h (fun j z _ => ⟨_, _, .tail (.tail (.tail (.tail (.tail (.tail (.tail (.tail (.tail sh))))))))⟩) ?_ ?_
  · intro j z d hd _
    obtain ⟨p, hp, rfl⟩ := cm_geti hd
    walk_at "m"
    refine ⟨_, _, _, .tail (.tail .head), by rw [im_length, List.length_map, List.length_take]; omega, some (cellD p), trivial, ?_⟩
    rw [im_take_snoc hp]
  intro z _
  rw [cm_length, List.take_length]
  refine ⟨_, _, _, .head, ?_⟩
  refine o_notini hr' .head ?_
  rw [decide_eq_true tag]
  refine ⟨_, rfl, br_t ?_⟩
  refine VB.weak drop1 ?_
  refine b_and ?_
  refine e_cmp ?_ (by k_dflt rfl)
  refine e_take ?_
  walk_at "m"
  refine ⟨_, _, _, _, _, rfl, rfl, by omega, (.tail (.tail (.tail (.tail (.tail (.tail (.tail sk))))))), by rw [cm_length]; omega, fun t8 => ?_⟩
  walk_at "m"
  intro b8
  walk_at "m"
  refine o_mull .head (by omega) (by simp) (by simp only [List.length_cons, List.length_nil]; omega) (by omega) fun b9 => ?_
  have e8 : (cm SS).take (Int.toNat (i : Int)) = cm (List.replicate i (5, 0)) := by
    rw [← hSS, Int.toNat_natCast, cm_append, List.take_append_of_le_length (by rw [cm_length, List.length_replicate]; exact Nat.le_refl _), List.take_of_length_le (by rw [cm_length, List.length_replicate]; exact Nat.le_refl _)]
  rw [rep_cell, e8]
  refine o_eqcl hr' (l := List.replicate i (5, 0)) (k := List.replicate i (5, 0)) (.tail (.tail .head)) .head ?_
  refine ⟨_, rfl, br_of_t (decide_eq_true rfl) ?_⟩
  refine VB.weak drop3 ?_
  refine b_one ?_
  walk_at "m"
  intro la
  refine o_eqcl hr' (l := []) (k := []) (.tail (.tail (.tail (.tail (.tail (.tail (.tail (.tail st)))))))) .head ?_
  exact retP_ret (List.Sublist.refl _) (h _)
end
section
variable {c : Cx} {A' : Around} {P : D → Sig → Prop} {sc L ra c1 c2 c3 c4 c5 na D1 : Addr} {a : Ad} {i nd : Nat} {t te : Tm} {q q2 pe : Int × Int} {tb : List (Int × Nat)} {hs1 SS H : List (Int × Int)} {G : Wc × List Int → Sig} {l6 : List Int} {o1 : Option D} {qual : Str} {scope : Scope} {body st : List Stmt} {cdv : Value}
theorem law_B (k : OKc c) (h : ∀ σ, P (.bool true) σ) (hr' : Rm A' 59) (hi : (i : Int) < 6) (inj : TInj (tAt tb)) (hTl : ∀ ns, NsOk (tAt tb) ns → ns.length < 1000) (hpt : PtOk hs1 tb 100 100) (hSS : List.replicate i ((5 : Int), (0 : Int)) ++ [(0, 1)] = SS)
    (hq : Rp hs1 (List.replicate i ((5 : Int), (0 : Int)) ++ [(0, 1)]) (tAt tb) q t) (ht : Drawn 2 t) (hpk : ∀ (p : Int × Int) (u : Tm), PkOk i q t p u → RD hs1 SS (tAt tb) p u ∧ u.ok ∧ u.dp ≤ 2 ∧ u.sz ≤ 13) (lw2 : SS.length = i + 1)
    (x1 : Ext hs1 H) (x2 : H.length ≤ 110) (x3 : ∀ p ∈ H, p ∈ hs1 ∨ p.1 ≠ 1) (x9 : l6.length ≤ 120) (hG : HF (nsig a na (tAt tb)) G) {y1 : Sy} {ns1 : List Int} (hy1 : SyOk y1) (hns1 : NsOk (tAt tb) ns1) {its : List ((Int × Int) × Tm)} (g2 : ∀ e ∈ its, PkOk i q t e.1 e.2) (itl : its.length ≤ 5) (x4 : Rp H SS (tAt tb) q2 (mkL (its.map (·.2)) te)) (x6 : te.ok) (x7 : te.dp ≤ 2) (x8 : te.sz ≤ 13)
    (lw : LawF c qual scope body cdv) (hst : body.drop 14 = st) :
    XS c A' (envX qual scope L 414 cdv [("cell", c5), ("term", c4), ("index", c3), ("store", c2), ("row", c1)]) ((D1, .list (pd its)) :: (L, .fr (lf (some (.ref sc)) (some (.ref a.sg)) (some (.tup [.int 0, .int 0])) (some (.ref na)) (some (.ref D1)) (some (.int nd)) none (some (.tup [.int q2.1, .int q2.2])) (some (.tup [.tup [.int pe.1, .int pe.2], te.d])) none none none none none none none none)) :: (ra, .list (im l6)) :: (c5, .cell (some (.tup [.int q.1, .int q.2]))) :: (c4, .cell (some t.d)) :: (c3, .cell (some (.int i))) :: (c2, .cell (some (.ref a.st))) :: (c1, .cell (some (.ref ra))) :: G (⟨y1, H, SS⟩, ns1)) st (retP P) := by
  subst hst
  have zz := sizeLine_big
  have tdp : t.dp ≤ 2 := ht.dp
  refine lawF_use (Q := fun qual scope body cdv => XS c A' (envX qual scope L 414 cdv [("cell", c5), ("term", c4), ("index", c3), ("store", c2), ("row", c1)]) _ (body.drop 14) (retP P)) lw (by walk_at "m:K") ?_
  simp only [List.drop_succ_cons, List.drop_zero]
  have psz : (pd its).length = its.length := pd_len its
  walk_at "m"
  have itl2 : (its.map (·.2)).length ≤ 5 := by rw [List.length_map]; omega
  have husz : ∀ u ∈ its.map (·.2), u.ok ∧ u.dp ≤ 2 ∧ u.sz ≤ 13 := fun u hu => by
    obtain ⟨e, he, rfl⟩ := List.mem_map.mp hu
    exact (hpk _ _ (g2 e he)).2
  have mok : (mkL (its.map (·.2)) te).ok := mkL_ok x6 fun u hu => (husz u hu).1
  have mdp : (mkL (its.map (·.2)) te).dp ≤ 8 := Nat.le_trans (mkL_dp x7 fun u hu => (husz u hu).2.1) (by omega)
  have msz : (mkL (its.map (·.2)) te).sz ≤ 83 := Nat.le_trans (mkL_sz x8 fun u hu => (husz u hu).2.2) (by omega)
  refine list_cells_c k (by walk_at "m:hole") (hr'.mono (by omega)) inj (by exact x4.rd) (by omega) (by show H.length < _; omega) (by show SS.length < _; omega) fun fa qs ts q3 e v1 v2 v3 v4 v5 => ?_
  dsimp only at v4 v5
  refine a_tup2 hr' ?_
  walk_at "m"
  refine x_for ?_
  refine e_rev ?_
  walk_at "m"
  refine ⟨_, _, _, _, rfl, rfl, .tail .head, by rw [pd_len]; omega, fun rv => ?_⟩
  refine i_list .head fun it3 => ⟨_, rfl, ?_⟩
  rw [show (pd its).reverse = pd its.reverse from by unfold pd; rw [List.map_reverse]]
  refine fl_list (α := Option D × Tm) (fun j z => (rv, .list (pd its.reverse)) :: (fa, .list (cm qs)) :: (D1, .list (pd its)) :: (L, .fr (lf (some (.ref sc)) (some (.ref a.sg)) (some (.tup [.int 0, .int 0])) (some (.ref na)) (some (.ref D1)) (some (.int nd)) z.1 (some (.tup [.int q2.1, .int q2.2])) (some (.tup [.tup [.int pe.1, .int pe.2], te.d])) (some (.ref fa)) (some (.tup [.int q3.1, .int q3.2])) (some z.2.d) none none none none none)) :: (ra, .list (im l6)) :: (c5, .cell (some (.tup [.int q.1, .int q.2]))) :: (c4, .cell (some t.d)) :: (c3, .cell (some (.int i))) :: (c2, .cell (some (.ref a.st))) :: (c1, .cell (some (.ref ra))) :: G (⟨y1, H, SS⟩, ns1))
    (fun j z => z.2 = mkL ((its.reverse.take j).map (·.2)).reverse te) (none, te) rfl rfl hr'.h (fun i z _ => Sel.any0) ?_ ?_
  · rintro j ⟨o1, u⟩ d hd hj
    dsimp only at hj ⊢
    obtain ⟨p, hp, rfl⟩ := pd_get hd
    walk_at "m"
    rw [mkL_d]
    refine afterL_next (_, .s 0 [p.2, u]) ?_ rfl
    show Tm.s 0 [p.2, u] = _
    rw [List.take_add_one, hp, Option.toList_some, List.map_append, List.reverse_append, List.map_cons, List.map_nil, List.reverse_singleton, List.singleton_append, mkL_cons, hj]
  rintro ⟨o1, u⟩ hu
  dsimp only at hu ⊢
  rw [pd_len, List.take_length, List.map_reverse, List.reverse_reverse] at hu
  subst hu
  refine contF_next ?_
  refine XS.weak drop1 ?_
  walk_at "m"
  refine same_c k inj hTl (mkL (its.map (·.2)) te).sz (mkL (its.map (·.2)) te) (Nat.le_refl _) (p := q2) (z := (⟨y1, H, SS⟩, ns1)) (.skip (.skip (.skip (.skip (.skip (.skip (.skip (.skip (.skip (hG.s _)))))))))) (hr'.mono (by omega)) (by exact hy1) (by exact x4.rd) (by exact mok) (by exact hns1) (by show H.length < _; omega) (by show SS.length < _; omega) fun y2 ns2 hy2 hns2 => ?_
  dsimp only
  walk_at "m"
  refine br_f ?_
  walk_at "m"
  intro fl
  walk_at "m"
  refine x_while ?_
  refine wl_inv (α := List Tm × Tm) (fun z => z.2.sz) (fun z => (fl, .list (Tm.ds z.1)) :: (fa, .list (cm qs)) :: (D1, .list (pd its)) :: (L, .fr (lf (some (.ref sc)) (some (.ref a.sg)) (some (.tup [.int 0, .int 0])) (some (.ref na)) (some (.ref D1)) (some (.int nd)) o1 (some (.tup [.int q2.1, .int q2.2])) (some (.tup [.tup [.int pe.1, .int pe.2], te.d])) (some (.ref fa)) (some (.tup [.int q3.1, .int q3.2])) (some z.2.d) (some (.ref fl)) none none none none)) :: (ra, .list (im l6)) :: (c5, .cell (some (.tup [.int q.1, .int q.2]))) :: (c4, .cell (some t.d)) :: (c3, .cell (some (.int i))) :: (c2, .cell (some (.ref a.st))) :: (c1, .cell (some (.ref ra))) :: G (⟨y2, H, SS⟩, ns2))
    (fun z => mkL (its.map (·.2)) te = mkL z.1 z.2 ∧ z.2.ok ∧ z.1.length + z.2.sz ≤ 100) ([], mkL (its.map (·.2)) te) ⟨rfl, mok, by simp only [List.length_nil]; omega⟩ (by rw [Tm.ds]) ?_
  rintro ⟨us, u⟩ ⟨h1, h2, h3⟩
  dsimp only at h1 h2 h3 ⊢
  refine t_join (Q := fun b σ' => σ' = (fl, .list (Tm.ds us)) :: (fa, .list (cm qs)) :: (D1, .list (pd its)) :: (L, .fr (lf (some (.ref sc)) (some (.ref a.sg)) (some (.tup [.int 0, .int 0])) (some (.ref na)) (some (.ref D1)) (some (.int nd)) o1 (some (.tup [.int q2.1, .int q2.2])) (some (.tup [.tup [.int pe.1, .int pe.2], te.d])) (some (.ref fa)) (some (.tup [.int q3.1, .int q3.2])) (some u.d) (some (.ref fl)) none none none none)) :: (ra, .list (im l6)) :: (c5, .cell (some (.tup [.int q.1, .int q.2]))) :: (c4, .cell (some t.d)) :: (c3, .cell (some (.int i))) :: (c2, .cell (some (.ref a.st))) :: (c1, .cell (some (.ref ra))) :: G (⟨y2, H, SS⟩, ns2) ∧ (b = true ↔ isL u)) ?_ ?_
  · cases u with
    | v x =>
      rw [show (Tm.v x).d = .tup [.str "v", .int x] from by rw [Tm.d]]
      walk_at "m"
      refine br_of_f (by decide +kernel) ?_
      exact ⟨rfl, by simp, fun ⟨_, _, hh⟩ => by cases hh⟩
    | a x =>
      rw [show (Tm.a x).d = .tup [.str "a", .int x] from by rw [Tm.d]]
      walk_at "m"
      refine br_of_f (by decide +kernel) ?_
      exact ⟨rfl, by simp, fun ⟨_, _, hh⟩ => by cases hh⟩
    | i x =>
      rw [show (Tm.i x).d = .tup [.str "i", .int x] from by rw [Tm.d]]
      walk_at "m"
      refine br_of_f (by decide +kernel) ?_
      exact ⟨rfl, by simp, fun ⟨_, _, hh⟩ => by cases hh⟩
    | s f ws =>
      rw [show (Tm.s f ws).d = .tup [.str "s", .int f, .tup (Tm.ds ws)] from by rw [Tm.d]]
      walk_at "m"
      refine br_of_t (by decide +kernel) ?_
      walk_at "m"
      refine br_by (fun hf => ?_) (fun hf => ?_)
      · walk_at "m"
        have hf := beq_iff_eq.mp hf
        refine ⟨fun _ => ?_, fun _ => rfl⟩
        rw [Tm.ok] at h2
        have f0 : f = 0 := by omega
        have l2 : ws.length = 2 := by have := h2.1; unfold ArOk at this; omega
        subst f0
        match ws, l2 with
        | [x, y], _ => exact ⟨x, y, rfl⟩
      · refine ⟨rfl, by simp, fun ⟨_, _, hh⟩ => ?_⟩
        simp only [Tm.s.injEq] at hh
        rw [hh.1] at hf
        simp at hf
  rintro b σ' ⟨rfl, hb⟩
  cases b with
  | true =>
    obtain ⟨t1, t2, rfl⟩ := hb.mp rfl
    refine br_t ?_
    rw [isL_d]
    have sz := Tm.sz_tl t1 t2
    rw [Tm.ok, Tm.oks, Tm.oks, Tm.oks] at h2
    walk_at "m"
    refine ⟨t1, us, _, _, rfl, .head, by omega, ?_⟩
    walk_at "m"
    refine afterL_next (us ++ [t1], t2) ⟨⟨by dsimp only; rw [mkL_snoc]; exact h1, h2.2.2.1, by dsimp only; rw [List.length_append]; simp only [List.length_cons, List.length_nil]; omega⟩, by dsimp only; omega⟩ rfl
  | false =>
  have nl : ¬ isL u := fun hh => by have := hb.mpr hh; simp at this
  refine br_f ?_
  obtain ⟨rfl, rfl⟩ := mkL_inj v2 nl (v1.symm.trans h1)
  refine contF_next ?_
  have edp : e.dp ≤ 8 := Nat.le_trans (mkL_end (ts := ts) (e := e)).2 (by rw [← v1]; exact mdp)
  have tdps : ∀ u ∈ ts, u.dp ≤ 8 := fun u hu => Nat.le_trans (mkL_mem (e := e) hu).2 (by rw [← v1]; exact mdp)
  have toks : ∀ u ∈ ts, u.ok := (mkL_oks (e := e) (by rw [← v1]; exact mok)).1
  have tl : ts.length ≤ 100 := by omega
  walk_at "m"
  refine cl_len .head (by rw [Tm.ds_length]; omega) ?_
  rw [Tm.ds_length, ← v3]
  walk_at "m"
  refine br_of_f (by simp) ?_
  walk_at "m"
  refine same_c k inj hTl (e).sz (e) (Nat.le_refl _) (p := q3) (z := (⟨y2, H, SS⟩, ns2)) (.skip (.skip (.skip (.skip (.skip (.skip (.skip (.skip (.skip (.skip (hG.s _))))))))))) (hr'.mono (by omega)) (by exact hy2) (by exact v5.rd) (by exact h2) (by exact hns2) (by show H.length < _; omega) (by show SS.length < _; omega) fun y3 ns3 hy3 hns3 => ?_
  dsimp only
  walk_at "m"
  refine br_f ?_
  walk_at "m"
  refine x_for ?_
  walk_at "m"
  refine cl_len .head (by rw [Tm.ds_length]; omega) ?_
  rw [Tm.ds_length]
  walk_at "m"
  refine cl_range fun r2 => ?_
  refine i_rngN .head (by omega) fun it4 => ⟨_, rfl, ?_⟩
  refine fl_range (α := Sy × List Int × Option D) (fun j z => (r2, .rng 0 ts.length 1) :: (fl, .list (Tm.ds ts)) :: (fa, .list (cm qs)) :: (D1, .list (pd its)) :: (L, .fr (lf (some (.ref sc)) (some (.ref a.sg)) (some (.tup [.int 0, .int 0])) (some (.ref na)) (some (.ref D1)) (some (.int nd)) o1 (some (.tup [.int q2.1, .int q2.2])) (some (.tup [.tup [.int pe.1, .int pe.2], te.d])) (some (.ref fa)) (some (.tup [.int q3.1, .int q3.2])) (some e.d) (some (.ref fl)) z.2.2 none none none)) :: (ra, .list (im l6)) :: (c5, .cell (some (.tup [.int q.1, .int q.2]))) :: (c4, .cell (some t.d)) :: (c3, .cell (some (.int i))) :: (c2, .cell (some (.ref a.st))) :: (c1, .cell (some (.ref ra))) :: G (⟨z.1, H, SS⟩, z.2.1))
    (fun j z => SyOk z.1 ∧ NsOk (tAt tb) z.2.1) (y3, ns3, none) ⟨hy3, hns3⟩ rfl hr'.h ?_ ?_
  · rintro j ⟨y4, ns4, pl⟩ hj ⟨hy4, hns4⟩
    dsimp only at hy4 hns4 ⊢
    obtain ⟨p, hp⟩ : ∃ p, qs[j]? = some p := ⟨_, List.getElem?_eq_getElem (by omega)⟩
    obtain ⟨u, hu, hR⟩ := v4 j p hp
    have mem := List.mem_of_getElem? hu
    have udp := tdps u mem
    walk_at "m"
    refine sb_list (k := (j : Int)) (.tail (.tail (.tail .head))) (by omega) (by omega) (d := cellD p) (by rw [Int.toNat_natCast, cm_get, hp]; rfl) ?_
    walk_at "m"
    refine sb_list (k := (j : Int)) (.tail (.tail (.tail .head))) (by omega) (by omega) (d := cellD p) (by rw [Int.toNat_natCast, cm_get, hp]; rfl) ?_
    walk_at "m"
    refine deref_c k (by walk_at "m:hole") (hr'.mono (by omega)) hR.stop (by show H.length < _; omega) (by show SS.length < _; omega) ?_
    walk_at "m"
    refine br_of_f (decide_eq_false (by simp)) ?_
    walk_at "m"
    refine sb_list (k := (j : Int)) (.tail (.tail (.tail .head))) (by omega) (by omega) (d := cellD p) (by rw [Int.toNat_natCast, cm_get, hp]; rfl) ?_
    walk_at "m"
    refine sb_list (k := (j : Int)) (.tail (.tail .head)) (by omega) (by omega) (d := u.d) (by rw [Int.toNat_natCast]; exact Tm.ds_get hu) ?_
    walk_at "m"
    refine same_c k inj hTl (u).sz (u) (Nat.le_refl _) (p := p) (z := (⟨y4, H, SS⟩, ns4)) (.skip (.skip (.skip (.skip (.skip (.skip (.skip (.skip (.skip (.skip (.skip (.skip (hG.s _))))))))))))) (hr'.mono (by omega)) (by exact hy4) (by exact hR.rd) (by exact toks u mem) (by exact hns4) (by show H.length < _; omega) (by show SS.length < _; omega) fun y5 ns5 hy5 hns5 => ?_
    dsimp only
    walk_at "m"
    refine br_f ?_
    walk_at "m"
    exact afterL_next (y5, ns5, some (.int j)) ⟨hy5, hns5⟩ rfl
  rintro ⟨y4, ns4, pl⟩ ⟨hy4, hns4⟩
  dsimp only at hy4 hns4 ⊢
  refine contF_next ?_
  refine XS.weak drop4 ?_
  exact law_C k h hr' hi inj hTl hpt hSS hq ht hpk lw2 x1 x2 x3 x9 hG hy4 hns4 ⟨_, _, _, _, _, _, _, _, _, _, _, by walk_at "m:K"⟩ rfl
end
section
variable {c : Cx}
theorem law_c (k : OKc c) {A : Around} {P : D → Sig → Prop} {sc : Addr} {xs : List Int} (hr : Rm A 60) (hB : BL c sc (im xs)) (hxs : xs.length < 1000) (h : ∀ σ, P (.bool true) σ) : CC c A [] (.ref 414) [.ref sc] P := by
  refine cc_defP (n := 59) (n1 := "script") (rest := ["signs", "first", "names", "items", "draw", "item", "whole", "end", "told", "last", "due", "flat", "place", "three", "made", "held"]) (cells := fun n => [("cell", n + 4), ("term", n + 3), ("index", n + 2), ("store", n + 1), ("row", n)]) (by walk_at "m:K") (by walk_at "m:K") hr (fun _ => by rfl) (fun _ => by rfl) (fun _ => by simp only [List.map_cons, List.map_nil]; decide) (by decide) (by rfl) (by walk_at "m:fr") ?_
  intro L B A' hA' hr'
  simp only [List.map_cons, List.map_nil, List.cons_append, List.nil_append]
  clear hA'
  generalize B + 4 = c5
  generalize B + 3 = c4
  generalize B + 2 = c3
  generalize B + 1 = c2
  generalize B = c1
  walk_at "m"
  refine row_c k hB (hr'.mono (by omega)) hxs fun ra l hl => ?_
  walk_at "m"
  refine sym_c k (hr'.mono (by omega)) fun a0 y hy => ?_
  obtain ⟨sg, sgd, tx, an, fs, fn, _, _, _, _, _⟩ := a0
  simp only [ssig, syN, List.cons_append, List.nil_append]
  walk_at "m"
  refine store_c k (hr'.mono (by omega)) fun st std hp sk tr => ?_
  walk_at "m"
  obtain ⟨a, e1, e2, e3, e4, e5, e6, e7, e8, e9, e10, e11⟩ : ∃ a : Ad, a.sg = sg ∧ a.sgd = sgd ∧ a.tx = tx ∧ a.an = an ∧ a.fs = fs ∧ a.fn = fn ∧ a.st = st ∧ a.std = std ∧ a.hp = hp ∧ a.sk = sk ∧ a.tr = tr := ⟨⟨sg, sgd, tx, an, fs, fn, st, std, hp, sk, tr⟩, rfl, rfl, rfl, rfl, rfl, rfl, rfl, rfl, rfl, rfl, rfl⟩
  subst e1; subst e2; subst e3; subst e4; subst e5; subst e6; subst e7; subst e8; subst e9; subst e10; subst e11
  intro x0 l0 hl0
  walk_at "m"
  refine o_modl (j := 6) (by decide) fun i hi => ?_
  walk_at "m"
  refine MT.perm (σ' := (L, .fr (lf (some (.ref sc)) (some (.ref a.sg)) none none none none none none none none none none none none none none none)) :: (ra, .list (im l0)) :: (c5, .cell none) :: (c4, .cell none) :: (c3, .cell (some (.int i))) :: (c2, .cell (some (.ref a.st))) :: (c1, .cell (some (.ref ra))) ::
    (a.sg, .inst 154 a.sgd) :: (a.sgd, .ns [("texts", some (.ref a.tx)), ("atom_numbers", some (.ref a.an)), ("functors", some (.ref a.fs)), ("functor_numbers", some (.ref a.fn))] 4) :: (a.tx, .list (y.tl.map .str)) :: (a.an, .sdict (iv y.ak)) :: (a.fs, .list (cm y.fl)) :: (a.fn, .tdict (iv y.kv)) ::
    (a.st, .inst 374 a.std) :: (a.std, .ns [("symbols", some (.ref a.sg)), ("max_heap", some (.int 100000)), ("heap", some (.ref a.hp)), ("stack", some (.ref a.sk)), ("trail", some (.ref a.tr)), ("hb", some (.int 0)), ("bb", some (.int 0))] 7) :: (a.hp, .list []) :: (a.sk, .list []) :: (a.tr, .list []) :: []) (by walk_at "m:perm") ?_
  obtain ⟨F, hF, eF⟩ : ∃ F, HF (wsig a) F ∧ ∀ w, F w = wsig a w ++ [] := ⟨fun w => wsig a w ++ [], fun w => Hole.here, fun _ => rfl⟩
  show MT c A' _ ((L, .fr (lf (some (.ref sc)) (some (.ref a.sg)) none none none none none none none none none none none none none none none)) :: (ra, .list (im l0)) :: (c5, .cell none) :: (c4, .cell none) :: (c3, .cell (some (.int i))) :: (c2, .cell (some (.ref a.st))) :: (c1, .cell (some (.ref ra))) :: (wsig a ⟨y, [], []⟩ ++ [])) _ _ _ _ _
  rw [← eF]
  walk_at "m"
  refine stack_put_c k (by walk_at "m:hole") (hr'.mono (by omega)) rfl (by omega) ?_
  walk_at "m"
  have zz := sizeLine_big
  have hS := hF.s ⟨y, [], List.replicate i (5, 0) ++ [(1, (i : Int))]⟩
  have lss : (List.replicate i ((5 : Int), (0 : Int)) ++ [(1, (i : Int))]).length = i + 1 := by simp
  have hsi : (List.replicate i ((5 : Int), (0 : Int)) ++ [(1, (i : Int))])[i]? = some (1, (i : Int)) := by rw [List.getElem?_append_right (by simp)]; simp
  intro b1
  walk_at "m"
  refine o_mull .head (by omega) (by simp) (by simp only [List.length_cons, List.length_nil]; omega) (by omega) fun b2 => ?_
  walk_at "m"
  intro b3
  refine o_addl (.tail .head) .head (by simp; omega) fun b4 => ?_
  have eb : (List.replicate (Int.toNat (i : Int)) [D.tup [.int 5, .int 0]]).flatten ++ [D.tup [.int 1, .int i]] = cm (List.replicate i (5, 0) ++ [(1, (i : Int))]) := by
    rw [rep_cell, cm_append]; rfl
  rw [eb]
  obtain ⟨_, _, s1, -⟩ := hS.sk
  refine o_necl hr' (l := List.replicate i (5, 0) ++ [(1, (i : Int))]) (k := List.replicate i (5, 0) ++ [(1, (i : Int))]) (.tail (.tail (.tail (.tail (.tail (.tail (.tail (.tail (.tail (.tail (.tail s1))))))))))) .head ?_
  refine ⟨_, rfl, ?_⟩
  refine br_of_f (decide_eq_false (by simp)) ?_
  refine TSs.weak drop4 ?_
  walk_at "m"
  refine is_unbound_c k (by walk_at "m:hole") (hr'.mono (by omega)) (.inr ⟨rfl, by exact hsi⟩) (by simp) (by rw [lss]; omega) ?_
  walk_at "m"
  refine br_of_f (by simp) ?_
  walk_at "m"
  refine e_dict fun na => ?_
  refine vp_cons ?_
  walk_at "m"
  refine vp_nil ⟨_, _, .head, ?_⟩
  rw [show kMerge [((0 : Int), D.tup [.int 0, .int ((([] : List (Int × Int)).length : Nat) : Int)])] = [(0, .tup [.int 0, .int 0])] from rfl]
  walk_at "m"
  show CC c A' _ _ [.ref ra, .int ((2 : Nat) : Int)] _
  refine term_c k 2 (by walk_at "m:hole") (hr'.mono (by omega)) (by omega) fun t l1 hl1 ht => ?_
  walk_at "m"
  refine e_dict fun td => ?_
  refine vp_cons ?_
  walk_at "m"
  refine vp_cons ?_
  walk_at "m"
  refine vp_nil ⟨_, _, .head, ?_⟩
  simp only [show ∀ x y : D, kMerge [((0 : Int), x), (1, y)] = [(0, x), (1, y)] from fun _ _ => rfl]
  walk_at "m"
  have tnd : t.nd ≤ 16 := ht.nd
  have tsz : t.sz ≤ 13 := ht.sz
  have tdp : t.dp ≤ 2 := ht.dp
  refine put_term_c k (B := 100) (N := 100) (by walk_at "m:hole") (hr'.mono (by omega)) rfl ht.ok (by exact hy) (by rfl) (by rfl) (by omega) (by omega) (by omega) (by omega) (by omega) fun hs1 tb q hpt hq => ?_
  walk_at "m"
  have inj := hpt.inj
  have hTl : ∀ ns, NsOk (tAt tb) ns → ns.length < 1000 := fun ns hns => by have := hns.len; have := hpt.cnt; omega
  have e0 : [((0 : Int), D.tup [.int 0, .int 0])] = nkv (tAt tb) [0] := by unfold nkv; simp only [List.map_cons, List.map_nil, hpt.t0]; rfl
  rw [eF, e0]
  refine CC.perm (permN [_, _, _, _, _, _, _] (wsig a _) (na, _)) ?_
  obtain ⟨G, hG, eG⟩ : ∃ G, HF (nsig a na (tAt tb)) G ∧ ∀ z, G z = nsig a na (tAt tb) z ++ [] := ⟨fun z => nsig a na (tAt tb) z ++ [], fun w => Hole.here, fun _ => rfl⟩
  show CC c A' (_ :: _ :: _ :: _ :: _ :: _ :: _ :: (nsig a na (tAt tb) (⟨y, hs1, List.replicate i (5, 0) ++ [(0, 1)]⟩, [0]) ++ [])) _ _ _
  rw [← eG]
  clear eF eG hF
  have lss2 : (List.replicate i ((5 : Int), (0 : Int)) ++ [(0, 1)]).length = i + 1 := by simp
  have lh1 := hpt.len
  have ns0 : NsOk (tAt tb) [0] := ⟨⟨by simp, by simp⟩, fun x hx => by rw [List.mem_singleton.mp hx]; exact ⟨_, hpt.t0⟩⟩
  refine same_c k inj hTl t.sz t (Nat.le_refl _) (by walk_at "m:holeN") (hr'.mono (by omega)) (by exact hy) (by exact hq.rd) ht.ok (by exact ns0) (by show hs1.length < _; omega) (by show (List.replicate i ((5 : Int), (0 : Int)) ++ [(0, 1)]).length < _; omega) fun y1 ns1 hy1 hns1 => ?_
  walk_at "m"
  refine br_f ?_
  walk_at "m"
  generalize hw1 : (⟨y1, hs1, List.replicate i (5, 0) ++ [(0, 1)]⟩ : Wc) = w1
  refine x_asgc (names := ["turn"]) ?_ (by rfl) (by rfl) (by rfl) (by rfl) (by decide) (by rfl)
  walk_at "m"
  intro x2 l2 hl2
  walk_at "m"
  refine o_modl (j := 6) (by decide) fun n6 hn6 => ?_
  walk_at "m"
  refine cl_range fun r => ?_
  refine i_rngN .head (by omega) fun it => ⟨_, rfl, ?_⟩
  intro D1 L1
  refine ⟨self_rng (.tail (.tail .head)), ?_⟩
  refine CP.perm (List.perm_middle (l₁ := [_, _])).symm ?_
  have hpk : ∀ (p : Int × Int) (u : Tm), PkOk i q t p u → RD w1.hs w1.ss (tAt tb) p u ∧ u.ok ∧ u.dp ≤ 2 ∧ u.sz ≤ 13 := by
    subst hw1
    rintro p u (⟨rfl, rfl⟩ | ⟨rfl, rfl⟩ | ⟨rfl, rfl⟩ | ⟨rfl, rfl⟩ | ⟨rfl, rfl⟩)
    · have r1 := hpt.root 1 1 hpt.t1
      exact ⟨⟨(0, 1), 1, .go1 (p := (0, 1)) (by rw [List.getElem?_append_right (by simp)]; simp) (by simp) (.here0 (i := 1) r1), by rw [Rp]; exact ⟨1, hpt.t1, rfl, r1⟩⟩, trivial, by simp [Tm.dp], by simp [Tm.sz]⟩
    · exact ⟨hq.rd, ht.ok, tdp, tsz⟩
    · exact ⟨⟨(4, 4), 0, .stop (by simp) (by simp), by rw [Rp]⟩, .inr rfl, by simp [Tm.dp], by simp [Tm.sz]⟩
    · have r0 := hpt.root 0 0 hpt.t0
      exact ⟨⟨(0, 0), 0, .here0 (i := 0) r0, by rw [Rp]; exact ⟨0, hpt.t0, rfl, r0⟩⟩, trivial, by simp [Tm.dp], by simp [Tm.sz]⟩
    · exact ⟨⟨(5, 7), 0, .stop (by simp) (by simp), by rw [Rp]⟩, trivial, by simp [Tm.dp], by simp [Tm.sz]⟩
  refine cp_range (α := List ((Int × Int) × Tm) × List Int × Option D) (fun j z => (L1, .fr [("turn", z.2.2)]) :: (D1, .list (pd z.1)) :: (r, .rng 0 n6 1) :: (L, .fr (lf (some (.ref sc)) (some (.ref a.sg)) (some (.tup [.int 0, .int 0])) (some (.ref na)) none none none none none none none none none none none none none)) :: (ra, .list (im z.2.1)) :: (c5, .cell (some (.tup [.int q.1, .int q.2]))) :: (c4, .cell (some t.d)) :: (c3, .cell (some (.int i))) :: (c2, .cell (some (.ref a.st))) :: (c1, .cell (some (.ref ra))) :: G (w1, ns1))
    (fun j z => z.1.length = j ∧ (∀ e ∈ z.1, PkOk i q t e.1 e.2) ∧ z.2.1.length ≤ 120) ([], l2, none) ⟨rfl, fun e he => by simp at he, by dsimp only; omega⟩ rfl hr'.h ?_ ?_
  · rintro j ⟨its, l3, tn⟩ hj ⟨g1, g2, g3⟩
    dsimp only at g1 g2 g3 ⊢
    walk_at "m"
    refine picked_c k (l := l3) (by walk_at "m:holeR") (hr'.mono (by omega)) (by omega) fun p u l4 hl4 hp => ?_
    refine ⟨pd its, _, _, .tail (.tail .head), by unfold pd; rw [List.length_map]; omega, (its ++ [(p, u)], l4, some (.int j)), ⟨by rw [List.length_append, g1]; rfl, fun e he => ?_, by dsimp only; omega⟩, ?_⟩
    · rcases List.mem_append.mp he with he | he
      · exact g2 e he
      · rw [List.mem_singleton.mp he]; exact hp
    · rw [show pd (its ++ [(p, u)]) = pd its ++ [.tup [cellD p, u.d]] from by unfold pd; rw [List.map_append]; rfl]
  rintro ⟨its, l3, tn⟩ ⟨g1, g2, g3⟩
  dsimp only at g1 g2 g3 ⊢
  walk_at "m"
  refine ⟨_, _, _, .head, ?_⟩
  refine XS.weak (List.Sublist.cons_cons _ drop1) ?_
  walk_at "m"
  intro x5 l5 hl5
  walk_at "m"
  refine o_modl (j := 4) (by decide) fun nd hnd => ?_
  walk_at "m:a"
  have itl : its.length ≤ 5 := by omega
  have lw1 : w1.hs.length ≤ 100 := by subst hw1; exact lh1
  have lw2 : w1.ss.length = i + 1 := by subst hw1; exact lss2
  have psz : (pd its).length = its.length := pd_len its
  refine x_ifJ (α := (Int × Int) × (Int × Int) × Tm × List (Int × Int) × List Int)
    (fun z => (D1, .list (pd its)) :: (L, .fr (lf (some (.ref sc)) (some (.ref a.sg)) (some (.tup [.int 0, .int 0])) (some (.ref na)) (some (.ref D1)) (some (.int nd)) none (some (.tup [.int z.1.1, .int z.1.2])) (some (.tup [.tup [.int z.2.1.1, .int z.2.1.2], z.2.2.1.d])) none none none none none none none none)) :: (ra, .list (im z.2.2.2.2)) :: (c5, .cell (some (.tup [.int q.1, .int q.2]))) :: (c4, .cell (some t.d)) :: (c3, .cell (some (.int i))) :: (c2, .cell (some (.ref a.st))) :: (c1, .cell (some (.ref ra))) :: G ({ w1 with hs := z.2.2.2.1 }, ns1))
    (fun z => Ext w1.hs z.2.2.2.1 ∧ z.2.2.2.1.length ≤ 110 ∧ (∀ p ∈ z.2.2.2.1, p ∈ w1.hs ∨ p.1 ≠ 1) ∧ Rp z.2.2.2.1 w1.ss (tAt tb) z.1 (mkL (its.map (·.2)) z.2.2.1) ∧ RD w1.hs w1.ss (tAt tb) z.2.1 z.2.2.1 ∧ z.2.2.1.ok ∧ z.2.2.1.dp ≤ 2 ∧ z.2.2.1.sz ≤ 13 ∧ z.2.2.2.2.length ≤ 120) ?_ ?_
  · walk_at "m"
    refine br_by (fun e => ?_) (fun e => ?_)
    · walk_at "m"
      refine e_comp (names := ["item"]) ?_ (by rfl) (by rfl) (by rfl) (by decide) (by rfl)
      walk_at "m"
      refine i_list .head fun it2 => ⟨it2, rfl, ?_⟩
      intro D2 L2
      refine ⟨self_list (.tail (.tail .head)), ?_⟩
      refine CP.perm (List.perm_middle (l₁ := [_, _])).symm ?_
      refine cp_list (α := Option D) (fun j z => (L2, .fr [("item", z)]) :: (D2, .list (cm ((its.take j).map (·.1)))) :: (D1, .list (pd its)) :: (L, .fr (lf (some (.ref sc)) (some (.ref a.sg)) (some (.tup [.int 0, .int 0])) (some (.ref na)) (some (.ref D1)) (some (.int nd)) none none none none none none none none none none none)) :: (ra, .list (im l5)) :: (c5, .cell (some (.tup [.int q.1, .int q.2]))) :: (c4, .cell (some t.d)) :: (c3, .cell (some (.int i))) :: (c2, .cell (some (.ref a.st))) :: (c1, .cell (some (.ref ra))) :: G (w1, ns1)) (fun _ _ => True) none trivial rfl hr'.h (fun j z _ => Sel.any _ (Sel.any _ Sel.any0)) ?_ ?_
      · intro j z d hd _
        obtain ⟨pu, hpu, rfl⟩ := pd_get hd
        walk_at "m"
        refine ⟨_, _, _, .tail (.tail .head), cm_take_len its j (by omega), some (.tup [cellD pu.1, pu.2.d]), trivial, ?_⟩
        rw [cm_take_snoc hpu]
      intro z _
      rw [pd_len, List.take_length]
      refine ⟨_, _, _, .head, ?_⟩
      walk_at "m"
      refine build_list_c k (by walk_at "m:hole") (hr'.mono (by omega)) (ps := its.map (·.1)) (ts := its.map (·.2)) (dt := .none) (et := .a 0) (T := tAt tb) (fun w' => ⟨_, _, .head⟩) (.inl ⟨rfl, rfl⟩) (.inl ⟨rfl, rfl⟩) (by rw [List.length_map, List.length_map]) (fun j p hp => ?_) (by rw [List.length_map]; show w1.hs.length + _ ≤ _; omega) (by show w1.ss.length < _; omega) fun hs2 q2 x1 x2 x3 x4 => ?_
      · obtain ⟨e, he, rfl⟩ := map_get hp
        exact ⟨e.2, by rw [List.getElem?_map, he]; rfl, (hpk _ _ (g2 e (List.mem_of_getElem? he))).1⟩
      refine AS.weak drop1 ?_
      walk_at "m"
      replace x2 : hs2.length = w1.hs.length + 2 * its.length := by rw [List.length_map] at x2; exact x2
      exact joinF_next (q2, (4, 0), .a 0, hs2, l5) ⟨x1, by dsimp only; omega, x3, x4, ⟨_, 0, .stop (by simp) (by simp), by rw [Rp]⟩, .inl rfl, by simp [Tm.dp], by simp [Tm.sz], by dsimp only; omega⟩ rfl
    · walk_at "m"
      refine picked_c k (l := l5) (by walk_at "m:holeR") (hr'.mono (by omega)) (by omega) fun pe te l6 hl6 hp => ?_
      obtain ⟨k1, k2, k3, k4⟩ := hpk _ _ hp
      walk_at "m"
      refine e_comp (names := ["item"]) ?_ (by rfl) (by rfl) (by rfl) (by decide) (by rfl)
      walk_at "m"
      refine i_list .head fun it3 => ⟨it3, rfl, ?_⟩
      intro D3 L3
      refine ⟨self_list (.tail (.tail .head)), ?_⟩
      refine CP.perm (List.perm_middle (l₁ := [_, _])).symm ?_
      refine cp_list (α := Option D) (fun j z => (L3, .fr [("item", z)]) :: (D3, .list (cm ((its.take j).map (·.1)))) :: (D1, .list (pd its)) :: (L, .fr (lf (some (.ref sc)) (some (.ref a.sg)) (some (.tup [.int 0, .int 0])) (some (.ref na)) (some (.ref D1)) (some (.int nd)) none none (some (.tup [.tup [.int pe.1, .int pe.2], te.d])) none none none none none none none none)) :: (ra, .list (im l6)) :: (c5, .cell (some (.tup [.int q.1, .int q.2]))) :: (c4, .cell (some t.d)) :: (c3, .cell (some (.int i))) :: (c2, .cell (some (.ref a.st))) :: (c1, .cell (some (.ref ra))) :: G (w1, ns1)) (fun _ _ => True) none trivial rfl hr'.h (fun j z _ => Sel.any _ (Sel.any _ Sel.any0)) ?_ ?_
      · intro j z d hd _
        obtain ⟨pu, hpu, rfl⟩ := pd_get hd
        walk_at "m"
        refine ⟨_, _, _, .tail (.tail .head), cm_take_len its j (by omega), some (.tup [cellD pu.1, pu.2.d]), trivial, ?_⟩
        rw [cm_take_snoc hpu]
      intro z _
      rw [pd_len, List.take_length]
      refine ⟨_, _, _, .head, ?_⟩
      walk_at "m"
      refine build_list_c k (by walk_at "m:hole") (hr'.mono (by omega)) (ps := its.map (·.1)) (ts := its.map (·.2)) (dt := cellD pe) (et := te) (T := tAt tb) (fun w' => ⟨_, _, .head⟩) (.inr rfl) (.inr ⟨pe, rfl, k1⟩) (by rw [List.length_map, List.length_map]) (fun j p hp => ?_) (by rw [List.length_map]; show w1.hs.length + _ ≤ _; omega) (by show w1.ss.length < _; omega) fun hs2 q2 x1 x2 x3 x4 => ?_
      · obtain ⟨e, he, rfl⟩ := map_get hp
        exact ⟨e.2, by rw [List.getElem?_map, he]; rfl, (hpk _ _ (g2 e (List.mem_of_getElem? he))).1⟩
      refine AS.weak drop1 ?_
      walk_at "m"
      replace x2 : hs2.length = w1.hs.length + 2 * its.length := by rw [List.length_map] at x2; exact x2
      exact joinF_next (q2, pe, te, hs2, l6) ⟨x1, by dsimp only; omega, x3, x4, k1, k2, k3, k4, by dsimp only; omega⟩ rfl
  rintro ⟨q2, pe, te, hs2, l6⟩ ⟨x1, x2, x3, x4, x5, x6, x7, x8, x9⟩
  dsimp only at x1 x2 x3 x4 x5 x6 x7 x8 x9 ⊢
  obtain ⟨y1', H1, SS⟩ := w1
  simp only [Wc.mk.injEq] at hw1
  obtain ⟨rfl, rfl, hSS⟩ := hw1
  dsimp only at hpk lw1 lw2 x1 x3 x4 x5 ⊢
  exact law_B k h hr' hi inj hTl hpt hSS hq ht hpk lw2 x1 x2 x3 x9 hG hy1 hns1 g2 itl x4 x6 x7 x8 ⟨_, _, _, _, _, _, _, _, _, _, _, by walk_at "m:K"⟩ rfl
end
theorem nsIn_Ns {K : Frag} {h : Heap} {ns : Addr} {m : Str → Option Value} {name : Str} {r : Option Value} (X : K.In h) (hn : h.Ns ns m) (e : nsIn K ns name = some r) : m name = r := by
  obtain ⟨o, es, ep, ho, hd, _, hm⟩ := hn
  unfold nsIn at e
  split at e
  · rename_i c d es' n sl hl
    have h1 := X _ _ hl
    rw [ho] at h1
    cases h1
    cases hd
    rw [← hm name]
    unfold nsFind findBy
    rw [← Array.find?_toList]
    split at e
    · rename_i en he; cases e; rw [he]; rfl
    · rename_i he
      rw [he]
      split at e
      · cases e
      · cases e; rfl
  · cases e
theorem ints_rel {h : Heap} : ∀ {vs : List Value} {xs : List Int}, IntsAre vs xs → DRs h vs (im xs)
  | _, _, .nil => .nil
  | _, _, .cons n t r => .cons (.int n t) (ints_rel r)
theorem caller_room : Rm callerA 60 := ⟨rfl, by decide, by decide⟩
end Mine
theorem PySem.Challenge.cw_no0171_01_holds : PySem.Challenge.rw_no0171_01.Holds := by
  refine Mine.hd ?_
  k_fill
  intro w s₀ s₁ mg mb G Y fa o pm cd doc dV kV ho hd' hcd hD hmg hg args vals as hpre hlay hrd hwl hlo
  have KX := kIn_of Y
  refine Ground.open G ?_
  intro T B D TE TW
  have hm : mg "law" = some (.ref fa) := hmg
  clear hd' hcd hD hmg ho
  wrow_args hpre hlay hrd hwl hlo
  rename_i xs _ _ _ _ _ _ _ l vs _ hL _ _ _ hI _ hlen _
  refine enter_call ?_
  refine codeAny_mono ?_ (fun _ _ g => GoodW.toG g)
  have hfa := Mine.nsIn_Ns (r := some (.ref 414)) KX T.g (name := "law") (by k_is)
  rw [hm] at hfa
  cases hfa
  have hx : xs.length < 1000 := by omega
  exact Mine.law_c (c := ⟨PySem.Challenge.rw_no0171_01.row.prog, w, s₁.heap, s₁.os, Mine.hd.heap_1 w.params, KX, T.nolimit, ⟨mb, T.b, T.builtins⟩⟩) ⟨rfl⟩ (P := fun d _ => d = .bool true) (sc := l) (xs := xs) Mine.caller_room ⟨vs, hL, Mine.ints_rel hI⟩ hx (fun _ => rfl)
    [.ref l] s₁ _ ⟨⟨fun _ _ e => e, fun _ hp => by simp at hp, fun _ hp => by simp at hp, List.nodup_nil⟩, hg, rfl⟩ (.cons (.ref _) .nil) fun v s' d σ' hd hs _ hr => by
      subst hd
      cases hr
      exact ⟨.inl ⟨.bool true, .bool true, [], rfl, fun _ => rfl, .bool true, postW_of (by wrow_shape) (by wtm_val) (by first | done | rfl | (str_meet; first | done | w_fin)), fun _ => ⟨List.nodup_nil, fun _ hp => by simp at hp⟩⟩, hs.st.keep, hs.os, hs.gens⟩
