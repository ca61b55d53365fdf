import PyProof.Rows.All
import Wide.All
import OpenK.AllK
import Wide.FinOn
import Lean
import PySem.Challenge.RW_sa0467_01
set_option Elab.async false
set_option linter.all false
set_option backward.match.sparseCases false
section
open PySem PySem.W PyProof.Rows PySem.Calls
set_option maxRecDepth 100000
namespace Mine
noncomputable def keepL : List Nat := [0, 2, 3, 4, 5, 6, 7, 8, 9, 11, 12, 13, 14, 15, 16, 17, 18, 20, 21, 22, 23, 24, 25, 27, 28, 29, 31, 33, 34, 35, 36, 37, 38, 39, 40, 42, 43, 44, 45, 46, 47, 48, 49, 50, 51, 52, 53, 54]
noncomputable abbrev theRow : OpenRow := PySem.Challenge.rw_sa0467_01.row
noncomputable abbrev theView : Program := view theRow.toRowW.1 keepL
noncomputable abbrev theXt : Shared → Bool := fun s => xlAt theView [] s && recOk (RowW.records theRow.toRowW) s
theorem map_both {α β γ : Type} {o : Option α} {f : α → β} {g : α → γ} {a : β} {b : γ} (h1 : o.map f = some a) (h2 : o.map g = some b) : o.map (fun s => (f s, g s)) = some (a, b) := by
  cases o with
  | none => exact nomatch h1
  | some x => exact congrArg some (Prod.ext (Option.some.inj h1) (Option.some.inj h2))
theorem boot (w : World) : ∃ os, fencedOpening treeTable theRow.toRowW.1 w 5032 = some ⟨boot_heap w.params, #[], boot_drawn, boot_toks, os⟩ := by
  obtain ⟨⟨h, gs, d, k, os⟩, e, e'⟩ := Option.map_eq_some_iff.mp (boot_open (p := theRow.toRowW.1) (N := 5032) (by kernel_rfl) (by kernel_rfl) (fun s => by kernel_rfl) w)
  obtain ⟨h1, e'⟩ := Prod.mk.inj e'
  obtain ⟨h2, e'⟩ := Prod.mk.inj e'
  obtain ⟨h3, h4⟩ := Prod.mk.inj e'
  rw [show h = _ from h1, show gs = _ from h2, show d = _ from h3, show k = _ from h4] at e
  exact ⟨os, e⟩
noncomputable def runT (p : Program) (w : World) (n₀ : Nat) (ann : Option Value) (n : Nat) : SharedT → Thread → Option SharedT :=
  Nat.rec (fun _ _ => none) (fun _ ih s t => match through t with
    | true => some s
    | false => match Fast.tw6613529449190102663 n₀ ann t with
      | false => none
      | true => match Fast.tw10156331382660048174 (Fast.tw11892475500146522536 Fast.tw14364793385576792824) p w s t with
        | some (s', t') => ih s' t'
        | none => none) n
theorem runT_spec {p : Program} {w : World} {n₀ : Nat} {ann : Option Value} : ∀ (n : Nat) (s : SharedT) (t : Thread) (s' : SharedT), runT p w n₀ ann n s t = some s' → topRun treeTable p w n₀ ann n s.abs t = some s'.abs := by
  intro n
  induction n with
  | zero => intro s t s' h; exact nomatch h
  | succ n ih =>
    intro s t s' h
    have h : (match through t with
      | true => some s
      | false => match Fast.tw6613529449190102663 n₀ ann t with
        | false => none
        | true => match Fast.tw10156331382660048174 (Fast.tw11892475500146522536 Fast.tw14364793385576792824) p w s t with
          | some (s', t') => runT p w n₀ ann n s' t'
          | none => none) = some s' := h
    rw [← Fast.te6613529449190102663, ← Fast.te10156331382660048174, ← Fast.te11892475500146522536, ← Fast.te14364793385576792824] at h
    show (match through t with
      | true => some s.abs
      | false => match stepOk n₀ ann t with
        | false => none
        | true => match step (denote treeTable) p w s.abs t with
          | .go s' t' => topRun treeTable p w n₀ ann n s' t'
          | .halt _ _ => none) = some s'.abs
    generalize through t = b at h ⊢
    cases b with
    | true => exact congrArg (Option.map SharedT.abs) h
    | false =>
      generalize stepOk n₀ ann t = b at h ⊢
      cases b with
      | false => exact nomatch h
      | true =>
        generalize hs : stepT (denote treeTable) p w s t = q at h
        cases q with
        | none => exact nomatch h
        | some q =>
          rw [stepT_spec hs]
          exact ih _ _ _ h
noncomputable def insAll : List Obj → Nat → BT → BT
  | [], _, t => t
  | o :: r, n, t => insAll r (n + 1) (t.ins n o)
noncomputable def bootT (P : Params) : BT := insAll (boot_heap P).objs.toList 0 .nil
theorem bootT_abs (P : Params) : absHeap (bootT P) 11 (boot_heap P).life = boot_heap P := by kernel_rfl
noncomputable abbrev tree0 (w : World) (os : OsState) : SharedT := ⟨bootT w.params, 11, (boot_heap w.params).life, #[], boot_drawn, boot_toks, os⟩
theorem tree0_abs (w : World) (os : OsState) : (tree0 w os).abs = ⟨boot_heap w.params, #[], boot_drawn, boot_toks, os⟩ := congrArg (fun h => Shared.mk h #[] boot_drawn boot_toks os) (bootT_abs w.params)
noncomputable def ann0 (w : World) : Option Value := (boot_heap w.params).nsMap mainGlobals "__annotations__"
noncomputable def looksAt (p : Program) (h : Heap) (s : Shared) : Bool := staticsOk (importedModules p.main.body) h s.heap && namesBound p s.heap && gensDone s && laidKept h s.heap
theorem topFrom_of {tb : String → Option Builtin} {p : Program} {w : World} {N n₀ : Nat} {ann : Option Value} {s₀ s₁ : Shared} (z : (s₀.heap.isNs mainGlobals && s₀.gens.size == 0) = true) (hn : s₀.heap.objs.size = n₀) (ha : s₀.heap.nsMap mainGlobals "__annotations__" = ann)
    (r : topRun tb p w n₀ ann N s₀ (topStub p) = some s₁) (l : looksAt p s₀.heap s₁ = true) : topFrom tb p w N s₀ = some s₁ := by
  unfold looksAt at l
  unfold topFrom
  rw [z, hn, ha, r]
  show (match staticsOk (importedModules p.main.body) s₀.heap s₁.heap && namesBound p s₁.heap && gensDone s₁ && laidKept s₀.heap s₁.heap with | true => some s₁ | false => none) = _
  rw [l]
theorem openEnds_of {tb : String → Option Builtin} {p : Program} {w : World} {N : Nat} {s₀ s₁ : Shared} (e : fencedOpening tb p w N = some s₀) (t : topFrom tb p w N s₀ = some s₁) : openEnds tb p w N = some s₁ := by
  unfold openEnds
  rw [e]
  exact t
theorem boot_ns (w : World) (os : OsState) : ((Shared.mk (boot_heap w.params) #[] boot_drawn boot_toks os).heap.isNs mainGlobals && (Shared.mk (boot_heap w.params) #[] boot_drawn boot_toks os).gens.size == 0) = true := by kernel_rfl
theorem boot_size (w : World) (os : OsState) : (Shared.mk (boot_heap w.params) #[] boot_drawn boot_toks os).heap.objs.size = 11 := by kernel_rfl
theorem boot_ann (w : World) (os : OsState) : (Shared.mk (boot_heap w.params) #[] boot_drawn boot_toks os).heap.nsMap mainGlobals "__annotations__" = ann0 w := by kernel_rfl
noncomputable def ends (w : World) (os : OsState) : Option SharedT := runT theRow.toRowW.1 w 11 (ann0 w) 5032 (tree0 w os) (topStub theRow.toRowW.1)
theorem openEnds_tree {w : World} {os : OsState} {s : SharedT} (e : fencedOpening treeTable theRow.toRowW.1 w 5032 = some ⟨boot_heap w.params, #[], boot_drawn, boot_toks, os⟩) (h : ends w os = some s) (l : looksAt theRow.toRowW.1 (boot_heap w.params) s.abs = true) : openEnds treeTable theRow.toRowW.1 w 5032 = some s.abs := by
  have r := runT_spec _ _ _ _ h
  rw [tree0_abs] at r
  exact openEnds_of e (topFrom_of (boot_ns w os) (boot_size w os) (boot_ann w os) r l)
theorem of_tree {α : Type} {f : Shared → α} {a : α} {w : World} (h1 : ∀ os, (ends w os).map (fun s => looksAt theRow.toRowW.1 (boot_heap w.params) s.abs) = some true)
    (h2 : ∀ os, (ends w os).map (fun s => f s.abs) = some a) : (openEnds treeTable theRow.toRowW.1 w 5032).map f = some a := by
  obtain ⟨os, e⟩ := boot w
  obtain ⟨s, es, l⟩ := Option.map_eq_some_iff.mp (h1 os)
  rw [openEnds_tree e es l]
  have h2 := h2 os
  rw [es] at h2
  exact h2
noncomputable def seenT (s : SharedT) := openSeen theView ["HeapObject", "UpVal"] (importedModules theRow.toRowW.1.main.body) theXt true s.abs
theorem seen1L (w : World) (os : OsState) : (ends w os).map (fun s => (looksAt theRow.toRowW.1 (boot_heap w.params) s.abs, (seenT s).1, (seenT s).2.1, (seenT s).2.2.2.2.2.2.1, (seenT s).2.2.2.2.2.2.2.2)) =
    some (true, expectedOf theView, bltViewBooted, plainGoodD theView ["HeapObject", "UpVal"], clsGoodW theView ["HeapObject", "UpVal"]) := by
  unfold seenT
  rw [Fast.te4187177175401517315]
  kernel_rfl
theorem map_fst {α β γ : Type} {o : Option α} {f : α → β} {g : α → γ} {b : β} {c : γ} (h : o.map (fun s => (f s, g s)) = some (b, c)) : o.map f = some b ∧ o.map g = some c := by
  cases o with
  | none => exact nomatch h
  | some s => exact (Prod.mk.inj (Option.some.inj h)).imp (congrArg some) (congrArg some)
theorem looks1 (w : World) (os : OsState) : (ends w os).map (fun s => looksAt theRow.toRowW.1 (boot_heap w.params) s.abs) = some true := (map_fst (seen1L w os)).1
theorem seen2 (w : World) (os : OsState) : (ends w os).map (fun s => ((seenT s).2.2.1, (seenT s).2.2.2.1, (seenT s).2.2.2.2.1)) = some (true, true, pinGoodD (drecsOf theView)) := by
  unfold seenT
  rw [Fast.te4187177175401517315]
  kernel_rfl
theorem seen3 (w : World) (os : OsState) : (ends w os).map (fun s => ((seenT s).2.2.2.2.2.1, (seenT s).2.2.2.2.2.2.2.1)) = some (plainGoodE theView (looseW theView ["HeapObject", "UpVal"]), wideGood theView) := by
  unfold seenT
  rw [Fast.te4187177175401517315]
  kernel_rfl
theorem comb {α A B C D E F G H I : Type} {o : Option α} {f : α → A × B × C × D × E × F × G × H × I} {a : A} {b : B} {c : C} {d : D} {e : E} {k : F} {g : G} {h : H} {i : I} (h1 : o.map (fun s => ((f s).1, (f s).2.1, (f s).2.2.2.2.2.2.1, (f s).2.2.2.2.2.2.2.2)) = some (a, b, g, i))
    (h2 : o.map (fun s => ((f s).2.2.1, (f s).2.2.2.1, (f s).2.2.2.2.1)) = some (c, d, e)) (h3 : o.map (fun s => ((f s).2.2.2.2.2.1, (f s).2.2.2.2.2.2.2.1)) = some (k, h)) : o.map f = some (a, b, c, d, e, k, g, h, i) := by
  cases o with
  | none => exact nomatch h1
  | some s =>
    obtain ⟨x1, h1⟩ := Prod.mk.inj (Option.some.inj h1)
    obtain ⟨x2, h1⟩ := Prod.mk.inj h1
    obtain ⟨x7, x9⟩ := Prod.mk.inj h1
    obtain ⟨x3, h2⟩ := Prod.mk.inj (Option.some.inj h2)
    obtain ⟨x4, x5⟩ := Prod.mk.inj h2
    obtain ⟨x6, x8⟩ := Prod.mk.inj (Option.some.inj h3)
    exact congrArg some (Prod.ext x1 (Prod.ext x2 (Prod.ext x3 (Prod.ext x4 (Prod.ext x5 (Prod.ext x6 (Prod.ext x7 (Prod.ext x8 x9))))))))
theorem left12 (w : World) : (openEnds treeTable theRow.toRowW.1 w 5032).map (fun s => openSeen theView ["HeapObject", "UpVal"] (importedModules theRow.toRowW.1.main.body) theXt true s) = some (openGood theView ["HeapObject", "UpVal"]) :=
  of_tree (looks1 w) fun os => comb (f := seenT) (map_fst (seen1L w os)).2 (seen2 w os) (seen3 w os)
end Mine
end
section
open PySem PySem.W PyProof.Rows
namespace Mine
inductive Kd where
  | tmp | bag | world | ground | stack | opens | frames | made | known | notes | places | frame | upval
  deriving DecidableEq
inductive V where
  | none
  | bool (b : Bool)
  | int (i : Int)
  | str (s : Str)
  | tup (vs : List V)
  | lst (vs : List V)
  | ref (k : Kd) (i : Nat)
  | fn (n : Nat)
  | cls (k : Kd)
  | undef
noncomputable def V.int? : V → Option Int
  | .int i => some i
  | _ => Option.none
noncomputable def V.lst? : V → Option (List V)
  | .lst l => some l
  | _ => Option.none
noncomputable def V.tup? : V → Option (List V)
  | .tup l => some l
  | _ => Option.none
noncomputable def V.bool? : V → Option Bool
  | .bool l => some l
  | _ => Option.none
noncomputable def V.str? : V → Option Str
  | .str l => some l
  | _ => Option.none
noncomputable def V.fn? : V → Option Nat
  | .fn l => some l
  | _ => Option.none
noncomputable def V.cls? : V → Option Kd
  | .cls l => some l
  | _ => Option.none
noncomputable def V.isN : V → Option Bool
  | .none => some true
  | .undef => Option.none
  | _ => some false
noncomputable def oneOf : List V → Option V
  | [u] => some u
  | _ => Option.none
noncomputable def pairOf : List V → Option (V × V)
  | [u, v] => some (u, v)
  | _ => Option.none
inductive MObj where
  | gone
  | list (vs : List V)
  | dict (vs : List V)
  | inst (vs : List V)
noncomputable abbrev St := Kd → List MObj
noncomputable def St.put (σ : St) (k : Kd) (l : List MObj) : St := fun k' => if k' = k then l else σ k'
noncomputable def St.setO (σ : St) (k : Kd) (i : Nat) (o : MObj) : St := σ.put k ((σ k).set i o)
noncomputable def St.push (σ : St) (k : Kd) (o : MObj) : St := σ.put k (σ k ++ [o])
noncomputable def St.lst (σ : St) (k : Kd) (i : Nat) : Option (List V) := match (σ k)[i]? with | some (.list vs) => some vs | _ => Option.none
noncomputable def St.dct (σ : St) (k : Kd) (i : Nat) : Option (List V) := match (σ k)[i]? with | some (.dict vs) => some vs | _ => Option.none
noncomputable def St.ins (σ : St) (k : Kd) (i : Nat) : Option (List V) := match (σ k)[i]? with | some (.inst vs) => some vs | _ => Option.none
noncomputable def fields : Kd → List Str
  | .bag => ["all", "at"]
  | .world => ["ground", "frames", "top", "made", "known", "notes", "places", "shift", "stands", "entered", "well"]
  | .frame => ["func", "base", "top", "wanted", "pc", "tails", "is_fresh"]
  | .upval => ["number", "mark", "size", "thread", "index", "value"]
  | .ground => ["stack", "open_upvals", "answers", "is_over"]
  | _ => []
set_option genInjectivity false in
set_option genSizeOf false in
inductive ME where
  | con (v : V)
  | loc (i : Nat)
  | glob (x : Str) (v : V)
  | bin (op : Operator) (a b : ME)
  | neg (a : ME)
  | not (a : ME)
  | cmp (op : CmpOp) (a b : ME)
  | bop (isAnd : Bool) (es : List ME)
  | ite (t a b : ME)
  | tup (es : List ME)
  | lst (es : List ME)
  | newl (k : Kd) (es : List ME)
  | newd (k : Kd) (es : List ME)
  | idx (a i : ME)
  | key (a : ME) (k : Kd) (j : Nat)
  | attr (a : ME) (k : Kd) (j : Nat)
  | slcAB (a lo hi : ME)
  | slcA (a lo : ME)
  | slcB (a hi : ME)
  | call (f : ME) (args : List ME)
  | meth (a : ME) (k : Kd) (f : Nat) (args : List ME)
  | cmeth (f : Nat) (args : List ME)
  | len (a : ME)
  | min (a b : ME)
  | max (a b : ME)
  | listOf (k : Kd) (a : ME)
  | append (a x : ME)
  | extend (a x : ME)
  | pop (a : ME)
  | pop0 (a : ME)
  | insert (a i x : ME)
  | freeze (a : ME)
  | compR (elt n : ME)
  | compS (elt src : ME)
  | compSC (elt src cond : ME)
  | compEC (elt src cond : ME)
set_option genInjectivity false in
set_option genSizeOf false in
inductive MT where
  | loc (i : Nat)
  | key (a : ME) (k : Kd) (j : Nat)
  | attr (a : ME) (k : Kd) (j : Nat)
  | idx (a i : ME)
  | slc (a lo hi : ME)
set_option genInjectivity false in
set_option genSizeOf false in
inductive MS where
  | expr (e : ME)
  | asg (t : MT) (e : ME)
  | asgT (ts : List MT) (e : ME)
  | augL (i : Nat) (op : Operator) (e : ME)
  | augA (a : ME) (k : Kd) (j : Nat) (op : Operator) (e : ME)
  | ite (t : ME) (a b : List MS)
  | whil (t : ME) (b : List MS)
  | forR (i : Nat) (lo hi : ME) (b : List MS)
  | forR1 (i : Nat) (hi : ME) (b : List MS)
  | forS (i : Nat) (src : ME) (b : List MS)
  | forS2 (i j : Nat) (src : ME) (b : List MS)
  | ret (e : ME)
  | cont
noncomputable def LIM : Nat := 1048576
noncomputable def okLen (n : Nat) : Bool := decide (n ≤ LIM)
noncomputable def eqLF (f : V → V → Bool) : List V → List V → Bool
  | [], [] => true
  | x :: xs, y :: ys => f x y && eqLF f xs ys
  | _, _ => false
noncomputable def eqP : Nat → V → V → Bool
  | 0, _, _ => false
  | n + 1, a, b => match a with
    | .none => b.isN == some true
    | .bool x => b.bool? == some x
    | .int x => b.int? == some x
    | .str x => b.str? == some x && PyData.strOk x
    | .tup xs => (match b.tup? with | some ys => eqLF (eqP n) xs ys | Option.none => false)
    | .lst xs => (match b.lst? with | some ys => eqLF (eqP n) xs ys | Option.none => false)
    | _ => false
noncomputable def deref (σ : St) (v : V) : V := match v with
  | .ref k i => (match σ.lst k i with | some vs => .lst vs | Option.none => v)
  | v => v
noncomputable def small (i : Int) : Bool := decide (-1000000000 ≤ i) && decide (i ≤ 1000000000)
noncomputable def peq (a b : V) : Option Bool := match a with
  | .none => (b.isN).bind fun c => if c then some true else Option.none
  | .bool x => (b.bool?).bind fun y => some (x == y)
  | .int x => (b.int?).bind fun y => some (x == y)
  | .str x => (b.str?).bind fun y => some (x == y)
  | .tup xs => (b.tup?).bind fun ys => if eqP 30 (.tup xs) (.tup ys) then some true else Option.none
  | .lst xs => (b.lst?).bind fun ys => if xs.length ≠ ys.length then some false else if eqP 30 (.lst xs) (.lst ys) then some true else Option.none
  | _ => Option.none
noncomputable def intop (op : Operator) (x y : Int) : Option V := match op with
  | .Add => some (.int (x + y))
  | .Sub => some (.int (x - y))
  | .Mult => if small x ∧ small y then some (.int (x * y)) else Option.none
  | .FloorDiv => if small x ∧ small y ∧ y ≠ 0 then some (.int (Int.fdiv x y)) else Option.none
  | .Mod => if ¬ y = 0 then some (.int (Int.fmod x y)) else Option.none
  | .BitAnd => if 0 ≤ x ∧ 0 ≤ y then some (.int (x.toNat &&& y.toNat : Nat)) else Option.none
  | .BitOr => if 0 ≤ x ∧ 0 ≤ y then some (.int (x.toNat ||| y.toNat : Nat)) else Option.none
  | .LShift => if 0 ≤ x ∧ x < 1048576 ∧ 0 ≤ y ∧ y < 64 then some (.int (x * 2 ^ y.toNat)) else Option.none
  | .RShift => if 0 ≤ x ∧ 0 ≤ y ∧ y < 64 then some (.int (x / 2 ^ y.toNat)) else Option.none
  | _ => Option.none
noncomputable def binop (op : Operator) (a b : V) : Option V := match a with
  | .int x => (match b with
    | .int y => intop op x y
    | .bool y => if op = .Mult ∧ small x then some (.int (x * (if y then 1 else 0))) else Option.none
    | _ => Option.none)
  | .lst xs => (match b with
    | .lst ys => if op = .Add ∧ okLen (xs.length + ys.length) then some (.lst (xs ++ ys)) else Option.none
    | .int n => (oneOf xs).bind fun x => if op = .Mult ∧ okLen n.toNat ∧ small n then some (.lst (List.replicate n.toNat x)) else Option.none
    | _ => Option.none)
  | _ => Option.none
noncomputable def cmpop (σ : St) (op : CmpOp) (a b : V) : Option Bool := match op with
  | .Eq => (match a with
    | .ref k i => (match b with
      | .ref k' j => if k = .upval ∧ k' = .upval ∧ (σ.ins .upval i).isSome ∧ (σ.ins .upval j).isSome then some (i == j) else Option.none
      | _ => Option.none)
    | _ => peq a b)
  | .NotEq => (peq a b).bind fun c => some (!c)
  | .Lt => (a.int?).bind fun x => (b.int?).bind fun y => some (decide (x < y))
  | .LtE => (a.int?).bind fun x => (b.int?).bind fun y => some (decide (x ≤ y))
  | .Gt => (a.int?).bind fun x => (b.int?).bind fun y => some (decide (x > y))
  | .GtE => (a.int?).bind fun x => (b.int?).bind fun y => some (decide (x ≥ y))
  | .Is => (match b with | .none => a.isN | _ => Option.none)
  | .IsNot => (match b with | .none => (a.isN).bind fun c => some (!c) | _ => Option.none)
  | .In => (a.int?).bind fun x => (b.tup?).bind fun l => (pairOf l).bind fun (u, v) => (u.int?).bind fun y => (v.int?).bind fun z => some (x == y || x == z)
  | _ => Option.none
noncomputable def place (n : Nat) (i : Int) : Option Nat := if 0 ≤ i ∧ i < n then some i.toNat else if i < 0 ∧ -(n : Int) ≤ i then some (n + i).toNat else Option.none
noncomputable def cutAB (vs : List V) (lo hi : Option Int) : List V :=
  (vs.drop (lo.elim 0 (clipAt vs.length))).take (hi.elim vs.length (clipAt vs.length) - lo.elim 0 (clipAt vs.length))
noncomputable def items (σ : St) (v : V) : Option (List V) := match v with
  | .lst vs => some vs
  | .tup vs => some vs
  | .ref k i => σ.lst k i
  | _ => Option.none
noncomputable def sliced (σ : St) (v : V) (lo hi : Option Int) : Option V := match v with
  | .tup vs => (match lo, hi with
    | Option.none, some k => if 0 ≤ k ∧ k < vs.length then some (.tup (vs.take k.toNat)) else Option.none
    | _, _ => Option.none)
  | .lst vs => some (.lst (cutAB vs lo hi))
  | .ref k i => (σ.lst k i).map fun vs => .lst (cutAB vs lo hi)
  | _ => Option.none
noncomputable abbrev CallF := V → List V → St → Option (V × St)
noncomputable def turnItem (σ : St) (v : V) (n j : Nat) : Option V := match v with
  | .lst vs => vs[j]?
  | .ref k i => (match σ.lst k i with | some vs => if vs.length = n then vs[j]? else Option.none | Option.none => Option.none)
  | _ => Option.none
noncomputable def turns (σ : St) (v : V) : Option Nat := match v with
  | .lst vs => some vs.length
  | .ref k i => (σ.lst k i).map List.length
  | _ => Option.none
noncomputable def gather (f : Nat → St → Option (List V × St)) : Nat → Nat → St → Option (List V × St)
  | 0, _, σ => some ([], σ)
  | n + 1, j, σ => (f j σ).bind fun (x, σ₁) => (gather f n (j + 1) σ₁).bind fun (xs, σ₂) => some (x ++ xs, σ₂)
mutual
noncomputable def ev (cl : CallF) : ME → List V → St → Option (V × St)
  | .con v, _, σ => some (v, σ)
  | .loc i, m, σ => (match m[i]? with | some .undef => Option.none | some v => some (v, σ) | Option.none => Option.none)
  | .glob _ v, _, σ => some (v, σ)
  | .bin op a b, m, σ => (ev cl a m σ).bind fun (x, σ₁) => (ev cl b m σ₁).bind fun (y, σ₂) => (binop op (deref σ₂ x) (deref σ₂ y)).bind fun z => some (z, σ₂)
  | .neg a, m, σ => (ev cl a m σ).bind fun (x, σ₁) => (match x with | .int i => some (.int (-i), σ₁) | _ => Option.none)
  | .not a, m, σ => (ev cl a m σ).bind fun (x, σ₁) => (match x with | .bool b => some (.bool (!b), σ₁) | _ => Option.none)
  | .cmp op a b, m, σ => (ev cl a m σ).bind fun (x, σ₁) => (ev cl b m σ₁).bind fun (y, σ₂) => (cmpop σ₂ op (deref σ₂ x) (deref σ₂ y)).bind fun z => some (.bool z, σ₂)
  | .bop isAnd es, m, σ => evB cl isAnd es m σ
  | .ite t a b, m, σ => (evT cl t m σ).bind fun (c, σ₁) => if c then ev cl a m σ₁ else ev cl b m σ₁
  | .tup es, m, σ => (evs cl es m σ).bind fun (xs, σ₁) => some (.tup xs, σ₁)
  | .lst es, m, σ => (evs cl es m σ).bind fun (xs, σ₁) => some (.lst xs, σ₁)
  | .newl k es, m, σ => (evs cl es m σ).bind fun (xs, σ₁) => some (.ref k (σ₁ k).length, σ₁.push k (.list xs))
  | .newd k es, m, σ => (evs cl es m σ).bind fun (xs, σ₁) => some (.ref k (σ₁ k).length, σ₁.push k (.dict xs))
  | .idx a i, m, σ => (ev cl a m σ).bind fun (x, σ₁) => (ev cl i m σ₁).bind fun (y, σ₂) => (match y with
      | .int n => (items σ₂ x).bind fun vs => (place vs.length n).bind fun j => (vs[j]?).bind fun z => some (z, σ₂)
      | _ => Option.none)
  | .key a k j, m, σ => (ev cl a m σ).bind fun (x, σ₁) => (match x with
      | .ref k' i => if k' = k then (σ₁.dct k i).bind fun vs => (vs[j]?).bind fun z => some (z, σ₁) else Option.none
      | _ => Option.none)
  | .attr a k j, m, σ => (ev cl a m σ).bind fun (x, σ₁) => (match x with
      | .ref k' i => if k' = k then (σ₁.ins k i).bind fun vs => (vs[j]?).bind fun z => some (z, σ₁) else Option.none
      | _ => Option.none)
  | .slcAB a lo hi, m, σ => (ev cl a m σ).bind fun (x, σ₁) => (ev cl lo m σ₁).bind fun (l, σ₂) => (ev cl hi m σ₂).bind fun (h, σ₃) => (l.int?).bind fun p => (h.int?).bind fun q => (sliced σ₃ x (some p) (some q)).bind fun z => some (z, σ₃)
  | .slcA a lo, m, σ => (ev cl a m σ).bind fun (x, σ₁) => (ev cl lo m σ₁).bind fun (l, σ₂) => (match l with
      | .int p => (sliced σ₂ x (some p) Option.none).bind fun z => some (z, σ₂)
      | _ => Option.none)
  | .slcB a hi, m, σ => (ev cl a m σ).bind fun (x, σ₁) => (ev cl hi m σ₁).bind fun (h, σ₂) => (match h with
      | .int q => (sliced σ₂ x Option.none (some q)).bind fun z => some (z, σ₂)
      | _ => Option.none)
  | .call f args, m, σ => (ev cl f m σ).bind fun (g, σ₁) => (evs cl args m σ₁).bind fun (xs, σ₂) => cl g xs σ₂
  | .meth a k f args, m, σ => (ev cl a m σ).bind fun (x, σ₁) => (match x with
      | .ref k' i => if k' = k ∧ (σ₁.ins k i).isSome then (evs cl args m σ₁).bind fun (xs, σ₂) => cl (.fn f) (x :: xs) σ₂ else Option.none
      | _ => Option.none)
  | .cmeth f args, m, σ => (evs cl args m σ).bind fun (xs, σ₁) => cl (.fn f) xs σ₁
  | .len a, m, σ => (ev cl a m σ).bind fun (x, σ₁) => (items σ₁ x).bind fun vs => some (.int vs.length, σ₁)
  | .min a b, m, σ => (ev cl a m σ).bind fun (x, σ₁) => (ev cl b m σ₁).bind fun (y, σ₂) => (x.int?).bind fun p => (y.int?).bind fun q => some (.int (if q < p then q else p), σ₂)
  | .max a b, m, σ => (ev cl a m σ).bind fun (x, σ₁) => (ev cl b m σ₁).bind fun (y, σ₂) => (x.int?).bind fun p => (y.int?).bind fun q => some (.int (if q > p then q else p), σ₂)
  | .listOf k a, m, σ => (ev cl a m σ).bind fun (x, σ₁) => (match x with
      | .lst vs => some (.ref k (σ₁ k).length, σ₁.push k (.list vs))
      | _ => Option.none)
  | .append a x, m, σ => (ev cl a m σ).bind fun (l, σ₁) => (ev cl x m σ₁).bind fun (y, σ₂) => (match l with
      | .ref k i => if (σ₁.lst k i).isSome then (σ₂.lst k i).bind fun vs => if okLen (vs.length + 1) then some (.none, σ₂.setO k i (.list (vs ++ [y]))) else Option.none else Option.none
      | _ => Option.none)
  | .extend a x, m, σ => (ev cl a m σ).bind fun (l, σ₁) => (ev cl x m σ₁).bind fun (y, σ₂) => (match l with
      | .ref k i => (y.lst?).bind fun ys => if (σ₁.lst k i).isSome then (σ₂.lst k i).bind fun vs => if okLen (vs.length + ys.length) then some (.none, σ₂.setO k i (.list (vs ++ ys))) else Option.none else Option.none
      | _ => Option.none)
  | .pop a, m, σ => (ev cl a m σ).bind fun (l, σ₁) => (match l with
      | .ref k i => (σ₁.lst k i).bind fun vs => (vs.getLast?).bind fun y => some (y, σ₁.setO k i (.list vs.dropLast))
      | _ => Option.none)
  | .pop0 a, m, σ => (ev cl a m σ).bind fun (l, σ₁) => (match l with
      | .ref k i => (σ₁.lst k i).bind fun vs => (match vs with | y :: r => some (y, σ₁.setO k i (.list r)) | [] => Option.none)
      | _ => Option.none)
  | .insert a p x, m, σ => (ev cl a m σ).bind fun (l, σ₁) => (ev cl p m σ₁).bind fun (n, σ₂) => (ev cl x m σ₂).bind fun (y, σ₃) => (match l with
      | .ref k i => (n.int?).bind fun j => if (σ₁.lst k i).isSome then (σ₃.lst k i).bind fun vs => if 0 ≤ j ∧ j ≤ vs.length ∧ okLen (vs.length + 1) then some (.none, σ₃.setO k i (.list (vs.take j.toNat ++ y :: vs.drop j.toNat))) else Option.none else Option.none
      | _ => Option.none)
  | .freeze a, m, σ => (ev cl a m σ).bind fun (l, σ₁) => (match l with
      | .ref k i => (σ₁.lst k i).bind fun vs => some (.lst vs, σ₁.setO k i .gone)
      | _ => Option.none)
  | .compR elt n, m, σ => (ev cl n m σ).bind fun (x, σ₁) => (match x with
      | .int c => if okLen c.toNat ∧ small c then (gather (fun j τ => (ev cl elt (m ++ [.int j]) τ).bind fun (y, τ₁) => some ([y], τ₁)) c.toNat 0 σ₁).bind fun (ys, σ₂) => some (.lst ys, σ₂) else Option.none
      | _ => Option.none)
  | .compS elt src, m, σ => (ev cl src m σ).bind fun (x, σ₁) => (turns σ₁ x).bind fun c => (gather (fun j τ => (turnItem τ x c j).bind fun z =>
      (ev cl elt (m ++ [z]) τ).bind fun (y, τ₁) => some ([y], τ₁)) c 0 σ₁).bind fun (ys, σ₂) => if turns σ₂ x = some c then some (.lst ys, σ₂) else Option.none
  | .compSC elt src cond, m, σ => (ev cl src m σ).bind fun (x, σ₁) => (turns σ₁ x).bind fun c => (gather (fun j τ => (turnItem τ x c j).bind fun z =>
      (evT cl cond (m ++ [z]) τ).bind fun (b, τ₀) => if b then (ev cl elt (m ++ [z]) τ₀).bind fun (y, τ₁) => some ([y], τ₁) else some ([], τ₀)) c 0 σ₁).bind fun (ys, σ₂) => if turns σ₂ x = some c then some (.lst ys, σ₂) else Option.none
  | .compEC elt src cond, m, σ => (ev cl src m σ).bind fun (x, σ₁) => (turns σ₁ x).bind fun c => (gather (fun j τ => (turnItem τ x c j).bind fun z =>
      (evT cl cond (m ++ [.int j, z]) τ).bind fun (b, τ₀) => if b then (ev cl elt (m ++ [.int j, z]) τ₀).bind fun (y, τ₁) => some ([y], τ₁) else some ([], τ₀)) c 0 σ₁).bind fun (ys, σ₂) => if turns σ₂ x = some c then some (.lst ys, σ₂) else Option.none
noncomputable def evs (cl : CallF) : List ME → List V → St → Option (List V × St)
  | [], _, σ => some ([], σ)
  | e :: r, m, σ => (ev cl e m σ).bind fun (x, σ₁) => (evs cl r m σ₁).bind fun (xs, σ₂) => some (x :: xs, σ₂)
noncomputable def evT (cl : CallF) : ME → List V → St → Option (Bool × St)
  | .not a, m, σ => (evT cl a m σ).bind fun (b, σ₁) => some (!b, σ₁)
  | .bop isAnd es, m, σ => evA cl isAnd es m σ
  | .ite t a b, m, σ => (evT cl t m σ).bind fun (c, σ₁) => if c then evT cl a m σ₁ else evT cl b m σ₁
  | .cmp op a b, m, σ => (ev cl a m σ).bind fun (x, σ₁) => (ev cl b m σ₁).bind fun (y, σ₂) => (cmpop σ₂ op (deref σ₂ x) (deref σ₂ y)).bind fun z => some (z, σ₂)
  | .con v, _, σ => (match v with | .bool b => some (b, σ) | _ => Option.none)
  | .loc i, m, σ => (match m[i]? with | some (.bool b) => some (b, σ) | _ => Option.none)
  | .key a k j, m, σ => (ev cl a m σ).bind fun (x, σ₁) => (match x with
      | .ref k' i => if k' = k then (σ₁.dct k i).bind fun vs => (match vs[j]? with | some (.bool b) => some (b, σ₁) | _ => Option.none) else Option.none
      | _ => Option.none)
  | .idx a i, m, σ => (ev cl a m σ).bind fun (x, σ₁) => (ev cl i m σ₁).bind fun (y, σ₂) => (match y with
      | .int n => (items σ₂ x).bind fun vs => (place vs.length n).bind fun j => (match vs[j]? with | some (.bool b) => some (b, σ₂) | _ => Option.none)
      | _ => Option.none)
  | .call f args, m, σ => (ev cl f m σ).bind fun (g, σ₁) => (evs cl args m σ₁).bind fun (xs, σ₂) => (cl g xs σ₂).bind fun (v, σ₃) => (match v with | .bool b => some (b, σ₃) | _ => Option.none)
  | _, _, _ => Option.none
noncomputable def evB (cl : CallF) (isAnd : Bool) : List ME → List V → St → Option (V × St)
  | [], _, _ => Option.none
  | [e], m, σ => ev cl e m σ
  | e :: r, m, σ => (ev cl e m σ).bind fun (x, σ₁) => (match x with
      | .bool b => if b == isAnd then evB cl isAnd r m σ₁ else some (.bool b, σ₁)
      | _ => Option.none)
noncomputable def evA (cl : CallF) (isAnd : Bool) : List ME → List V → St → Option (Bool × St)
  | [], _, σ => some (isAnd, σ)
  | e :: r, m, σ => (evT cl e m σ).bind fun (b, σ₁) => if b == isAnd then evA cl isAnd r m σ₁ else some (b, σ₁)
end
noncomputable def putNm (i : Nat) (z : V) (m : List V) : Option (List V) := if i < m.length then some (m.set i z) else Option.none
noncomputable def putPr (i j : Nat) (z : V) (m : List V) : Option (List V) := (z.tup?).bind fun l => (pairOf l).bind fun (a, b) => if i < m.length ∧ j < m.length then some ((m.set i a).set j b) else Option.none
inductive Fl where
  | next | cont | ret (v : V)
noncomputable def setTo (cl : CallF) (t : MT) (v : V) (m : List V) (σ : St) : Option (List V × St) := match t with
  | .loc i => if i < m.length then some (m.set i v, σ) else Option.none
  | .key a k j => (ev cl a m σ).bind fun (x, σ₁) => (match x with
      | .ref k' i => if k' = k then (σ₁.dct k i).bind fun vs => if j < vs.length then some (m, σ₁.setO k i (.dict (vs.set j v))) else Option.none else Option.none
      | _ => Option.none)
  | .attr a k j => (ev cl a m σ).bind fun (x, σ₁) => (match x with
      | .ref k' i => if k' = k then (σ₁.ins k i).bind fun vs => if j < vs.length then some (m, σ₁.setO k i (.inst (vs.set j v))) else if j = vs.length then some (m, σ₁.setO k i (.inst (vs ++ [v]))) else Option.none else Option.none
      | _ => Option.none)
  | .idx a p => (ev cl a m σ).bind fun (x, σ₁) => (ev cl p m σ₁).bind fun (y, σ₂) => (match x with
      | .ref k i => (y.int?).bind fun n => (σ₂.lst k i).bind fun vs => if 0 ≤ n ∧ n < vs.length then some (m, σ₂.setO k i (.list (vs.set n.toNat v))) else Option.none
      | _ => Option.none)
  | .slc a lo hi => (ev cl a m σ).bind fun (x, σ₁) => (ev cl lo m σ₁).bind fun (l, σ₂) => (ev cl hi m σ₂).bind fun (h, σ₃) => (match x with
      | .ref k i => (l.int?).bind fun p => (h.int?).bind fun q => (v.lst?).bind fun ys => (σ₃.lst k i).bind fun vs => if 0 ≤ p ∧ p + ys.length = q ∧ q ≤ vs.length then some (m, σ₃.setO k i (.list (vs.take p.toNat ++ ys ++ vs.drop q.toNat))) else Option.none
      | _ => Option.none)
noncomputable def setAll (cl : CallF) : List MT → List V → List V → St → Option (List V × St)
  | [], [], m, σ => some (m, σ)
  | t :: ts, v :: vs, m, σ => (setTo cl t v m σ).bind fun (m₁, σ₁) => setAll cl ts vs m₁ σ₁
  | _, _, _, _ => Option.none
noncomputable def WF : Nat := 100000
noncomputable def loopW (t : List V → St → Option (Bool × St)) (b : List V → St → Option (Fl × List V × St)) : Nat → List V → St → Option (Fl × List V × St)
  | 0, _, _ => Option.none
  | n + 1, m, σ => (t m σ).bind fun (c, σ₁) => if c then (b m σ₁).bind fun (f, m₂, σ₂) => (match f with
      | .ret v => some (.ret v, m₂, σ₂)
      | _ => loopW t b n m₂ σ₂) else some (.next, m, σ₁)
noncomputable def loopF (b : V → List V → St → Option (Fl × List V × St)) : List V → List V → St → Option (Fl × List V × St)
  | [], m, σ => some (.next, m, σ)
  | x :: r, m, σ => (b x m σ).bind fun (f, m₂, σ₂) => (match f with
      | .ret v => some (.ret v, m₂, σ₂)
      | _ => loopF b r m₂ σ₂)
noncomputable def rangeV (lo hi : Int) : List V := (List.range (hi - lo).toNat).map fun (j : Nat) => V.int (lo + (j : Int))
mutual
noncomputable def ex (cl : CallF) : MS → List V → St → Option (Fl × List V × St)
  | .expr e, m, σ => (ev cl e m σ).bind fun (_, σ₁) => some (.next, m, σ₁)
  | .asg t e, m, σ => (ev cl e m σ).bind fun (v, σ₁) => (setTo cl t v m σ₁).bind fun (m₂, σ₂) => some (.next, m₂, σ₂)
  | .asgT ts e, m, σ => (ev cl e m σ).bind fun (v, σ₁) => (match v with
      | .tup vs => (setAll cl ts vs m σ₁).bind fun (m₂, σ₂) => some (.next, m₂, σ₂)
      | _ => Option.none)
  | .augL i op e, m, σ => (match m[i]? with
      | some (.int x) => (ev cl e m σ).bind fun (y, σ₁) => (y.int?).bind fun z => if op = .Add then some (.next, m.set i (.int (x + z)), σ₁) else if op = .Sub then some (.next, m.set i (.int (x - z)), σ₁) else Option.none
      | _ => Option.none)
  | .augA a k j op e, m, σ => (ev cl a m σ).bind fun (x, σ₁) => (match x with
      | .ref k' i => if k' = k then (σ₁.ins k i).bind fun vs => (match vs[j]? with
        | some (.int p) => (ev cl e m σ₁).bind fun (y, σ₂) => (y.int?).bind fun z => if op = .Add then (σ₂.ins k i).bind fun ws => if j < ws.length then some (.next, m, σ₂.setO k i (.inst (ws.set j (.int (p + z))))) else Option.none else Option.none
        | _ => Option.none) else Option.none
      | _ => Option.none)
  | .ite t a b, m, σ => (evT cl t m σ).bind fun (c, σ₁) => if c then exs cl a m σ₁ else exs cl b m σ₁
  | .whil t b, m, σ => loopW (evT cl t) (exs cl b) WF m σ
  | .forR i lo hi b, m, σ => (ev cl lo m σ).bind fun (l, σ₁) => (ev cl hi m σ₁).bind fun (h, σ₂) => (l.int?).bind fun p => (h.int?).bind fun q => if okLen (q - p).toNat ∧ small p ∧ small q then loopF (fun x m τ => (putNm i x m).bind fun m₂ => exs cl b m₂ τ) (rangeV p q) m σ₂ else Option.none
  | .forR1 i hi b, m, σ => (ev cl hi m σ).bind fun (h, σ₁) => (match h with
      | .int q => if okLen q.toNat ∧ small q then loopF (fun x m τ => (putNm i x m).bind fun m₂ => exs cl b m₂ τ) (rangeV 0 q) m σ₁ else Option.none
      | _ => Option.none)
  | .forS i src b, m, σ => (ev cl src m σ).bind fun (x, σ₁) => (match x with
      | .lst vs => loopF (fun x m τ => (putNm i x m).bind fun m₂ => exs cl b m₂ τ) vs m σ₁
      | _ => Option.none)
  | .forS2 i j src b, m, σ => (ev cl src m σ).bind fun (x, σ₁) => (match x with
      | .lst vs => loopF (fun x m τ => (putPr i j x m).bind fun m₂ => exs cl b m₂ τ) vs m σ₁
      | _ => Option.none)
  | .ret e, m, σ => (ev cl e m σ).bind fun (v, σ₁) => some (.ret v, m, σ₁)
  | .cont, m, σ => some (.cont, m, σ)
noncomputable def exs (cl : CallF) : List MS → List V → St → Option (Fl × List V × St)
  | [], m, σ => some (.next, m, σ)
  | s :: r, m, σ => (ex cl s m σ).bind fun (f, m₂, σ₂) => (match f with
      | .next => exs cl r m₂ σ₂
      | f => some (f, m₂, σ₂))
end
structure MF where
  name : Str
  np : Nat
  vars : List Str
  body : List MS
structure Tab where
  fns : Nat → Option MF
  init : Kd → Option Nat
noncomputable def fin : Option (Fl × List V × St) → Option (V × St)
  | some (.ret v, _, σ) => some (v, σ)
  | some (.next, _, σ) => some (.none, σ)
  | _ => Option.none
noncomputable def callD (T : Tab) : Nat → CallF
  | 0 => fun _ _ _ => Option.none
  | d + 1 => fun f args σ => match f with
    | .fn n => (T.fns n).bind fun mf => if args.length = mf.np then fin (exs (callD T d) mf.body (args ++ List.replicate (mf.vars.length - mf.np) .undef) σ) else Option.none
    | .cls k => (T.init k).bind fun n => (callD T d (.fn n) (.ref k (σ k).length :: args) (σ.push k (.inst []))).bind fun (r, σ₁) => (r.isN).bind fun c => if c then some (.ref k (σ k).length, σ₁) else Option.none
    | _ => Option.none
theorem ns {α : Type} {a : α} {P : Prop} (h : (Option.none : Option α) = some a) : P := nomatch h
theorem if_of {α : Type} {c : Prop} [Decidable c] {a : Option α} {z : α} (h : (if c then a else Option.none) = some z) : c ∧ a = some z := by
  by_cases e : c
  · exact ⟨e, (if_pos e).symm.trans h⟩
  · exact ns ((if_neg e).symm.trans h)
theorem refl_of {α : Type} {x : V} {f : Kd → Nat → Option α} {z : α} (h : (match x with | .ref k i => f k i | _ => Option.none) = some z) : ∃ k i, x = .ref k i ∧ f k i = some z := by
  cases x with
  | ref k i => exact ⟨k, i, rfl, h⟩
  | _ => exact ns h
theorem ref_inv {α : Type} {x : V} {k : Kd} {f : Kd → Nat → Option α} {z : α} (h : (match x with | .ref k' i => if k' = k then f k i else Option.none | _ => Option.none) = some z) : ∃ i, x = .ref k i ∧ f k i = some z := by
  obtain ⟨k', i, e, h⟩ := refl_of (f := fun k' i => if k' = k then f k i else Option.none) h
  obtain ⟨rfl, h⟩ := if_of h
  exact ⟨i, e, h⟩
theorem int_of {α : Type} {x : V} {f : Int → Option α} {z : α} (h : (match x with | .int i => f i | _ => Option.none) = some z) : ∃ i, x = .int i ∧ f i = some z := by
  cases x with
  | int i => exact ⟨i, rfl, h⟩
  | _ => exact ns h
theorem bool_of {α : Type} {x : V} {f : Bool → Option α} {z : α} (h : (match x with | .bool i => f i | _ => Option.none) = some z) : ∃ i, x = .bool i ∧ f i = some z := by
  cases x with
  | bool i => exact ⟨i, rfl, h⟩
  | _ => exact ns h
theorem lst_of {α : Type} {x : V} {f : List V → Option α} {z : α} (h : (match x with | .lst i => f i | _ => Option.none) = some z) : ∃ i, x = .lst i ∧ f i = some z := by
  cases x with
  | lst i => exact ⟨i, rfl, h⟩
  | _ => exact ns h
theorem int?_of {x : V} {i : Int} (h : x.int? = some i) : x = .int i := by
  cases x with
  | int j => cases h; rfl
  | _ => exact ns h
theorem lst?_of {x : V} {i : List V} (h : x.lst? = some i) : x = .lst i := by
  cases x with
  | lst j => cases h; rfl
  | _ => exact ns h
theorem tup?_of {x : V} {i : List V} (h : x.tup? = some i) : x = .tup i := by
  cases x with
  | tup j => cases h; rfl
  | _ => exact ns h
theorem bool?_of {x : V} {i : Bool} (h : x.bool? = some i) : x = .bool i := by
  cases x with
  | bool j => cases h; rfl
  | _ => exact ns h
theorem str?_of {x : V} {i : Str} (h : x.str? = some i) : x = .str i := by
  cases x with
  | str j => cases h; rfl
  | _ => exact ns h
theorem fn?_of {x : V} {i : Nat} (h : x.fn? = some i) : x = .fn i := by
  cases x with
  | fn j => cases h; rfl
  | _ => exact ns h
theorem cls?_of {x : V} {i : Kd} (h : x.cls? = some i) : x = .cls i := by
  cases x with
  | cls j => cases h; rfl
  | _ => exact ns h
theorem isN_of {x : V} {c : Bool} (h : x.isN = some c) : (x = .none ∧ c = true) ∨ (x ≠ .none ∧ x ≠ .undef ∧ c = false) := by
  cases x with
  | none => cases h; exact .inl ⟨rfl, rfl⟩
  | undef => exact ns h
  | _ => exact .inr ⟨V.noConfusion, V.noConfusion, (Option.some.inj h).symm⟩
theorem pair_of {l : List V} {p : V × V} (h : pairOf l = some p) : l = [p.1, p.2] := by
  cases l with
  | nil => exact ns h
  | cons a l => cases l with
    | nil => exact ns h
    | cons b l => cases l with
      | nil => cases h; rfl
      | cons c l => exact ns h
theorem one_of {l : List V} {p : V} (h : oneOf l = some p) : l = [p] := by
  cases l with
  | nil => exact ns h
  | cons a l => cases l with
    | nil => cases h; rfl
    | cons b l => exact ns h
theorem int2_of {α : Type} {x y : V} {f : Int → Int → Option α} {z : α} (h : ((x.int?).bind fun p => (y.int?).bind fun q => f p q) = some z) : ∃ p q, x = .int p ∧ y = .int q ∧ f p q = some z := by
  obtain ⟨p, e1, h⟩ := Option.bind_eq_some_iff.mp h
  obtain ⟨q, e2, h⟩ := Option.bind_eq_some_iff.mp h
  exact ⟨p, q, int?_of e1, int?_of e2, h⟩
theorem int1_of {α : Type} {x : V} {f : Int → Option α} {z : α} (h : ((x.int?).bind f) = some z) : ∃ p, x = .int p ∧ f p = some z := by
  obtain ⟨p, e1, h⟩ := Option.bind_eq_some_iff.mp h
  exact ⟨p, int?_of e1, h⟩
theorem lst1_of {α : Type} {x : V} {f : List V → Option α} {z : α} (h : ((x.lst?).bind f) = some z) : ∃ p, x = .lst p ∧ f p = some z := by
  obtain ⟨p, e1, h⟩ := Option.bind_eq_some_iff.mp h
  exact ⟨p, lst?_of e1, h⟩
theorem bind_of {α β γ : Type} {x : Option (α × β)} {f : α × β → Option γ} {z : γ} (h : x.bind f = some z) : ∃ a b, x = some (a, b) ∧ f (a, b) = some z := by
  obtain ⟨⟨a, b⟩, e, h⟩ := Option.bind_eq_some_iff.mp h
  exact ⟨a, b, e, h⟩
theorem b1 {a b : Bool} (h : (a && b) = true) : a = true := (Bool.and_eq_true_iff.mp h).1
theorem b2 {a b : Bool} (h : (a && b) = true) : b = true := (Bool.and_eq_true_iff.mp h).2
theorem fin_of {r : Option (Fl × List V × St)} {v : V} {σ : St} (h : fin r = some (v, σ)) : ∃ f m, r = some (f, m, σ) ∧ (f = .ret v ∨ (f = .next ∧ v = .none)) := by
  match r, h with
  | some (.ret u, m, τ), h => cases h; exact ⟨_, _, rfl, .inl rfl⟩
  | some (.next, m, τ), h => cases h; exact ⟨_, _, rfl, .inr ⟨rfl, rfl⟩⟩
end Mine
end
section
open PySem PySem.W PyProof.Rows
namespace Mine
noncomputable def conB : Const → V → Bool
  | .none, .none => true
  | .bool b, .bool c => b == c
  | .int i, .int j => i == j
  | .str x, .str y => x == y
  | _, _ => false
noncomputable def visB (vs : List Str) (i : Nat) (x : Str) : Bool := vs[i]? == some x && !(vs.drop (i + 1)).contains x
noncomputable def oddNames : List Str := ["__debug__", "__classdict__"]
noncomputable def locB (sc : Scope) (x : Str) : Bool := !oddNames.contains x && (match sc.names.lookup x with | some .local | some .cell | some .free => true | _ => false)
noncomputable def gloB (sc : Scope) (x : Str) : Bool := !oddNames.contains x && sc.names.lookup x == some .globalImplicit
structure Glob where
  val : Str → Option V
noncomputable def sameV (a b : V) : Bool := match a with
  | .int i => b.int? == some i
  | .fn i => b.fn? == some i
  | .cls k => b.cls? == some k
  | _ => false
theorem sameV_eq {a b : V} (h : sameV a b = true) : a = b := by
  cases a with
  | int i => exact (int?_of (eq_of_beq h)).symm
  | fn i => exact (fn?_of (eq_of_beq h)).symm
  | cls k => exact (cls?_of (eq_of_beq h)).symm
  | _ => exact nomatch h
noncomputable def notSup : PySem.Expr → Bool
  | .Call .. => false
  | _ => true
noncomputable def isName : PySem.Expr → Bool
  | .Name _ _ => true
  | _ => false
noncomputable def notSlice : PySem.Expr → Bool
  | .Slice .. => false
  | _ => true
noncomputable def notSet : PySem.Expr → Bool
  | .Set .. => false
  | _ => true
noncomputable def notStar : PySem.Expr → Bool
  | .Starred .. => false
  | _ => true
noncomputable def bi (sc : Scope) (x : Str) : PySem.Expr → Bool
  | .Name y _ => y == x && gloB sc x
  | _ => false
noncomputable def meths : List (Kd × Str × Nat) := [(.upval, "get", 18), (.upval, "set", 19), (.upval, "close", 20)]
noncomputable def scopeB (sc : Scope) : Bool := sc.kind == .function && !sc.isGenerator && !sc.isCoroutine && decide ((sc.names.map (·.1)).Nodup)
noncomputable def freeB (sc : Scope) (vs : List Str) (inner : Scope) : Bool := inner.names.all fun nk => nk.2 != .free || (vs.contains nk.1 && (match sc.names.lookup nk.1 with | some .cell | some .free => true | _ => false))
noncomputable def isInstKd : Kd → Bool
  | .frame | .upval | .ground => true
  | _ => false
noncomputable def stoB (sc : Scope) (x : Str) : Bool := !oddNames.contains x && (match sc.names.lookup x with | some .local | some .cell => true | _ => false)
noncomputable def ownB (inner : Scope) (vs xs : List Str) : Bool := inner.names.all (fun nk => !(nk.2 == .local || nk.2 == .cell) || xs.contains nk.1 || !vs.contains nk.1) && xs.all fun x => inner.names.lookup x == some .local || inner.names.lookup x == some .cell
noncomputable def noPos : Pos := ⟨0, 0, 0, 0⟩
noncomputable def noE : PySem.Expr := .Constant .none 0 noPos
noncomputable def kidsE : PySem.Expr → List PySem.Expr
  | .BinOp l _ r _ => [l, r]
  | .UnaryOp _ x _ => [x]
  | .Compare l _ rs _ => l :: rs
  | .BoolOp _ es _ => es
  | .IfExp t a b _ => [t, a, b]
  | .Tuple es _ _ => es
  | .List es _ => es
  | .Dict _ es _ => es
  | .Subscript x y _ => [x, y]
  | .Attribute x _ _ => [x]
  | .Call f as _ _ => f :: as
  | .Slice lo hi _ _ => [lo.getD noE, hi.getD noE]
  | .ListComp el [⟨tg, it, ifs, _⟩] _ _ => el :: tg :: it :: ifs
  | _ => []
noncomputable def kid (i : Nat) (e : PySem.Expr) : PySem.Expr := (kidsE e).getD i noE
noncomputable def posE : PySem.Expr → Pos
  | .BinOp _ _ _ p => p
  | .UnaryOp _ _ p => p
  | .Compare _ _ _ p => p
  | .BoolOp _ _ p => p
  | .IfExp _ _ _ p => p
  | .Tuple _ _ p => p
  | .List _ p => p
  | .Dict _ _ p => p
  | .Subscript _ _ p => p
  | .Attribute _ _ p => p
  | .Call _ _ _ p => p
  | .Slice _ _ _ p => p
  | .ListComp _ _ _ p => p
  | .Constant _ _ p => p
  | .Name _ p => p
  | _ => noPos
noncomputable def kindE : PySem.Expr → Nat
  | .Constant _ k _ => k
  | .Tuple _ k _ => k
  | _ => 0
noncomputable def nameE : PySem.Expr → Str
  | .Name x _ => x
  | _ => ""
noncomputable def keysE : PySem.Expr → List (Option PySem.Expr)
  | .Dict ks _ _ => ks
  | _ => []
noncomputable def innerE : PySem.Expr → Scope
  | .ListComp _ _ s _ => s
  | _ => default
noncomputable def conOf : V → Const
  | .bool b => .bool b
  | .int i => .int i
  | .str x => .str x
  | _ => .none
noncomputable def conOk : V → Bool
  | .none | .bool _ | .int _ | .str _ => true
  | _ => false
noncomputable def fldN (k : Kd) (j : Nat) : Str := (fields k).getD j ""
noncomputable def methN (k : Kd) (f : Nat) : Str := match meths.find? (fun q => decide (q.1 = k) && q.2.2 == f) with | some q => q.2.1 | Option.none => ""
noncomputable def keysOf : List Str → List (Option PySem.Expr) → List (Option PySem.Expr)
  | [], _ => []
  | x :: xs, es => some (.Constant (.str x) (kindE ((es.headD Option.none).getD noE)) (posE ((es.headD Option.none).getD noE))) :: keysOf xs es.tail
noncomputable def callN (x : Str) (e : PySem.Expr) (as : List PySem.Expr) : PySem.Expr := .Call (.Name x (posE (kid 0 e))) as [] (posE e)
noncomputable def callA (o : PySem.Expr) (x : Str) (e : PySem.Expr) (as : List PySem.Expr) : PySem.Expr := .Call (.Attribute o x (posE (kid 0 e))) as [] (posE e)
mutual
noncomputable def build : ME → List Str → PySem.Expr → PySem.Expr
  | .con v, _, e => .Constant (conOf v) (kindE e) (posE e)
  | .loc i, vs, e => .Name (vs.getD i "") (posE e)
  | .glob x _, _, e => .Name x (posE e)
  | .bin op a b, vs, e => .BinOp (build a vs (kid 0 e)) op (build b vs (kid 1 e)) (posE e)
  | .neg a, vs, e => .UnaryOp .USub (build a vs (kid 0 e)) (posE e)
  | .not a, vs, e => .UnaryOp .Not (build a vs (kid 0 e)) (posE e)
  | .cmp op a b, vs, e => .Compare (build a vs (kid 0 e)) [op] [build b vs (kid 1 e)] (posE e)
  | .bop isAnd es, vs, e => .BoolOp (if isAnd then .And else .Or) (builds es vs (kidsE e)) (posE e)
  | .ite t a b, vs, e => .IfExp (build t vs (kid 0 e)) (build a vs (kid 1 e)) (build b vs (kid 2 e)) (posE e)
  | .tup es, vs, e => .Tuple (builds es vs (kidsE e)) (kindE e) (posE e)
  | .lst es, vs, e => .List (builds es vs (kidsE e)) (posE e)
  | .newl _ es, vs, e => .List (builds es vs (kidsE e)) (posE e)
  | .newd k es, vs, e => .Dict (keysOf (fields k) (keysE e)) (builds es vs (kidsE e)) (posE e)
  | .idx a i, vs, e => .Subscript (build a vs (kid 0 e)) (build i vs (kid 1 e)) (posE e)
  | .key a k j, vs, e => .Subscript (build a vs (kid 0 e)) (.Constant (.str (fldN k j)) (kindE (kid 1 e)) (posE (kid 1 e))) (posE e)
  | .attr a k j, vs, e => .Attribute (build a vs (kid 0 e)) (fldN k j) (posE e)
  | .slcAB a lo hi, vs, e => .Subscript (build a vs (kid 0 e)) (.Slice (some (build lo vs (kid 0 (kid 1 e)))) (some (build hi vs (kid 1 (kid 1 e)))) Option.none (posE (kid 1 e))) (posE e)
  | .slcA a lo, vs, e => .Subscript (build a vs (kid 0 e)) (.Slice (some (build lo vs (kid 0 (kid 1 e)))) Option.none Option.none (posE (kid 1 e))) (posE e)
  | .slcB a hi, vs, e => .Subscript (build a vs (kid 0 e)) (.Slice Option.none (some (build hi vs (kid 1 (kid 1 e)))) Option.none (posE (kid 1 e))) (posE e)
  | .call f args, vs, e => .Call (build f vs (kid 0 e)) (builds args vs (kidsE e).tail) [] (posE e)
  | .meth a k f args, vs, e => callA (build a vs (kid 0 (kid 0 e))) (methN k f) e (builds args vs (kidsE e).tail)
  | .cmeth _ args, vs, e => callA (.Name "HeapObject" (posE (kid 0 (kid 0 e)))) "__init__" e (builds args vs (kidsE e).tail)
  | .len a, vs, e => callN "len" e [build a vs (kid 1 e)]
  | .min a b, vs, e => callN "min" e [build a vs (kid 1 e), build b vs (kid 2 e)]
  | .max a b, vs, e => callN "max" e [build a vs (kid 1 e), build b vs (kid 2 e)]
  | .listOf _ a, vs, e => callN "list" e [build a vs (kid 1 e)]
  | .append a x, vs, e => callA (build a vs (kid 0 (kid 0 e))) "append" e [build x vs (kid 1 e)]
  | .extend a x, vs, e => callA (build a vs (kid 0 (kid 0 e))) "extend" e [build x vs (kid 1 e)]
  | .pop a, vs, e => callA (build a vs (kid 0 (kid 0 e))) "pop" e []
  | .pop0 a, vs, e => callA (build a vs (kid 0 (kid 0 e))) "pop" e [.Constant (.int 0) (kindE (kid 1 e)) (posE (kid 1 e))]
  | .insert a i x, vs, e => callA (build a vs (kid 0 (kid 0 e))) "insert" e [build i vs (kid 1 e), build x vs (kid 2 e)]
  | .freeze a, vs, e => build a vs e
  | .compR elt n, vs, e => .ListComp (build elt (vs ++ [nameE (kid 1 e)]) (kid 0 e)) [⟨.Name (nameE (kid 1 e)) (posE (kid 1 e)), callN "range" (kid 2 e) [build n vs (kid 1 (kid 2 e))], [], 0⟩] (innerE e) (posE e)
  | .compS elt src, vs, e => .ListComp (build elt (vs ++ [nameE (kid 1 e)]) (kid 0 e)) [⟨.Name (nameE (kid 1 e)) (posE (kid 1 e)), build src vs (kid 2 e), [], 0⟩] (innerE e) (posE e)
  | .compSC elt src cond, vs, e => .ListComp (build elt (vs ++ [nameE (kid 1 e)]) (kid 0 e)) [⟨.Name (nameE (kid 1 e)) (posE (kid 1 e)), build src vs (kid 2 e), [build cond (vs ++ [nameE (kid 1 e)]) (kid 3 e)], 0⟩] (innerE e) (posE e)
  | .compEC elt src cond, vs, e => .ListComp (build elt (vs ++ [nameE (kid 0 (kid 1 e)), nameE (kid 1 (kid 1 e))]) (kid 0 e)) [⟨.Tuple [.Name (nameE (kid 0 (kid 1 e))) (posE (kid 0 (kid 1 e))), .Name (nameE (kid 1 (kid 1 e))) (posE (kid 1 (kid 1 e)))] (kindE (kid 1 e)) (posE (kid 1 e)), callN "enumerate" (kid 2 e) [build src vs (kid 1 (kid 2 e))], [build cond (vs ++ [nameE (kid 0 (kid 1 e)), nameE (kid 1 (kid 1 e))]) (kid 3 e)], 0⟩] (innerE e) (posE e)
noncomputable def builds : List ME → List Str → List PySem.Expr → List PySem.Expr
  | [], _, _ => []
  | m :: ms, vs, es => build m vs (es.headD noE) :: builds ms vs es.tail
end
mutual
noncomputable def ok (G : Glob) : ME → Scope → List Str → PySem.Expr → Bool
  | .con v, _, _, _ => conOk v
  | .loc i, sc, vs, _ => visB vs i (vs.getD i "") && locB sc (vs.getD i "")
  | .glob x v, sc, _, _ => gloB sc x && (match G.val x with | some u => sameV u v | Option.none => false)
  | .bin _ a b, sc, vs, e => ok G a sc vs (kid 0 e) && ok G b sc vs (kid 1 e)
  | .neg a, sc, vs, e => ok G a sc vs (kid 0 e)
  | .not a, sc, vs, e => ok G a sc vs (kid 0 e)
  | .cmp op a b, sc, vs, e => !behindInMarks op (build b vs (kid 1 e)) && (ok G a sc vs (kid 0 e) && ok G b sc vs (kid 1 e))
  | .bop _ es, sc, vs, e => !es.isEmpty && oks G es sc vs (kidsE e)
  | .ite t a b, sc, vs, e => ok G t sc vs (kid 0 e) && (ok G a sc vs (kid 1 e) && ok G b sc vs (kid 2 e))
  | .tup es, sc, vs, e => decide (es.length ≤ 30) && oks G es sc vs (kidsE e)
  | .lst es, sc, vs, e => decide (es.length ≤ 30) && oks G es sc vs (kidsE e)
  | .newl _ es, sc, vs, e => decide (es.length ≤ 30) && oks G es sc vs (kidsE e)
  | .newd k es, sc, vs, e => !(fields k).isEmpty && (decide (es.length = (fields k).length) && (decide (es.length ≤ 14) && oks G es sc vs (kidsE e)))
  | .idx a i, sc, vs, e => notSlice (build i vs (kid 1 e)) && (ok G a sc vs (kid 0 e) && ok G i sc vs (kid 1 e))
  | .key a k j, sc, vs, e => decide (j < (fields k).length) && ok G a sc vs (kid 0 e)
  | .attr a k j, sc, vs, e => isInstKd k && (notSup (build a vs (kid 0 e)) && (decide (j < (fields k).length) && ok G a sc vs (kid 0 e)))
  | .slcAB a lo hi, sc, vs, e => ok G a sc vs (kid 0 e) && (ok G lo sc vs (kid 0 (kid 1 e)) && ok G hi sc vs (kid 1 (kid 1 e)))
  | .slcA a lo, sc, vs, e => ok G a sc vs (kid 0 e) && ok G lo sc vs (kid 0 (kid 1 e))
  | .slcB a hi, sc, vs, e => ok G a sc vs (kid 0 e) && ok G hi sc vs (kid 1 (kid 1 e))
  | .call f args, sc, vs, e => isName (build f vs (kid 0 e)) && (ok G f sc vs (kid 0 e) && (decide (args.length ≤ 20) && oks G args sc vs (kidsE e).tail))
  | .meth a k f args, sc, vs, e => notSup (build a vs (kid 0 (kid 0 e))) && (((posE (kid 0 e)).endLine == (posE e).line) && (meths.contains (k, methN k f, f) && (ok G a sc vs (kid 0 (kid 0 e)) && (decide (args.length ≤ 20) && oks G args sc vs (kidsE e).tail))))
  | .cmeth f args, sc, vs, e => ((posE (kid 0 e)).endLine == (posE e).line) && (f == 15 && (gloB sc "HeapObject" && (decide (args.length ≤ 20) && (!args.isEmpty && oks G args sc vs (kidsE e).tail))))
  | .len a, sc, vs, e => gloB sc "len" && (notStar (build a vs (kid 1 e)) && ok G a sc vs (kid 1 e))
  | .min a b, sc, vs, e => gloB sc "min" && (notStar (build a vs (kid 1 e)) && (notStar (build b vs (kid 2 e)) && (ok G a sc vs (kid 1 e) && ok G b sc vs (kid 2 e))))
  | .max a b, sc, vs, e => gloB sc "max" && (notStar (build a vs (kid 1 e)) && (notStar (build b vs (kid 2 e)) && (ok G a sc vs (kid 1 e) && ok G b sc vs (kid 2 e))))
  | .listOf _ a, sc, vs, e => gloB sc "list" && (notStar (build a vs (kid 1 e)) && ok G a sc vs (kid 1 e))
  | .append a x, sc, vs, e => notSup (build a vs (kid 0 (kid 0 e))) && (((posE (kid 0 e)).endLine == (posE e).line) && (notStar (build x vs (kid 1 e)) && (ok G a sc vs (kid 0 (kid 0 e)) && ok G x sc vs (kid 1 e))))
  | .extend a x, sc, vs, e => notSup (build a vs (kid 0 (kid 0 e))) && (((posE (kid 0 e)).endLine == (posE e).line) && (notStar (build x vs (kid 1 e)) && (ok G a sc vs (kid 0 (kid 0 e)) && ok G x sc vs (kid 1 e))))
  | .pop a, sc, vs, e => notSup (build a vs (kid 0 (kid 0 e))) && (((posE (kid 0 e)).endLine == (posE e).line) && ok G a sc vs (kid 0 (kid 0 e)))
  | .pop0 a, sc, vs, e => notSup (build a vs (kid 0 (kid 0 e))) && (((posE (kid 0 e)).endLine == (posE e).line) && ok G a sc vs (kid 0 (kid 0 e)))
  | .insert a i x, sc, vs, e => notSup (build a vs (kid 0 (kid 0 e))) && (((posE (kid 0 e)).endLine == (posE e).line) && (notStar (build i vs (kid 1 e)) && (notStar (build x vs (kid 2 e)) && (ok G a sc vs (kid 0 (kid 0 e)) && (ok G i sc vs (kid 1 e) && ok G x sc vs (kid 2 e))))))
  | .freeze a, sc, vs, e => ok G a sc vs e
  | .compR elt n, sc, vs, e => gloB sc "range" && (notStar (build n vs (kid 1 (kid 2 e))) && (ok G n sc vs (kid 1 (kid 2 e)) && (scopeB (innerE e) && (freeB sc vs (innerE e) && (ownB (innerE e) vs [nameE (kid 1 e)] && (stoB (innerE e) (nameE (kid 1 e)) && ok G elt (innerE e) (vs ++ [nameE (kid 1 e)]) (kid 0 e)))))))
  | .compS elt src, sc, vs, e => ok G src sc vs (kid 2 e) && (notSet (build src vs (kid 2 e)) && (scopeB (innerE e) && (freeB sc vs (innerE e) && (ownB (innerE e) vs [nameE (kid 1 e)] && (stoB (innerE e) (nameE (kid 1 e)) && ok G elt (innerE e) (vs ++ [nameE (kid 1 e)]) (kid 0 e))))))
  | .compSC elt src cond, sc, vs, e => ok G src sc vs (kid 2 e) && (notSet (build src vs (kid 2 e)) && (scopeB (innerE e) && (freeB sc vs (innerE e) && (ownB (innerE e) vs [nameE (kid 1 e)] && (stoB (innerE e) (nameE (kid 1 e)) && (ok G cond (innerE e) (vs ++ [nameE (kid 1 e)]) (kid 3 e) && ok G elt (innerE e) (vs ++ [nameE (kid 1 e)]) (kid 0 e)))))))
  | .compEC elt src cond, sc, vs, e => gloB sc "enumerate" && (notStar (build src vs (kid 1 (kid 2 e))) && (ok G src sc vs (kid 1 (kid 2 e)) && (scopeB (innerE e) && (freeB sc vs (innerE e) && (ownB (innerE e) vs [nameE (kid 0 (kid 1 e)), nameE (kid 1 (kid 1 e))] && (stoB (innerE e) (nameE (kid 0 (kid 1 e))) && (stoB (innerE e) (nameE (kid 1 (kid 1 e))) && (nameE (kid 0 (kid 1 e)) != nameE (kid 1 (kid 1 e)) &&
      (ok G cond (innerE e) (vs ++ [nameE (kid 0 (kid 1 e)), nameE (kid 1 (kid 1 e))]) (kid 3 e) && ok G elt (innerE e) (vs ++ [nameE (kid 0 (kid 1 e)), nameE (kid 1 (kid 1 e))]) (kid 0 e))))))))))
noncomputable def oks (G : Glob) : List ME → Scope → List Str → List PySem.Expr → Bool
  | [], _, _, _ => true
  | m :: ms, sc, vs, es => notStar (build m vs (es.headD noE)) && (ok G m sc vs (es.headD noE) && oks G ms sc vs es.tail)
end
noncomputable def locOnly (sc : Scope) (x : Str) : Bool := sc.names.lookup x == some .local
noncomputable def isComp : PySem.Expr → Bool
  | .ListComp .. | .SetComp .. | .DictComp .. => true
  | _ => false
noncomputable def isTuple : PySem.Expr → Bool
  | .Tuple .. => true
  | _ => false
noncomputable def tupLen : PySem.Expr → Nat
  | .Tuple es _ _ => es.length
  | _ => 0
noncomputable def isCompM : ME → Bool
  | .compR .. | .compS .. | .compSC .. | .compEC .. => true
  | _ => false
noncomputable def nameOf : PySem.Expr → Option Str
  | .Name x _ => some x
  | _ => Option.none
noncomputable def notConsts : PySem.Expr → Bool
  | .Tuple vs _ _ => !vs.all (constantsAlone 8)
  | _ => true
noncomputable def buildT (vs : List Str) : MT → PySem.Expr → PySem.Expr
  | .loc i, e => .Name (vs.getD i "") (posE e)
  | .key a k j, e => .Subscript (build a vs (kid 0 e)) (.Constant (.str (fldN k j)) (kindE (kid 1 e)) (posE (kid 1 e))) (posE e)
  | .attr a k j, e => .Attribute (build a vs (kid 0 e)) (fldN k j) (posE e)
  | .idx a i, e => .Subscript (build a vs (kid 0 e)) (build i vs (kid 1 e)) (posE e)
  | .slc a lo hi, e => .Subscript (build a vs (kid 0 e)) (.Slice (some (build lo vs (kid 0 (kid 1 e)))) (some (build hi vs (kid 1 (kid 1 e)))) Option.none (posE (kid 1 e))) (posE e)
noncomputable def okT (G : Glob) (sc : Scope) (vs : List Str) : MT → PySem.Expr → Bool
  | .loc i, _ => visB vs i (vs.getD i "") && stoB sc (vs.getD i "")
  | .key a k j, e => decide (j < (fields k).length) && ok G a sc vs (kid 0 e)
  | .attr a k j, e => isInstKd k && (decide (j < (fields k).length) && ok G a sc vs (kid 0 e))
  | .idx a i, e => notSlice (build i vs (kid 1 e)) && (ok G a sc vs (kid 0 e) && ok G i sc vs (kid 1 e))
  | .slc a lo hi, e => ok G a sc vs (kid 0 e) && (ok G lo sc vs (kid 0 (kid 1 e)) && ok G hi sc vs (kid 1 (kid 1 e)))
noncomputable def buildTs (vs : List Str) : List MT → List PySem.Expr → List PySem.Expr
  | [], _ => []
  | t :: ts, es => buildT vs t (es.headD noE) :: buildTs vs ts es.tail
noncomputable def okTs (G : Glob) (sc : Scope) (vs : List Str) : List MT → List PySem.Expr → Bool
  | [], _ => true
  | t :: ts, es => okT G sc vs t (es.headD noE) && okTs G sc vs ts es.tail
noncomputable def exprsS : PySem.Stmt → List PySem.Expr
  | .Expr x _ => [x]
  | .Assign xs y _ => y :: xs
  | .AugAssign t _ y _ => [t, y]
  | .If x _ _ _ => [x]
  | .While x _ _ _ => [x]
  | .For t it _ _ _ => [t, it]
  | .Return (some x) _ => [x]
  | _ => []
noncomputable def exS (i : Nat) (s : PySem.Stmt) : PySem.Expr := (exprsS s).getD i noE
noncomputable def posS : PySem.Stmt → Pos
  | .Expr _ p => p
  | .Assign _ _ p => p
  | .AugAssign _ _ _ p => p
  | .If _ _ _ p => p
  | .While _ _ _ p => p
  | .For _ _ _ _ p => p
  | .Return _ p => p
  | .Continue p => p
  | _ => noPos
noncomputable def bodyS : PySem.Stmt → List PySem.Stmt
  | .If _ y _ _ => y
  | .While _ y _ _ => y
  | .For _ _ y _ _ => y
  | _ => []
noncomputable def elseS : PySem.Stmt → List PySem.Stmt
  | .If _ _ z _ => z
  | _ => []
noncomputable def noS : PySem.Stmt := .Continue noPos
mutual
noncomputable def buildS (vs : List Str) : MS → PySem.Stmt → PySem.Stmt
  | .expr e, s => .Expr (build e vs (exS 0 s)) (posS s)
  | .asg t e, s => .Assign [buildT vs t (exS 1 s)] (build e vs (exS 0 s)) (posS s)
  | .asgT ts e, s => .Assign [.Tuple (buildTs vs ts (kidsE (exS 1 s))) (kindE (exS 1 s)) (posE (exS 1 s))] (build e vs (exS 0 s)) (posS s)
  | .augL i op e, s => .AugAssign (.Name (vs.getD i "") (posE (exS 0 s))) op (build e vs (exS 1 s)) (posS s)
  | .augA a k j op e, s => .AugAssign (.Attribute (build a vs (kid 0 (exS 0 s))) (fldN k j) (posE (exS 0 s))) op (build e vs (exS 1 s)) (posS s)
  | .ite t a b, s => .If (build t vs (exS 0 s)) (buildSs vs a (bodyS s)) (buildSs vs b (elseS s)) (posS s)
  | .whil t b, s => .While (build t vs (exS 0 s)) (buildSs vs b (bodyS s)) [] (posS s)
  | .forR i lo hi b, s => .For (.Name (vs.getD i "") (posE (exS 0 s))) (callN "range" (exS 1 s) [build lo vs (kid 1 (exS 1 s)), build hi vs (kid 2 (exS 1 s))]) (buildSs vs b (bodyS s)) [] (posS s)
  | .forR1 i hi b, s => .For (.Name (vs.getD i "") (posE (exS 0 s))) (callN "range" (exS 1 s) [build hi vs (kid 1 (exS 1 s))]) (buildSs vs b (bodyS s)) [] (posS s)
  | .forS i src b, s => .For (.Name (vs.getD i "") (posE (exS 0 s))) (build src vs (exS 1 s)) (buildSs vs b (bodyS s)) [] (posS s)
  | .forS2 i j src b, s => .For (.Tuple [.Name (vs.getD i "") (posE (kid 0 (exS 0 s))), .Name (vs.getD j "") (posE (kid 1 (exS 0 s)))] (kindE (exS 0 s)) (posE (exS 0 s))) (build src vs (exS 1 s)) (buildSs vs b (bodyS s)) [] (posS s)
  | .ret e, s => .Return (some (build e vs (exS 0 s))) (posS s)
  | .cont, s => .Continue (posS s)
noncomputable def buildSs (vs : List Str) : List MS → List PySem.Stmt → List PySem.Stmt
  | [], _ => []
  | m :: ms, ss => buildS vs m (ss.headD noS) :: buildSs vs ms ss.tail
end
mutual
noncomputable def okS (G : Glob) (sc : Scope) (vs : List Str) : MS → PySem.Stmt → Bool
  | .expr e, s => !isComp (build e vs (exS 0 s)) && ok G e sc vs (exS 0 s)
  | .asg t e, s => !isTuple (buildT vs t (exS 1 s)) && (okT G sc vs t (exS 1 s) && (ok G e sc vs (exS 0 s) && (!isComp (build e vs (exS 0 s)) || (isCompM e && match t with | .loc i => locOnly sc (vs.getD i "") | _ => false))))
  | .asgT ts e, s => !isComp (build e vs (exS 0 s)) && (notConsts (build e vs (exS 0 s)) && (decide (((buildTs vs ts (kidsE (exS 1 s))).filterMap nameOf).Nodup) && (decide (ts.length ≤ 10) && (okTs G sc vs ts (kidsE (exS 1 s)) && ok G e sc vs (exS 0 s)))))
  | .augL i _ e, s => visB vs i (vs.getD i "") && (locOnly sc (vs.getD i "") && (!oddNames.contains (vs.getD i "") && ok G e sc vs (exS 1 s)))
  | .augA a k j _ e, s => isInstKd k && (decide (j < (fields k).length) && (ok G a sc vs (kid 0 (exS 0 s)) && ok G e sc vs (exS 1 s)))
  | .ite t a b, s => ok G t sc vs (exS 0 s) && (okSs G sc vs a (bodyS s) && okSs G sc vs b (elseS s))
  | .whil t b, s => ok G t sc vs (exS 0 s) && okSs G sc vs b (bodyS s)
  | .forR i lo hi b, s => gloB sc "range" && (notStar (build lo vs (kid 1 (exS 1 s))) && (notStar (build hi vs (kid 2 (exS 1 s))) && (visB vs i (vs.getD i "") && (stoB sc (vs.getD i "") && (ok G lo sc vs (kid 1 (exS 1 s)) && (ok G hi sc vs (kid 2 (exS 1 s)) && okSs G sc vs b (bodyS s)))))))
  | .forR1 i hi b, s => gloB sc "range" && (notStar (build hi vs (kid 1 (exS 1 s))) && (visB vs i (vs.getD i "") && (stoB sc (vs.getD i "") && (ok G hi sc vs (kid 1 (exS 1 s)) && okSs G sc vs b (bodyS s)))))
  | .forS i src b, s => notSet (build src vs (exS 1 s)) && (visB vs i (vs.getD i "") && (stoB sc (vs.getD i "") && (ok G src sc vs (exS 1 s) && okSs G sc vs b (bodyS s))))
  | .forS2 i j src b, s => notSet (build src vs (exS 1 s)) && (visB vs i (vs.getD i "") && (stoB sc (vs.getD i "") && (visB vs j (vs.getD j "") && (stoB sc (vs.getD j "") && (vs.getD i "" != vs.getD j "" && (ok G src sc vs (exS 1 s) && okSs G sc vs b (bodyS s)))))))
  | .ret e, s => ok G e sc vs (exS 0 s)
  | .cont, _ => true
noncomputable def okSs (G : Glob) (sc : Scope) (vs : List Str) : List MS → List PySem.Stmt → Bool
  | [], _ => true
  | m :: ms, ss => okS G sc vs m (ss.headD noS) && okSs G sc vs ms ss.tail
end
end Mine
end
section
namespace Mine
noncomputable def f0 : MF := ⟨"grow", 2, ["stack", "size", "lacking"], [
  .asg (.loc 2) (.bin .Sub (.loc 1) (.len (.loc 0))),
  .ite (.cmp .Gt (.loc 2) (.con (.int 0))) [
  .expr (.extend (.loc 0) (.bin .Mult (.lst [.con .none]) (.loc 2)))] [
  ]]⟩
noncomputable def f1 : MF := ⟨"fill", 3, ["stack", "first", "end", "at"], [
  .expr (.call (.glob "grow" (.fn 0)) [.loc 0, .loc 2]),
  .forR 3 (.loc 1) (.loc 2) [
  .asg (.idx (.loc 0) (.loc 3)) (.con .none)]]⟩
noncomputable def f2 : MF := ⟨"cut", 3, ["func", "top", "fixed"], [
  .ret (.min (.loc 1) (.bin .Add (.bin .Add (.loc 0) (.con (.int 1))) (.loc 2)))]⟩
noncomputable def f3 : MF := ⟨"padded", 4, ["stack", "top", "actual", "fixed", "goal"], [
  .asg (.loc 4) (.bin .Add (.loc 1) (.max (.bin .Sub (.loc 3) (.loc 2)) (.con (.int 0)))),
  .expr (.call (.glob "fill" (.fn 1)) [.loc 0, .loc 1, .loc 4]),
  .ret (.loc 4)]⟩
noncomputable def f4 : MF := ⟨"lifted", 4, ["stack", "top", "fixed", "actual", "first", "at"], [
  .expr (.call (.glob "grow" (.fn 0)) [.loc 0, .bin .Add (.loc 1) (.loc 2)]),
  .asg (.loc 4) (.bin .Sub (.loc 1) (.loc 3)),
  .forR1 5 (.loc 2) [
  .asg (.idx (.loc 0) (.bin .Add (.loc 1) (.loc 5))) (.idx (.loc 0) (.bin .Add (.loc 4) (.loc 5))),
  .asg (.idx (.loc 0) (.bin .Add (.loc 4) (.loc 5))) (.con .none)],
  .ret (.loc 1)]⟩
noncomputable def f5 : MF := ⟨"settled", 5, ["stack", "goal", "first", "top", "wanted", "left"], [
  .asg (.loc 5) (.loc 4),
  .whil (.bop true [.cmp .NotEq (.loc 5) (.con (.int 0)), .cmp .Lt (.loc 2) (.loc 3)]) [
  .asg (.idx (.loc 0) (.loc 1)) (.idx (.loc 0) (.loc 2)),
  .augL 1 .Add (.con (.int 1)),
  .augL 2 .Add (.con (.int 1)),
  .augL 5 .Sub (.con (.int 1))],
  .ite (.cmp .Gt (.loc 5) (.con (.int 0))) [
  .expr (.call (.glob "fill" (.fn 1)) [.loc 0, .loc 1, .bin .Add (.loc 1) (.loc 5)]),
  .augL 1 .Add (.loc 5)] [
  ],
  .ret (.loc 1)]⟩
noncomputable def f6 : MF := ⟨"moved_down", 4, ["stack", "first", "top", "goal", "at"], [
  .forR 4 (.loc 1) (.loc 2) [
  .asg (.idx (.loc 0) (.bin .Sub (.bin .Add (.loc 3) (.loc 4)) (.loc 1))) (.idx (.loc 0) (.loc 4))],
  .ret (.bin .Sub (.bin .Add (.loc 3) (.loc 2)) (.loc 1))]⟩
noncomputable def f7 : MF := ⟨"plain_base", 3, ["func", "top", "fixed"], [
  .ret (.tup [.bin .Add (.loc 0) (.con (.int 1)), .call (.glob "cut" (.fn 2)) [.loc 0, .loc 1, .loc 2]])]⟩
noncomputable def f8 : MF := ⟨"told_all", 4, ["stack", "top", "actual", "fixed"], [
  .ret (.tup [.call (.glob "padded" (.fn 3)) [.loc 0, .loc 1, .loc 2, .loc 3], .max (.loc 2) (.loc 3)])]⟩
noncomputable def f9 : MF := ⟨"open_base", 4, ["stack", "top", "fixed", "actual", "base"], [
  .asg (.loc 4) (.call (.glob "lifted" (.fn 4)) [.loc 0, .loc 1, .loc 2, .loc 3]),
  .ret (.tup [.loc 4, .bin .Add (.loc 4) (.loc 2)])]⟩
noncomputable def f10 : MF := ⟨"with_registers", 3, ["stack", "top", "end"], [
  .expr (.call (.glob "fill" (.fn 1)) [.loc 0, .loc 1, .loc 2]),
  .ret (.loc 2)]⟩
noncomputable def f11 : MF := ⟨"left_behind", 4, ["stack", "frames", "first", "top", "frame"], [
  .asg (.loc 4) (.pop (.loc 1)),
  .ret (.tup [.call (.glob "settled" (.fn 5)) [.loc 0, .attr (.loc 4) .frame 0, .loc 2, .loc 3, .attr (.loc 4) .frame 3], .cmp .NotEq (.attr (.loc 4) .frame 3) (.glob "ALL" (.int (-1)))])]⟩
noncomputable def f12 : MF := ⟨"top_behind", 3, ["frames", "wanted", "top"], [
  .ret (.ite (.cmp .Eq (.loc 1) (.glob "ALL" (.int (-1)))) (.loc 2) (.attr (.idx (.loc 0) (.neg (.con (.int 1)))) .frame 2))]⟩
noncomputable def f13 : MF := ⟨"stood_in", 3, ["stack", "frames", "top", "later", "frame"], [
  .asg (.loc 3) (.pop (.loc 1)),
  .asg (.loc 4) (.idx (.loc 1) (.neg (.con (.int 1)))),
  .asg (.attr (.loc 4) .frame 1) (.bin .Sub (.bin .Add (.attr (.loc 4) .frame 0) (.attr (.loc 3) .frame 1)) (.attr (.loc 3) .frame 0)),
  .asg (.attr (.loc 4) .frame 2) (.call (.glob "moved_down" (.fn 6)) [.loc 0, .attr (.loc 3) .frame 0, .loc 2, .attr (.loc 4) .frame 0]),
  .asg (.attr (.loc 4) .frame 4) (.attr (.loc 3) .frame 4),
  .augA (.loc 4) .frame 5 .Add (.con (.int 1)),
  .ret (.attr (.loc 4) .frame 2)]⟩
noncomputable def f14 : MF := ⟨"unwound", 2, ["frames", "depth"], [
  .whil (.cmp .Gt (.len (.loc 0)) (.loc 1)) [
  .expr (.pop (.loc 0))]]⟩
noncomputable def f15 : MF := ⟨"__init__", 3, ["self", "number", "size"], [
  .asg (.attr (.loc 0) .upval 0) (.loc 1),
  .asg (.attr (.loc 0) .upval 1) (.con (.int 0)),
  .asg (.attr (.loc 0) .upval 2) (.loc 2)]⟩
noncomputable def f16 : MF := ⟨"__init__", 5, ["self", "func", "base", "top", "wanted"], [
  .asg (.attr (.loc 0) .frame 0) (.loc 1),
  .asg (.attr (.loc 0) .frame 1) (.loc 2),
  .asg (.attr (.loc 0) .frame 2) (.loc 3),
  .asg (.attr (.loc 0) .frame 3) (.loc 4),
  .asg (.attr (.loc 0) .frame 4) (.con (.int 0)),
  .asg (.attr (.loc 0) .frame 5) (.con (.int 0)),
  .asg (.attr (.loc 0) .frame 6) (.con (.bool false))]⟩
noncomputable def f17 : MF := ⟨"__init__", 3, ["self", "thread", "index"], [
  .expr (.cmeth 15 [.loc 0, .con (.int 0), .glob "SIZE_UPVAL" (.int 4)]),
  .asg (.attr (.loc 0) .upval 3) (.loc 1),
  .asg (.attr (.loc 0) .upval 4) (.loc 2),
  .asg (.attr (.loc 0) .upval 5) (.con .none)]⟩
noncomputable def f18 : MF := ⟨"get", 1, ["self"], [
  .ite (.cmp .Is (.attr (.loc 0) .upval 3) (.con .none)) [
  .ret (.attr (.loc 0) .upval 5)] [
  ],
  .ret (.idx (.attr (.attr (.loc 0) .upval 3) .ground 0) (.attr (.loc 0) .upval 4))]⟩
noncomputable def f19 : MF := ⟨"set", 2, ["self", "value"], [
  .ite (.cmp .Is (.attr (.loc 0) .upval 3) (.con .none)) [
  .asg (.attr (.loc 0) .upval 5) (.loc 1)] [
  .asg (.idx (.attr (.attr (.loc 0) .upval 3) .ground 0) (.attr (.loc 0) .upval 4)) (.loc 1)]]⟩
noncomputable def f20 : MF := ⟨"close", 1, ["self"], [
  .ite (.cmp .IsNot (.attr (.loc 0) .upval 3) (.con .none)) [
  .asg (.attr (.loc 0) .upval 5) (.idx (.attr (.attr (.loc 0) .upval 3) .ground 0) (.attr (.loc 0) .upval 4)),
  .asg (.attr (.loc 0) .upval 3) (.con .none),
  .asg (.attr (.loc 0) .upval 4) (.neg (.con (.int 1)))] [
  ]]⟩
noncomputable def f21 : MF := ⟨"__init__", 2, ["self", "values"], [
  .asg (.attr (.loc 0) .ground 0) (.listOf .stack (.loc 1)),
  .asg (.attr (.loc 0) .ground 1) (.newl .opens []),
  .asg (.attr (.loc 0) .ground 2) (.con .none),
  .asg (.attr (.loc 0) .ground 3) (.con (.bool false))]⟩
noncomputable def f22 : MF := ⟨"word_of", 2, ["is_kept", "number"], [
  .ret (.bin .BitOr (.ite (.loc 0) (.glob "GET_UPVAL" (.int 4)) (.con (.int 0))) (.bin .LShift (.loc 1) (.glob "TOLD_AT" (.int 23))))]⟩
noncomputable def f23 : MF := ⟨"is_kept_word", 1, ["word"], [
  .ret (.cmp .Eq (.bin .BitAnd (.loc 0) (.glob "WORD_MASK" (.int 63))) (.glob "GET_UPVAL" (.int 4)))]⟩
noncomputable def f24 : MF := ⟨"shared_variables", 7, ["code", "pc", "many", "kept", "owner", "base", "find", "found", "word", "number"], [
  .asg (.loc 7) (.newl .tmp []),
  .forS 8 (.slcAB (.loc 0) (.loc 1) (.bin .Add (.loc 1) (.loc 2))) [
  .asg (.loc 9) (.bin .RShift (.loc 8) (.glob "TOLD_AT" (.int 23))),
  .expr (.append (.loc 7) (.ite (.call (.glob "is_kept_word" (.fn 23)) [.loc 8]) (.idx (.loc 3) (.loc 9)) (.call (.loc 6) [.loc 4, .bin .Add (.loc 5) (.loc 9)])))],
  .ret (.tup [.freeze (.loc 7), .bin .Add (.loc 1) (.loc 2)])]⟩
noncomputable def f25 : MF := ⟨"spot_of", 2, ["owner", "index", "at"], [
  .asg (.loc 2) (.con (.int 0)),
  .whil (.bop true [.cmp .Lt (.loc 2) (.len (.attr (.loc 0) .ground 1)), .cmp .Gt (.attr (.idx (.attr (.loc 0) .ground 1) (.loc 2)) .upval 4) (.loc 1)]) [
  .augL 2 .Add (.con (.int 1))],
  .ret (.loc 2)]⟩
noncomputable def f26 : MF := ⟨"open_at", 2, ["owner", "index", "at"], [
  .asg (.loc 2) (.call (.glob "spot_of" (.fn 25)) [.loc 0, .loc 1]),
  .ite (.bop true [.cmp .Lt (.loc 2) (.len (.attr (.loc 0) .ground 1)), .cmp .Eq (.attr (.idx (.attr (.loc 0) .ground 1) (.loc 2)) .upval 4) (.loc 1)]) [
  .ret (.idx (.attr (.loc 0) .ground 1) (.loc 2))] [
  ],
  .ret (.con .none)]⟩
noncomputable def f27 : MF := ⟨"put_open", 2, ["owner", "upval"], [
  .expr (.insert (.attr (.loc 0) .ground 1) (.call (.glob "spot_of" (.fn 25)) [.loc 0, .attr (.loc 1) .upval 4]) (.loc 1))]⟩
noncomputable def f28 : MF := ⟨"find_plain", 2, ["owner", "index", "found"], [
  .asg (.loc 2) (.call (.glob "open_at" (.fn 26)) [.loc 0, .loc 1]),
  .ite (.cmp .Is (.loc 2) (.con .none)) [
  .asg (.loc 2) (.call (.glob "UpVal" (.cls .upval)) [.loc 0, .loc 1]),
  .expr (.call (.glob "put_open" (.fn 27)) [.loc 0, .loc 2])] [
  ],
  .ret (.loc 2)]⟩
noncomputable def f29 : MF := ⟨"take_closed", 2, ["owner", "level", "found", "upval"], [
  .asg (.loc 2) (.newl .tmp []),
  .whil (.bop true [.cmp .Gt (.len (.attr (.loc 0) .ground 1)) (.con (.int 0)), .cmp .GtE (.attr (.idx (.attr (.loc 0) .ground 1) (.con (.int 0))) .upval 4) (.loc 1)]) [
  .asg (.loc 3) (.pop0 (.attr (.loc 0) .ground 1)),
  .expr (.meth (.loc 3) .upval 20 []),
  .expr (.append (.loc 2) (.loc 3))],
  .ret (.freeze (.loc 2))]⟩
noncomputable def f30 : MF := ⟨"_law_told", 2, ["bag", "many", "at"], [
  .asg (.key (.loc 0) .bag 1) (.bin .Add (.key (.loc 0) .bag 1) (.con (.int 1))),
  .asg (.loc 2) (.key (.loc 0) .bag 1),
  .ite (.cmp .LtE (.loc 2) (.len (.key (.loc 0) .bag 0))) [
  .ret (.bin .Mod (.idx (.key (.loc 0) .bag 0) (.bin .Sub (.loc 2) (.con (.int 1)))) (.loc 1))] [
  ],
  .ret (.bin .Mod (.bin .Add (.bin .Mult (.con (.int 17)) (.loc 2)) (.bin .FloorDiv (.bin .Mult (.loc 2) (.loc 2)) (.con (.int 4)))) (.loc 1))]⟩
noncomputable def f31 : MF := ⟨"_law_row", 2, ["bag", "size"], [
  .ret (.compR (.call (.glob "_law_told" (.fn 30)) [.loc 0, .loc 1]) (.call (.glob "_law_told" (.fn 30)) [.loc 0, .con (.int 4)]))]⟩
noncomputable def f32 : MF := ⟨"_law_wanted", 1, ["bag"], [
  .ret (.idx (.lst [.glob "_law_all" (.int (-1)), .con (.int 2), .con (.int 0), .con (.int 1)]) (.call (.glob "_law_told" (.fn 30)) [.loc 0, .con (.int 4)]))]⟩
noncomputable def f33 : MF := ⟨"_law_plan", 2, ["bag", "at", "params", "is_open", "size", "deeds", "turn", "kind"], [
  .asgT [.loc 2, .loc 3] (.tup [.call (.glob "_law_told" (.fn 30)) [.loc 0, .con (.int 3)], .cmp .Eq (.call (.glob "_law_told" (.fn 30)) [.loc 0, .con (.int 2)]) (.con (.int 1))]),
  .asgT [.loc 4, .loc 5] (.tup [.bin .Add (.bin .Add (.loc 2) (.con (.int 1))) (.call (.glob "_law_told" (.fn 30)) [.loc 0, .con (.int 2)]), .newl .tmp []]),
  .forR1 6 (.call (.glob "_law_told" (.fn 30)) [.loc 0, .con (.int 3)]) [
  .asg (.loc 7) (.call (.glob "_law_told" (.fn 30)) [.loc 0, .con (.int 4)]),
  .ite (.cmp .Eq (.loc 7) (.con (.int 0))) [
  .expr (.append (.loc 5) (.tup [.con (.str "set"), .call (.glob "_law_told" (.fn 30)) [.loc 0, .loc 4], .call (.glob "_law_told" (.fn 30)) [.loc 0, .con (.int 50)]]))] [
  .ite (.cmp .Eq (.loc 7) (.con (.int 1))) [
  .expr (.append (.loc 5) (.tup [.con (.str "put"), .call (.glob "_law_told" (.fn 30)) [.loc 0, .con (.int 6)], .call (.glob "_law_told" (.fn 30)) [.loc 0, .con (.int 50)]]))] [
  .ite (.bop true [.cmp .Eq (.loc 7) (.con (.int 3)), .cmp .Gt (.loc 1) (.con (.int 0)), .cmp .Eq (.loc 6) (.con (.int 0))]) [
  .expr (.append (.loc 5) (.tup [.con (.str "call"), .call (.glob "_law_told" (.fn 30)) [.loc 0, .loc 1], .call (.glob "_law_row" (.fn 31)) [.loc 0, .loc 4], .call (.glob "_law_wanted" (.fn 32)) [.loc 0]]))] [
  .expr (.append (.loc 5) (.tup [.con (.str "make"), .compR (.tup [.call (.glob "_law_told" (.fn 30)) [.loc 0, .con (.int 2)], .call (.glob "_law_told" (.fn 30)) [.loc 0, .con (.int 4)]]) (.bin .Add (.con (.int 1)) (.call (.glob "_law_told" (.fn 30)) [.loc 0, .con (.int 2)]))]))]]]],
  .asg (.loc 7) (.call (.glob "_law_told" (.fn 30)) [.loc 0, .con (.int 5)]),
  .ite (.cmp .Eq (.loc 7) (.con (.int 4))) [
  .ret (.tup [.loc 2, .loc 3, .loc 4, .freeze (.loc 5), .tup [.con (.str "raise"), .con (.int 0), .lst []]])] [
  ],
  .ite (.bop true [.cmp .In (.loc 7) (.tup [.con (.int 0), .con (.int 2)]), .cmp .Gt (.loc 1) (.con (.int 0))]) [
  .ret (.tup [.loc 2, .loc 3, .loc 4, .freeze (.loc 5), .tup [.con (.str "go"), .call (.glob "_law_told" (.fn 30)) [.loc 0, .loc 1], .call (.glob "_law_row" (.fn 31)) [.loc 0, .loc 4]]])] [
  ],
  .ret (.tup [.loc 2, .loc 3, .loc 4, .freeze (.loc 5), .tup [.con (.str "return"), .con (.int 0), .call (.glob "_law_row" (.fn 31)) [.loc 0, .loc 4]]])]⟩
noncomputable def f34 : MF := ⟨"_law_push", 2, ["world", "values", "stack", "top"], [
  .asgT [.loc 2, .loc 3] (.tup [.attr (.key (.loc 0) .world 0) .ground 0, .key (.loc 0) .world 2]),
  .expr (.extend (.loc 2) (.bin .Mult (.lst [.con (.int 99)]) (.bin .Sub (.bin .Add (.loc 3) (.len (.loc 1))) (.len (.loc 2))))),
  .asg (.slc (.loc 2) (.loc 3) (.bin .Add (.loc 3) (.len (.loc 1)))) (.loc 1),
  .asg (.key (.loc 0) .world 2) (.bin .Add (.loc 3) (.len (.loc 1))),
  .ret (.loc 3)]⟩
noncomputable def f35 : MF := ⟨"_law_enter", 4, ["world", "plans", "place", "wanted", "stack", "params", "is_open", "size", "top", "actual", "base"], [
  .asg (.loc 4) (.attr (.key (.loc 0) .world 0) .ground 0),
  .asgT [.loc 5, .loc 6, .loc 7] (.slcB (.idx (.loc 1) (.idx (.loc 4) (.loc 2))) (.con (.int 3))),
  .ite (.loc 6) [
  .asgT [.loc 8, .loc 9] (.call (.glob "told_all" (.fn 8)) [.loc 4, .key (.loc 0) .world 2, .bin .Sub (.bin .Sub (.key (.loc 0) .world 2) (.loc 2)) (.con (.int 1)), .loc 5]),
  .asgT [.loc 10, .loc 8] (.call (.glob "open_base" (.fn 9)) [.loc 4, .loc 8, .loc 5, .loc 9])] [
  .asgT [.loc 10, .loc 8] (.call (.glob "plain_base" (.fn 7)) [.loc 2, .key (.loc 0) .world 2, .loc 5])],
  .expr (.append (.key (.loc 0) .world 1) (.call (.glob "CallInfo" (.cls .frame)) [.loc 2, .loc 10, .bin .Add (.loc 10) (.loc 7), .loc 3])),
  .asg (.key (.loc 0) .world 2) (.call (.glob "with_registers" (.fn 10)) [.loc 4, .loc 8, .bin .Add (.loc 10) (.loc 7)])]⟩
noncomputable def f36 : MF := ⟨"_law_note", 4, ["world", "frame", "size", "news", "shift", "ground", "places"], [
  .asgT [.loc 4, .loc 5] (.tup [.key (.loc 0) .world 7, .key (.loc 0) .world 0]),
  .expr (.append (.key (.loc 0) .world 5) (.tup [.loc 3, .slcAB (.attr (.loc 5) .ground 0) (.attr (.loc 1) .frame 1) (.bin .Add (.attr (.loc 1) .frame 1) (.loc 2)), .compS (.meth (.loc 7) .upval 18 []) (.slcA (.key (.loc 0) .world 4) (.neg (.con (.int 4))))])),
  .asg (.loc 6) (.lst [.bin .Sub (.attr (.loc 1) .frame 0) (.loc 4), .bin .Sub (.attr (.loc 1) .frame 1) (.loc 4), .bin .Sub (.attr (.loc 1) .frame 2) (.loc 4), .bin .Sub (.key (.loc 0) .world 2) (.loc 4)]),
  .expr (.append (.key (.loc 0) .world 6) (.bin .Add (.loc 6) (.compS (.bin .Sub (.attr (.loc 7) .upval 4) (.loc 4)) (.attr (.loc 5) .ground 1))))]⟩
noncomputable def f37 : MF := ⟨"_law_made", 5, ["world", "words", "kept", "frame", "size", "code", "known", "flag", "number", "is_kept", "found", "behind", "one"], [
  .asgT [.loc 5, .loc 6] (.tup [.newl .tmp [], .key (.loc 0) .world 4]),
  .forS2 7 8 (.loc 1) [
  .asg (.loc 9) (.bop true [.cmp .Eq (.loc 7) (.con (.int 1)), .cmp .NotEq (.loc 2) (.lst [])]),
  .expr (.append (.loc 5) (.call (.glob "word_of" (.fn 22)) [.loc 9, .ite (.loc 9) (.bin .Mod (.loc 8) (.len (.loc 2))) (.bin .Mod (.loc 8) (.loc 4))]))],
  .asgT [.loc 10, .loc 11] (.call (.glob "shared_variables" (.fn 24)) [.loc 5, .con (.int 0), .len (.loc 5), .loc 2, .key (.loc 0) .world 0, .attr (.loc 3) .frame 1, .glob "find_plain" (.fn 28)]),
  .forS 12 (.loc 10) [
  .ite (.cmp .Eq (.compSC (.loc 13) (.loc 6) (.cmp .Eq (.loc 13) (.loc 12))) (.lst [])) [
  .expr (.append (.loc 6) (.loc 12))] [
  ]],
  .expr (.append (.key (.loc 0) .world 3) (.loc 10)),
  .ret (.bin .Add (.compS (.compEC (.loc 14) (.loc 6) (.cmp .Eq (.loc 15) (.loc 13))) (.loc 10)) (.lst [.loc 11]))]⟩
noncomputable def f38 : MF := ⟨"_law_deed", 6, ["world", "plans", "deed", "kept", "frame", "size", "stack", "frames", "place", "depth", "found", "is_right"], [
  .asgT [.loc 6, .loc 7] (.tup [.attr (.key (.loc 0) .world 0) .ground 0, .key (.loc 0) .world 1]),
  .ite (.cmp .Eq (.idx (.loc 2) (.con (.int 0))) (.con (.str "set"))) [
  .asg (.idx (.loc 6) (.bin .Add (.attr (.loc 4) .frame 1) (.idx (.loc 2) (.con (.int 1))))) (.idx (.loc 2) (.con (.int 2))),
  .ret (.lst [])] [
  ],
  .ite (.cmp .Eq (.idx (.loc 2) (.con (.int 0))) (.con (.str "put"))) [
  .ite (.cmp .NotEq (.key (.loc 0) .world 4) (.lst [])) [
  .expr (.meth (.idx (.key (.loc 0) .world 4) (.bin .Mod (.idx (.loc 2) (.con (.int 1))) (.len (.key (.loc 0) .world 4)))) .upval 19 [.idx (.loc 2) (.con (.int 2))])] [
  ],
  .ret (.lst [])] [
  ],
  .ite (.cmp .Eq (.idx (.loc 2) (.con (.int 0))) (.con (.str "make"))) [
  .ret (.call (.glob "_law_made" (.fn 37)) [.loc 0, .idx (.loc 2) (.con (.int 1)), .loc 3, .loc 4, .loc 5])] [
  ],
  .asgT [.loc 8, .loc 9] (.tup [.call (.glob "_law_push" (.fn 34)) [.loc 0, .bin .Add (.lst [.idx (.loc 2) (.con (.int 1))]) (.compS (.idx (.loc 6) (.bin .Add (.attr (.loc 4) .frame 1) (.loc 12))) (.idx (.loc 2) (.con (.int 2))))], .len (.loc 7)]),
  .ite (.not (.call (.glob "_law_run" (.fn 39)) [.loc 0, .loc 1, .loc 8, .idx (.loc 2) (.con (.int 3))])) [
  .expr (.call (.glob "unwound" (.fn 14)) [.loc 7, .loc 9]),
  .expr (.call (.glob "take_closed" (.fn 29)) [.key (.loc 0) .world 0, .loc 8]),
  .asg (.key (.loc 0) .world 2) (.attr (.loc 4) .frame 2),
  .ret (.lst [.con (.str "raised"), .cmp .Eq (.len (.loc 7)) (.loc 9)])] [
  ],
  .asg (.loc 10) (.slcAB (.loc 6) (.loc 8) (.key (.loc 0) .world 2)),
  .asg (.loc 11) (.cmp .Eq (.call (.glob "top_behind" (.fn 12)) [.loc 7, .idx (.loc 2) (.con (.int 3)), .key (.loc 0) .world 2]) (.ite (.cmp .GtE (.idx (.loc 2) (.con (.int 3))) (.con (.int 0))) (.attr (.loc 4) .frame 2) (.bin .Add (.loc 8) (.len (.loc 10))))),
  .asg (.idx (.loc 6) (.attr (.loc 4) .frame 1)) (.idx (.bin .Add (.loc 10) (.lst [.con .none])) (.con (.int 0))),
  .asg (.key (.loc 0) .world 2) (.attr (.loc 4) .frame 2),
  .ret (.lst [.loc 10, .loc 11])]⟩
noncomputable def f39 : MF := ⟨"_law_run", 4, ["world", "plans", "place", "wanted", "frame", "stack", "kept", "params", "is_open", "size", "deeds", "last", "deed", "news", "values", "is_told"], [
  .expr (.call (.glob "_law_enter" (.fn 35)) [.loc 0, .loc 1, .loc 2, .loc 3]),
  .whil (.con (.bool true)) [
  .asgT [.loc 4, .loc 5, .loc 6] (.tup [.idx (.key (.loc 0) .world 1) (.neg (.con (.int 1))), .attr (.key (.loc 0) .world 0) .ground 0, .idx (.slcA (.bin .Add (.key (.loc 0) .world 3) (.lst [.lst []])) (.neg (.con (.int 2)))) (.con (.int 0))]),
  .asgT [.loc 7, .loc 8, .loc 9, .loc 10, .loc 11] (.idx (.loc 1) (.idx (.loc 5) (.attr (.loc 4) .frame 0))),
  .asg (.key (.loc 0) .world 9) (.bin .Add (.key (.loc 0) .world 9) (.con (.int 1))),
  .asg (.idx (.loc 5) (.bin .Sub (.bin .Add (.attr (.loc 4) .frame 1) (.loc 9)) (.con (.int 1)))) (.bin .Add (.con (.int 500)) (.key (.loc 0) .world 9)),
  .expr (.call (.glob "_law_note" (.fn 36)) [.loc 0, .loc 4, .loc 9, .ite (.loc 8) (.slcAB (.loc 5) (.bin .Add (.bin .Add (.attr (.loc 4) .frame 0) (.con (.int 1))) (.loc 7)) (.attr (.loc 4) .frame 1)) (.lst [])]),
  .forS 12 (.loc 10) [
  .asg (.loc 13) (.call (.glob "_law_deed" (.fn 38)) [.loc 0, .loc 1, .loc 12, .loc 6, .loc 4, .loc 9]),
  .expr (.call (.glob "_law_note" (.fn 36)) [.loc 0, .loc 4, .loc 9, .loc 13])],
  .ite (.cmp .Eq (.idx (.loc 11) (.con (.int 0))) (.con (.str "raise"))) [
  .ret (.con (.bool false))] [
  ],
  .asg (.loc 14) (.compS (.idx (.loc 5) (.bin .Add (.attr (.loc 4) .frame 1) (.loc 16))) (.idx (.loc 11) (.con (.int 2)))),
  .asg (.loc 2) (.call (.glob "_law_push" (.fn 34)) [.loc 0, .ite (.cmp .Eq (.idx (.loc 11) (.con (.int 0))) (.con (.str "go"))) (.bin .Add (.lst [.idx (.loc 11) (.con (.int 1))]) (.loc 14)) (.loc 14)]),
  .ite (.bop true [.cmp .Eq (.idx (.loc 11) (.con (.int 0))) (.con (.str "go")), .key (.loc 0) .world 8]) [
  .expr (.call (.glob "take_closed" (.fn 29)) [.key (.loc 0) .world 0, .attr (.loc 4) .frame 1]),
  .expr (.call (.glob "_law_enter" (.fn 35)) [.loc 0, .loc 1, .loc 2, .glob "_law_all" (.int (-1))]),
  .asg (.key (.loc 0) .world 2) (.call (.glob "stood_in" (.fn 13)) [.loc 5, .key (.loc 0) .world 1, .key (.loc 0) .world 2]),
  .cont] [
  ],
  .ite (.bop true [.cmp .Eq (.idx (.loc 11) (.con (.int 0))) (.con (.str "go")), .not (.call (.glob "_law_run" (.fn 39)) [.loc 0, .loc 1, .loc 2, .glob "_law_all" (.int (-1))])]) [
  .ret (.con (.bool false))] [
  ],
  .expr (.call (.glob "take_closed" (.fn 29)) [.key (.loc 0) .world 0, .attr (.loc 4) .frame 1]),
  .asgT [.key (.loc 0) .world 2, .loc 15] (.call (.glob "left_behind" (.fn 11)) [.loc 5, .key (.loc 0) .world 1, .loc 2, .key (.loc 0) .world 2]),
  .asg (.key (.loc 0) .world 10) (.bop true [.key (.loc 0) .world 10, .cmp .Eq (.loc 15) (.cmp .GtE (.attr (.loc 4) .frame 3) (.con (.int 0)))]),
  .ret (.con (.bool true))]]⟩
noncomputable def f40 : MF := ⟨"_law_world", 5, ["plans", "args", "wanted", "shift", "stands", "below", "world", "place", "is_done", "found", "ground", "well"], [
  .asg (.loc 5) (.compR (.bin .Add (.bin .Mult (.con (.int 60)) (.loc 4)) (.loc 12)) (.loc 3)),
  .asg (.loc 6) (.newd .world [.call (.glob "Ground" (.cls .ground)) [.loc 5], .newl .frames [.call (.glob "CallInfo" (.cls .frame)) [.con (.int 0), .con (.int 1), .loc 3, .con (.int 0)]], .loc 3, .newl .made [], .newl .known [], .newl .notes [], .newl .places [], .loc 3, .loc 4, .con (.int 0), .con (.bool true)]),
  .asg (.loc 7) (.call (.glob "_law_push" (.fn 34)) [.loc 6, .bin .Add (.lst [.bin .Sub (.len (.loc 0)) (.con (.int 1))]) (.loc 1)]),
  .asgT [.loc 8, .loc 9, .loc 10] (.tup [.call (.glob "_law_run" (.fn 39)) [.loc 6, .loc 0, .loc 7, .loc 2], .lst [], .key (.loc 6) .world 0]),
  .ite (.loc 8) [
  .asg (.loc 9) (.slcAB (.attr (.loc 10) .ground 0) (.loc 7) (.key (.loc 6) .world 2))] [
  .expr (.call (.glob "unwound" (.fn 14)) [.key (.loc 6) .world 1, .con (.int 1)]),
  .expr (.call (.glob "take_closed" (.fn 29)) [.loc 10, .loc 7])],
  .asg (.loc 11) (.bop true [.key (.loc 6) .world 10, .cmp .Eq (.slcB (.attr (.loc 10) .ground 0) (.loc 3)) (.loc 5), .cmp .Eq (.attr (.loc 10) .ground 1) (.lst []), .cmp .Eq (.len (.key (.loc 6) .world 1)) (.con (.int 1))]),
  .asg (.loc 11) (.bop true [.loc 11, .bop false [.not (.loc 8), .cmp .Lt (.loc 2) (.con (.int 0)), .cmp .Eq (.len (.loc 9)) (.loc 2)]]),
  .ret (.tup [.lst [.loc 11, .loc 8, .loc 9, .freeze (.key (.loc 6) .world 5), .compS (.meth (.loc 12) .upval 18 []) (.key (.loc 6) .world 4)], .freeze (.key (.loc 6) .world 6)])]⟩
noncomputable def f41 : MF := ⟨"law", 1, ["script", "bag", "plans", "args", "wanted", "low", "told", "places"], [
  .asg (.loc 1) (.newd .bag [.slcB (.loc 0) (.con (.int 63)), .con (.int 0)]),
  .asg (.loc 2) (.compR (.call (.glob "_law_plan" (.fn 33)) [.loc 1, .loc 8]) (.idx (.lst [.con (.int 1), .con (.int 2), .con (.int 2), .con (.int 3)]) (.call (.glob "_law_told" (.fn 30)) [.loc 1, .con (.int 4)]))),
  .asg (.loc 3) (.compR (.call (.glob "_law_told" (.fn 30)) [.loc 1, .con (.int 90)]) (.call (.glob "_law_told" (.fn 30)) [.loc 1, .con (.int 4)])),
  .asgT [.loc 4, .loc 5] (.tup [.call (.glob "_law_wanted" (.fn 32)) [.loc 1], .bin .Add (.con (.int 1)) (.call (.glob "_law_told" (.fn 30)) [.loc 1, .con (.int 5)])]),
  .asgT [.loc 6, .loc 7] (.call (.glob "_law_world" (.fn 40)) [.loc 2, .loc 3, .loc 4, .loc 5, .con (.bool true)]),
  .ite (.bop false [.not (.idx (.loc 6) (.con (.int 0))), .cmp .NotEq (.call (.glob "_law_world" (.fn 40)) [.loc 2, .loc 3, .loc 4, .bin .Add (.bin .Add (.loc 5) (.con (.int 1))) (.call (.glob "_law_told" (.fn 30)) [.loc 1, .con (.int 6)]), .con (.bool true)]) (.tup [.loc 6, .loc 7])]) [
  .ret (.con (.bool false))] [
  ],
  .ret (.cmp .Eq (.idx (.call (.glob "_law_world" (.fn 40)) [.loc 2, .loc 3, .loc 4, .loc 5, .con (.bool false)]) (.con (.int 0))) (.loc 6))]⟩
noncomputable def fnL : List MF := [f0, f1, f2, f3, f4, f5, f6, f7, f8, f9, f10, f11, f12, f13, f14, f15, f16, f17, f18, f19, f20, f21, f22, f23, f24, f25, f26, f27, f28, f29, f30, f31, f32, f33, f34, f35, f36, f37, f38, f39, f40, f41]
noncomputable def fnTab (n : Nat) : Option MF := fnL[n]?
noncomputable def iniTab : Kd → Option Nat
  | .frame => some 16
  | .upval => some 17
  | .ground => some 21
  | _ => Option.none
noncomputable def tab0 : Tab := ⟨fnTab, iniTab⟩
noncomputable def globs : List (PySem.Str × V) := [
  (("CallInfo" : PySem.Str), V.cls .frame),
  (("UpVal" : PySem.Str), V.cls .upval),
  (("Ground" : PySem.Str), V.cls .ground),
  (("grow" : PySem.Str), V.fn 0),
  (("fill" : PySem.Str), V.fn 1),
  (("cut" : PySem.Str), V.fn 2),
  (("padded" : PySem.Str), V.fn 3),
  (("lifted" : PySem.Str), V.fn 4),
  (("settled" : PySem.Str), V.fn 5),
  (("moved_down" : PySem.Str), V.fn 6),
  (("plain_base" : PySem.Str), V.fn 7),
  (("told_all" : PySem.Str), V.fn 8),
  (("open_base" : PySem.Str), V.fn 9),
  (("with_registers" : PySem.Str), V.fn 10),
  (("left_behind" : PySem.Str), V.fn 11),
  (("top_behind" : PySem.Str), V.fn 12),
  (("stood_in" : PySem.Str), V.fn 13),
  (("unwound" : PySem.Str), V.fn 14),
  (("word_of" : PySem.Str), V.fn 22),
  (("is_kept_word" : PySem.Str), V.fn 23),
  (("shared_variables" : PySem.Str), V.fn 24),
  (("spot_of" : PySem.Str), V.fn 25),
  (("open_at" : PySem.Str), V.fn 26),
  (("put_open" : PySem.Str), V.fn 27),
  (("find_plain" : PySem.Str), V.fn 28),
  (("take_closed" : PySem.Str), V.fn 29),
  (("_law_told" : PySem.Str), V.fn 30),
  (("_law_row" : PySem.Str), V.fn 31),
  (("_law_wanted" : PySem.Str), V.fn 32),
  (("_law_plan" : PySem.Str), V.fn 33),
  (("_law_push" : PySem.Str), V.fn 34),
  (("_law_enter" : PySem.Str), V.fn 35),
  (("_law_note" : PySem.Str), V.fn 36),
  (("_law_made" : PySem.Str), V.fn 37),
  (("_law_deed" : PySem.Str), V.fn 38),
  (("_law_run" : PySem.Str), V.fn 39),
  (("_law_world" : PySem.Str), V.fn 40),
  (("law" : PySem.Str), V.fn 41),
  (("ALL" : PySem.Str), V.int (-1)),
  (("WORD_MASK" : PySem.Str), V.int 63),
  (("GET_UPVAL" : PySem.Str), V.int 4),
  (("TOLD_AT" : PySem.Str), V.int 23),
  (("SIZE_UPVAL" : PySem.Str), V.int 4),
  (("_law_all" : PySem.Str), V.int (-1))]
noncomputable def glob0 : Glob := ⟨fun x => globs.lookup x⟩
end Mine
end
section
open PySem PySem.W PyProof.Rows PySem.Calls
set_option maxRecDepth 100000
namespace Mine
noncomputable def faN : Nat → Addr
  | 0 => 28 | 1 => 35 | 2 => 42 | 3 => 49 | 4 => 56 | 5 => 63 | 6 => 70 | 7 => 77 | 8 => 84 | 9 => 91 | 10 => 98 | 11 => 105 | 12 => 112 | 13 => 119 | 14 => 126
  | 15 => 161 | 16 => 182 | 17 => 217 | 18 => 232 | 19 => 239 | 20 => 246 | 21 => 265
  | 22 => 133 | 23 => 140 | 24 => 147 | 25 => 279 | 26 => 286 | 27 => 293 | 28 => 300 | 29 => 307
  | 30 => 314 | 31 => 319 | 32 => 326 | 33 => 331 | 34 => 338 | 35 => 345 | 36 => 350 | 37 => 355 | 38 => 360 | 39 => 365 | 40 => 370 | 41 => 375
  | _ => 0
noncomputable def caK : Kd → Addr
  | .frame => 199 | .upval => 249 | .ground => 268 | _ => 0
noncomputable def someB {α : Type} (o : Option α) (f : α → Bool) : Bool := match o with | some x => f x | Option.none => false
noncomputable def refOf : Value → Option Addr | .ref b => some b | _ => Option.none
noncomputable def bltOf : Value → Option String | .builtin b => some b | _ => Option.none
noncomputable def tyOf : Value → Option String | .type b => some b | _ => Option.none
noncomputable def valOf : CFound → Option Value | .val v => some v | _ => Option.none
noncomputable def isRef (v : Option (Option Value)) (a : Addr) : Bool := someB v fun o => someB o fun x => refOf x == some a
noncomputable def isBlt (v : Option (Option Value)) (s : String) : Bool := someB v fun o => someB o fun x => bltOf x == some s
noncomputable def isAbs (v : Option (Option Value)) : Bool := someB v fun o => o.isNone
noncomputable def isTy (v : Option Value) (s : String) : Bool := someB v fun x => tyOf x == some s
noncomputable def parB (p : Arguments) (ns : List Str) : Bool := p.posonlyargs.isEmpty && (p.kwonlyargs.isEmpty && (p.vararg.isNone && (p.kwarg.isNone && (p.args.map (·.arg)) == ns)))
noncomputable def innerFns : PySem.Stmt → List (List PySem.Stmt × Scope)
  | .FunctionDef _ _ b _ _ _ sc _ _ _ => [(b, sc)]
  | _ => []
noncomputable def fnsOf : PySem.Stmt → List (List PySem.Stmt × Scope)
  | .FunctionDef _ _ b _ _ _ sc _ _ _ => [(b, sc)]
  | .ClassDef _ _ _ b _ _ _ _ _ _ _ => b.flatMap innerFns
  | _ => []
noncomputable def pwFns : List (List PySem.Stmt × Scope) := theRow.toRowW.1.main.body.flatMap fnsOf
noncomputable def pwN : List Nat := [1, 2, 3, 4, 5, 6, 7, 8, 9, 10, 11, 12, 13, 14, 15, 19, 20, 23, 25, 26, 27, 28, 16, 17, 18, 29, 30, 31, 32, 33, 34, 35, 36, 37, 38, 39, 40, 41, 42, 43, 44, 45]
noncomputable def pwBody (n : Nat) : List PySem.Stmt := ((pwFns[pwN.getD n 0]?).map (·.1)).getD []
noncomputable def isFun : ScopeKind → Bool | .function => true | _ => false
noncomputable def funcOf : Data → Option FuncData | .func fd => some fd | _ => Option.none
noncomputable def noneV : Value → Bool | .none => true | _ => false
noncomputable def fnB (K : Frag) (n : Nat) (mf : MF) : Bool := someB (K.lookup (faN n)) fun o => someB (funcOf o.data) fun fd =>
  fd.globals == mainGlobals && (fd.builtins == builtinsNs && (codeIn K fd.code fd.qualname && (!fd.scope.isCoroutine && (!fd.scope.isGenerator && (isFun fd.scope.kind && (okSs glob0 fd.scope mf.vars mf.body (pwBody n) &&
    ((fd.scope.names.all fun nk => nk.2 != .free) && (((mf.vars.take mf.np).all fun x => fd.scope.names.lookup x == some .local || fd.scope.names.lookup x == some .cell) && (parB fd.params (mf.vars.take mf.np) &&
    (decide (mf.np ≤ mf.vars.length) && (decide (mf.vars.take mf.np).Nodup && (fd.closure.isEmpty && noneV fd.defaults))))))))))))
noncomputable def bodyK (K : Frag) (n : Nat) : Option FuncBody := ((K.lookup (faN n)).bind fun o => funcOf o.data).map (·.body)
noncomputable def bodyM (n : Nat) (mf : MF) : Option FuncBody := some (.stmts (buildSs mf.vars mf.body (pwBody n)))
noncomputable def allN {α : Type} (f : Nat → MF → α) : Nat → List MF → List α
  | _, [] => []
  | n, mf :: r => f n mf :: allN f (n + 1) r
noncomputable def clsB (K : Frag) (k : Kd) : Bool :=
  plainGet K (caK k) "" && (hasDictIn K (caK k) && (((fields k).all fun x => isAbs (findIn K (.ref (caK k)) x)) && (isBlt (findIn K (.ref (caK k)) "__setattr__") "object.__setattr__" && (plainOver K (caK k) &&
    (((fields k).all fun x => isAbs (takerIn K (caK k) x)) && (makesIn K (caK k) && (keepIn K (.ref (caK k)) && ((match iniTab k with | some n => isRef (findIn K (.ref (caK k)) "__init__") (faN n) && isTy (typeIn K (.ref (faN n))) "function" | Option.none => true) &&
    (isBlt (findIn K (.ref (caK k)) "__eq__") "object.__eq__" && ((subIn K (.ref (caK k)) (.type "object") == some true) &&
    (meths.all fun q => !(decide (q.1 = k)) || (isRef (findIn K (.ref (caK k)) q.2.1) (faN q.2.2) && (isTy (typeIn K (.ref (faN q.2.2))) "function" && !(fields k).contains q.2.1)))))))))))))
noncomputable def intOfV : Value → Option Int | .int j _ => some j | _ => Option.none
noncomputable def vOk (v : V) (y : Value) : Bool := match v with
  | .int i => intOfV y == some i
  | .fn n => refOf y == some (faN n)
  | .cls k => refOf y == some (caK k)
  | _ => false
noncomputable def globsB (K : Frag) : Bool := globs.all fun p => someB (nsIn K mainGlobals p.1) fun o => someB o fun y => vOk p.2 y
noncomputable def isVal (c : Option CFound) (a : Addr) : Bool := someB c fun f => someB (valOf f) fun x => refOf x == some a
noncomputable def hobB (K : Frag) : Bool := isRef (nsIn K mainGlobals "HeapObject") 164 && (isBlt (specialIn K (.ref 164) "__getattribute__") "type.__getattribute__" && (readsIn K 164 (.type "type") && (isVal (findCls K (.ref 164) (.type "type") "__init__") 161 &&
  ((["len", "min", "max", "range", "enumerate", "list"] : List Str).all fun x => isAbs (nsIn K mainGlobals x)))))
noncomputable def chkK (K : Frag) : Bool := isRef (nsIn K mainGlobals "law") 375 && (globsB K && (hobB K && (clsB K .frame && (clsB K .upval && (clsB K .ground && (allN (fnB K) 0 fnL).all id)))))
noncomputable def asL : List Addr := [2, 3, 163, 164, 198, 199, 248, 249, 267, 268, 27, 28, 34, 35, 41, 42, 48, 49, 55, 56, 62, 63, 69, 70, 76, 77, 83, 84, 90, 91, 97, 98, 104, 105, 111, 112, 118, 119, 125, 126, 132, 133, 139, 140, 146, 147, 160, 161, 181, 182, 216, 217, 231, 232, 238, 239, 245, 246, 264, 265, 278, 279, 285, 286, 292, 293, 299, 300, 306, 307, 313, 314, 318, 319, 325, 326, 330, 331, 337, 338, 344, 345, 349, 350, 354, 355, 359, 360, 364, 365, 369, 370, 374, 375]
noncomputable def fragAt (h : Heap) (as : List Addr) : Frag := as.filterMap fun a => (h.get? a).map fun o => (a, o)
theorem fragAt_in (h : Heap) (as : List Addr) : (fragAt h as).In h := fun a o e => by
  have : (a, o) ∈ fragAt h as := by
    generalize fragAt h as = K at e
    induction K with
    | nil => cases e
    | cons p r ih =>
      obtain ⟨b, x⟩ := p
      simp only [List.lookup] at e
      split at e
      · rename_i q; cases e; rw [beq_iff_eq.mp q]; exact List.mem_cons_self
      · exact List.mem_cons_of_mem _ (ih e)
  obtain ⟨b, _, hb⟩ := List.mem_filterMap.mp this
  obtain ⟨o', ho', e'⟩ := Option.map_eq_some_iff.mp hb
  cases e'
  exact ho'
noncomputable def myHook : Hook := ⟨Bool × List (Option FuncBody), fun s => (chkK (fragAt s.heap asL), allN (fun n _ => bodyK (fragAt s.heap asL) n) 0 fnL), fun _ => (true, allN bodyM 0 fnL), fun _ h => ∃ K : Frag, K.In h ∧ chkK K = true ∧ allN (fun n _ => bodyK K n) 0 fnL = allN bodyM 0 fnL,
  fun _ s e => ⟨_, fragAt_in s.heap _, congrArg (·.1) e, congrArg (·.2) e⟩, fun _ _ _ ⟨K, X, e⟩ k => ⟨K, X.keeps k, e⟩⟩
theorem left3 (w : World) : (openEnds treeTable theRow.toRowW.1 w 5032).map myHook.obs = some (myHook.val w) := of_tree (looks1 w) fun os => by kernel_rfl
theorem left : LeftO theRow.toRowW.1 theView ["HeapObject", "UpVal"] theXt myHook.obs myHook.val 5032 := fun w => map_both (left12 w) (left3 w)
end Mine
end
section
open PySem PySem.W PyProof.Rows
namespace Mine
noncomputable abbrev FM := Addr → Option Obj
noncomputable abbrev RM := Kd → List (Addr × Addr)
noncomputable abbrev listO (xs : List Value) (n : Nat) : Obj := { cls := .type "list", dict := Option.none, data := .seq xs.toArray n, slots := #[] }
noncomputable abbrev tupO (xs : List Value) (n : Nat) : Obj := { cls := .type "tuple", dict := Option.none, data := .seq xs.toArray n, slots := #[] }
structure GG where
  prog : Program
  w : World
  K : Frag
  base : Heap
  mg : Str → Option Value
  mb : Str → Option Value
  p : Program
  loose : List Str
  X : K.In base
  T : TopRead p loose mg mb base
  fa : Nat → Addr
  ca : Kd → Addr
  tab : Tab
mutual
inductive VR (g : GG) (F : FM) (ρ : RM) : Value → V → Prop
  | none : VR g F ρ .none .none
  | bool (b : Bool) : VR g F ρ (.bool b) (.bool b)
  | int (i : Int) (t : Tok) : VR g F ρ (.int i t) (.int i)
  | str (x : Str) (t : Tok) : VR g F ρ (.str x t) (.str x)
  | tup {a : Addr} {xs : List Value} {vs : List V} {n : Nat} : F a = some (tupO xs n) → VsR g F ρ xs vs → vs.length ≤ LIM → VR g F ρ (.ref a) (.tup vs)
  | lst {a : Addr} {xs : List Value} {vs : List V} {n : Nat} : F a = some (listO xs n) → VsR g F ρ xs vs → vs.length ≤ LIM → VR g F ρ (.ref a) (.lst vs)
  | ref {k : Kd} {i : Nat} {p : Addr × Addr} : (ρ k)[i]? = some p → VR g F ρ (.ref p.1) (.ref k i)
  | fn (n : Nat) : VR g F ρ (.ref (g.fa n)) (.fn n)
  | cls (k : Kd) : VR g F ρ (.ref (g.ca k)) (.cls k)
inductive VsR (g : GG) (F : FM) (ρ : RM) : List Value → List V → Prop
  | nil : VsR g F ρ [] []
  | cons {x : Value} {v : V} {xs : List Value} {vs : List V} : VR g F ρ x v → VsR g F ρ xs vs → VsR g F ρ (x :: xs) (v :: vs)
end
noncomputable def Ext (F F' : FM) : Prop := ∀ b o, F b = some o → F' b = some o
noncomputable def Pre (ρ ρ' : RM) : Prop := ∀ (k : Kd) (i : Nat) (p : Addr × Addr), (ρ k)[i]? = some p → (ρ' k)[i]? = some p
theorem Ext.refl (F : FM) : Ext F F := fun _ _ h => h
theorem Pre.refl (ρ : RM) : Pre ρ ρ := fun _ _ _ h => h
section
variable {g : GG} {F F' : FM} {ρ ρ' : RM}
theorem VR.mono (hF : Ext F F') (hρ : Pre ρ ρ') {v : Value} {x : V} (h : VR g F ρ v x) : VR g F' ρ' v x :=
  VR.rec (motive_1 := fun v x _ => VR g F' ρ' v x) (motive_2 := fun v x _ => VsR g F' ρ' v x) .none .bool .int .str (fun h _ hl ih => .tup (hF _ _ h) ih hl) (fun h _ hl ih => .lst (hF _ _ h) ih hl) (fun h => .ref (hρ _ _ _ h)) .fn .cls .nil (fun _ _ ih1 ih2 => .cons ih1 ih2) h
theorem VsR.cons_inv {ys : List Value} {u : V} {us : List V} (h : VsR g F ρ ys (u :: us)) : ∃ y t, ys = y :: t ∧ VR g F ρ y u ∧ VsR g F ρ t us := by
  cases h with
  | cons a b => exact ⟨_, _, rfl, a, b⟩
theorem VsR.nil_inv {ys : List Value} (h : VsR g F ρ ys []) : ys = [] := by cases h; rfl
theorem VsR.pair {ys : List Value} {a b : V} (h : VsR g F ρ ys [a, b]) : ∃ x y, ys = [x, y] ∧ VR g F ρ x a ∧ VR g F ρ y b := by
  obtain ⟨x, t, e, ha, h⟩ := h.cons_inv
  obtain ⟨y, u, e2, hb, h⟩ := h.cons_inv
  rw [h.nil_inv] at e2
  exact ⟨x, y, e.trans (congrArg _ e2), ha, hb⟩
theorem VsR.mono (hF : Ext F F') (hρ : Pre ρ ρ') {vs : List V} : ∀ {xs : List Value}, VsR g F ρ xs vs → VsR g F' ρ' xs vs := by
  induction vs with
  | nil => exact fun h => h.nil_inv ▸ .nil
  | cons v vs ih =>
    intro xs h
    obtain ⟨y, t, rfl, a, b⟩ := h.cons_inv
    exact .cons (a.mono hF hρ) (ih b)
theorem VsR.length {vs : List V} : ∀ {xs : List Value}, VsR g F ρ xs vs → xs.length = vs.length := by
  induction vs with
  | nil => exact fun h => h.nil_inv ▸ rfl
  | cons v vs ih =>
    intro xs h
    obtain ⟨y, t, rfl, _, b⟩ := h.cons_inv
    exact congrArg (· + 1) (ih b)
theorem VsR.get {vs : List V} : ∀ {xs : List Value}, VsR g F ρ xs vs → ∀ {i : Nat} {v : V}, vs[i]? = some v → ∃ x, xs[i]? = some x ∧ VR g F ρ x v := by
  induction vs with
  | nil => exact fun _ _ _ h => ns h
  | cons v vs ih =>
    intro xs h i w hw
    obtain ⟨y, t, rfl, a, b⟩ := h.cons_inv
    cases i with
    | zero => exact ⟨y, rfl, Option.some.inj hw ▸ a⟩
    | succ i => exact ih b hw
theorem VsR.get' {vs : List V} : ∀ {xs : List Value}, VsR g F ρ xs vs → ∀ {i : Nat} {x : Value}, xs[i]? = some x → ∃ v, vs[i]? = some v ∧ VR g F ρ x v := by
  induction vs with
  | nil => intro xs h i x hx; rw [h.nil_inv] at hx; exact ns hx
  | cons v vs ih =>
    intro xs h i w hw
    obtain ⟨y, t, rfl, a, b⟩ := h.cons_inv
    cases i with
    | zero => exact ⟨v, rfl, Option.some.inj hw ▸ a⟩
    | succ i => exact ih b hw
theorem VsR.append {vs us : List V} {ys : List Value} : ∀ {xs : List Value}, VsR g F ρ xs vs → VsR g F ρ ys us → VsR g F ρ (xs ++ ys) (vs ++ us) := by
  induction vs with
  | nil => exact fun h h2 => h.nil_inv ▸ h2
  | cons v vs ih =>
    intro xs h h2
    obtain ⟨y, t, rfl, a, b⟩ := h.cons_inv
    exact .cons a (ih b h2)
theorem VsR.take {vs : List V} : ∀ {xs : List Value}, VsR g F ρ xs vs → ∀ n, VsR g F ρ (xs.take n) (vs.take n) := by
  induction vs with
  | nil => intro xs h n; rw [h.nil_inv, List.take_nil, List.take_nil]; exact .nil
  | cons v vs ih =>
    intro xs h n
    obtain ⟨y, t, rfl, a, b⟩ := h.cons_inv
    cases n with
    | zero => exact .nil
    | succ n => exact .cons a (ih b n)
theorem VsR.drop {vs : List V} : ∀ {xs : List Value}, VsR g F ρ xs vs → ∀ n, VsR g F ρ (xs.drop n) (vs.drop n) := by
  induction vs with
  | nil => intro xs h n; rw [h.nil_inv, List.drop_nil, List.drop_nil]; exact .nil
  | cons v vs ih =>
    intro xs h n
    cases n with
    | zero => exact h
    | succ n =>
      obtain ⟨y, t, rfl, a, b⟩ := h.cons_inv
      exact ih b n
theorem VsR.set {vs : List V} : ∀ {xs : List Value}, VsR g F ρ xs vs → ∀ (n : Nat) {x : Value} {w : V}, VR g F ρ x w → VsR g F ρ (xs.set n x) (vs.set n w) := by
  induction vs with
  | nil => intro xs h n x w _; rw [h.nil_inv]; exact .nil
  | cons v vs ih =>
    intro xs h n x w hw
    obtain ⟨y, t, rfl, a, b⟩ := h.cons_inv
    cases n with
    | zero => exact .cons hw b
    | succ n => exact .cons a (ih b n hw)
theorem VsR.replicate {x : Value} {v : V} (h : VR g F ρ x v) (n : Nat) : VsR g F ρ (List.replicate n x) (List.replicate n v) := by
  induction n with
  | zero => exact .nil
  | succ n ih => exact .cons h ih
theorem VsR.single {x : Value} {v : V} (h : VR g F ρ x v) : VsR g F ρ [x] [v] := .cons h .nil
end
noncomputable def MObj.live : MObj → Bool
  | .gone => false
  | _ => true
noncomputable def StrKs (es : List DictEntry) : Prop := ∀ e ∈ es, ∃ n t, e.key = .str n t
noncomputable def fnd (y : Str) (es : List DictEntry) : Option Value := (es.find? (·.key.isStr y)).map (·.val)
noncomputable def ObjR (g : GG) (F : FM) (ρ : RM) (h : Heap) (k : Kd) (a d : Addr) : MObj → Prop
  | .gone => True
  | .list vs => d = a ∧ ∃ xs n, h.get? a = some (listO xs n) ∧ VsR g F ρ xs vs ∧ vs.length ≤ LIM
  | .dict vs => d = a ∧ ∃ kvs, h.DictOf (strKind g.prog g.w) a kvs ∧ kvs.map (·.1) = fields k ∧ VsR g F ρ (kvs.map (·.2)) vs
  | .inst vs => a ≠ d ∧ h.get? a = some (instObj (g.ca k) d) ∧ ∃ es n, h.get? d = some (dictOf es n) ∧ es.length = vs.length ∧ vs.length ≤ (fields k).length ∧
      StrKs es ∧ (∀ x, x ∉ fields k → fnd x es = Option.none) ∧
      ∀ (j : Nat) (x : Str), (fields k)[j]? = some x → (∀ v, vs[j]? = some v → ∃ y, fnd x es = some y ∧ VR g F ρ y v) ∧ (vs.length ≤ j → fnd x es = Option.none)
theorem ObjR.move {g : GG} {F F' : FM} {ρ ρ' : RM} {h h' : Heap} {k : Kd} {a d : Addr} {O : MObj} (x : ObjR g F ρ h k a d O) (hF : Ext F F') (hρ : Pre ρ ρ')
    (ha : ∀ o, h.get? a = some o → h'.get? a = some o) (hd : ∀ o, h.get? d = some o → h'.get? d = some o) : ObjR g F' ρ' h' k a d O := by
  cases O with
  | gone => trivial
  | list vs =>
    obtain ⟨e, xs, n, h1, h2, h3⟩ := x
    exact ⟨e, xs, n, ha _ h1, h2.mono hF hρ, h3⟩
  | dict vs =>
    obtain ⟨e, kvs, ⟨o, es, ep, m1, m2⟩, h3, h4⟩ := x
    exact ⟨e, kvs, ⟨o, es, ep, ha _ m1, m2⟩, h3, h4.mono hF hρ⟩
  | inst vs =>
    obtain ⟨e, h1, es, n, h2, h3, h4, h7, h6, h5⟩ := x
    refine ⟨e, ha _ h1, es, n, hd _ h2, h3, h4, h7, h6, fun j x p => ⟨fun v q => ?_, (h5 j x p).2⟩⟩
    obtain ⟨y, e1, e2⟩ := (h5 j x p).1 v q
    exact ⟨y, e1, e2.mono hF hρ⟩
theorem ObjR.alive {g : GG} {F : FM} {ρ : RM} {h : Heap} {k : Kd} {a d : Addr} {O : MObj} (x : ObjR g F ρ h k a d O) (hl : O.live = true) : (∃ o, h.get? a = some o) ∧ ∃ o, h.get? d = some o := by
  cases O with
  | gone => cases hl
  | list vs => obtain ⟨rfl, xs, n, h1, _⟩ := x; exact ⟨⟨_, h1⟩, ⟨_, h1⟩⟩
  | dict vs => obtain ⟨rfl, kvs, ⟨o, es, ep, m1, m2⟩, _⟩ := x; exact ⟨⟨_, m1⟩, ⟨_, m1⟩⟩
  | inst vs => obtain ⟨_, h1, es, n, h2, _⟩ := x; exact ⟨⟨_, h1⟩, ⟨_, h2⟩⟩
noncomputable def AtR (ρ : RM) (σ : St) (k : Kd) (i : Nat) (b : Addr) : Prop := ∃ (O : MObj) (p : Addr × Addr), (σ k)[i]? = some O ∧ O.live = true ∧ (ρ k)[i]? = some p ∧ (b = p.1 ∨ b = p.2)
noncomputable def Own (ρ : RM) (σ : St) (b : Addr) : Prop := ∃ k i, AtR ρ σ k i b
structure Rel (g : GG) (F : FM) (ρ : RM) (σ : St) (h : Heap) : Prop where
  frz : ∀ b o, F b = some o → h.get? b = some o
  bas : ∀ b o, g.base.get? b = some o → F b = some o
  len : ∀ k, (ρ k).length = (σ k).length
  obj : ∀ (k : Kd) (i : Nat) (O : MObj) (p : Addr × Addr), (σ k)[i]? = some O → (ρ k)[i]? = some p → ObjR g F ρ h k p.1 p.2 O
  off : ∀ b, Own ρ σ b → F b = Option.none
  sep : ∀ k i k' i' b, AtR ρ σ k i b → AtR ρ σ k' i' b → k = k' ∧ i = i'
structure Ev (X : Addr → Prop) (F : FM) (ρ : RM) (σ : St) (h : Heap) (F' : FM) (ρ' : RM) (σ' : St) (h' : Heap) : Prop where
  ext : Ext F F'
  pre : Pre ρ ρ'
  keep : ∀ b o, h.get? b = some o → ¬ Own ρ σ b → ¬ X b → h'.get? b = some o
  alive : ∀ b o, h.get? b = some o → ∃ o', h'.get? b = some o'
  own : ∀ b, Own ρ' σ' b → Own ρ σ b ∨ h.get? b = Option.none
  frz : ∀ b o, F' b = some o → F b = some o ∨ Own ρ σ b ∨ h.get? b = Option.none
noncomputable def NoX : Addr → Prop := fun _ => False
theorem Ev.refl (X : Addr → Prop) (F : FM) (ρ : RM) (σ : St) (h : Heap) : Ev X F ρ σ h F ρ σ h :=
  ⟨.refl _, .refl _, fun _ _ e _ _ => e, fun _ o e => ⟨o, e⟩, fun _ h => .inl h, fun _ _ h => .inl h⟩
theorem none_of_alive {h h' : Heap} (al : ∀ b o, h.get? b = some o → ∃ o', h'.get? b = some o') {b : Addr} (e : h'.get? b = Option.none) : h.get? b = Option.none := by
  cases q : h.get? b with
  | none => rfl
  | some o => obtain ⟨o', q'⟩ := al b o q; rw [e] at q'; cases q'
theorem Ev.trans {X : Addr → Prop} {F F₁ F₂ : FM} {ρ ρ₁ ρ₂ : RM} {σ σ₁ σ₂ : St} {h h₁ h₂ : Heap} (x : Ev X F ρ σ h F₁ ρ₁ σ₁ h₁) (y : Ev X F₁ ρ₁ σ₁ h₁ F₂ ρ₂ σ₂ h₂) : Ev X F ρ σ h F₂ ρ₂ σ₂ h₂ where
  ext := fun b o e => y.ext b o (x.ext b o e)
  pre := fun k i p e => y.pre k i p (x.pre k i p e)
  keep := fun b o e hn hx => y.keep b o (x.keep b o e hn hx) (fun ho => (x.own b ho).elim hn fun q => by rw [e] at q; cases q) hx
  alive := fun b o e => let ⟨o', e'⟩ := x.alive b o e; y.alive b o' e'
  own := fun b hb => (y.own b hb).elim (fun q => x.own b q) fun q => .inr (none_of_alive x.alive q)
  frz := fun b o e => by
    rcases y.frz b o e with q | q | q
    · exact x.frz b o q
    · exact .inr (x.own b q)
    · exact .inr (.inr (none_of_alive x.alive q))
theorem Ev.weaken {X : Addr → Prop} {F F₁ : FM} {ρ ρ₁ : RM} {σ σ₁ : St} {h h₁ : Heap} (x : Ev NoX F ρ σ h F₁ ρ₁ σ₁ h₁) : Ev X F ρ σ h F₁ ρ₁ σ₁ h₁ :=
  ⟨x.ext, x.pre, fun b o e hn _ => x.keep b o e hn (fun f => f), x.alive, x.own, x.frz⟩
theorem Heap.none_size (h : Heap) : h.get? h.objs.size = Option.none := by
  cases q : h.get? h.objs.size with
  | none => rfl
  | some o => exact absurd (Heap.lt_size q) (Nat.lt_irrefl _)
section
variable {g : GG} {F : FM} {ρ : RM} {σ : St} {h h' : Heap}
theorem Rel.own_alive (R : Rel g F ρ σ h) {b : Addr} (o : Own ρ σ b) : ∃ ob, h.get? b = some ob := by
  obtain ⟨k, i, O, p, h1, h2, h3, h4⟩ := o
  have := (R.obj k i O p h1 h3).alive h2
  rcases h4 with rfl | rfl
  · exact this.1
  · exact this.2
theorem Rel.not_own (R : Rel g F ρ σ h) {b : Addr} (e : h.get? b = Option.none) : ¬ Own ρ σ b := fun o => by
  obtain ⟨_, q⟩ := R.own_alive o; rw [e] at q; cases q
theorem Rel.not_frz (R : Rel g F ρ σ h) {b : Addr} (e : h.get? b = Option.none) : F b = Option.none := by
  cases q : F b with
  | none => rfl
  | some o => rw [R.frz b o q] at e; cases e
theorem Rel.K (R : Rel g F ρ σ h) : g.K.In h := fun a o e => R.frz a o (R.bas a o (g.X a o e))
theorem Rel.keepsBase (R : Rel g F ρ σ h) : ∀ b o, g.base.get? b = some o → h.get? b = some o := fun b o e => R.frz b o (R.bas b o e)
theorem Rel.ns_mg (R : Rel g F ρ σ h) : h.Ns mainGlobals g.mg := g.T.g.keeps R.keepsBase
theorem Rel.ns_mb (R : Rel g F ρ σ h) : h.Ns builtinsNs g.mb := g.T.b.keeps R.keepsBase
theorem Rel.nolimit (R : Rel g F ρ σ h) : h.NoLimit := g.T.nolimit.keeps R.keepsBase
theorem Rel.grow (R : Rel g F ρ σ h) (hk : ∀ b o, h.get? b = some o → h'.get? b = some o) : Rel g F ρ σ h' ∧ Ev NoX F ρ σ h F ρ σ h' :=
  ⟨⟨fun b o e => hk b o (R.frz b o e), R.bas, R.len, fun k i O p e1 e2 => (R.obj k i O p e1 e2).move (.refl _) (.refl _) (fun o e => hk _ o e) (fun o e => hk _ o e), R.off, R.sep⟩,
   ⟨.refl _, .refl _, fun b o e _ _ => hk b o e, fun b o e => ⟨o, hk b o e⟩, fun _ q => .inl q, fun _ _ q => .inl q⟩⟩
theorem Rel.newF (R : Rel g F ρ σ h) (hk : ∀ b o, h.get? b = some o → h'.get? b = some o) {a : Addr} {o : Obj} (ha : h.get? a = Option.none) (ho : h'.get? a = some o) :
    ∃ F', F' a = some o ∧ Rel g F' ρ σ h' ∧ Ev NoX F ρ σ h F' ρ σ h' := by
  refine ⟨fun b => if b = a then some o else F b, by simp, ?_, ?_⟩
  · have hx : Ext F (fun b => if b = a then some o else F b) := fun b o' e => by
      have : b ≠ a := fun q => by rw [q, R.not_frz ha] at e; cases e
      simp only [this, if_false]; exact e
    refine ⟨fun b o' e => ?_, fun b o' e => hx b o' (R.bas b o' e), R.len, fun k i O p e1 e2 => (R.obj k i O p e1 e2).move hx (.refl _) (fun o e => hk _ o e) (fun o e => hk _ o e), fun b q => ?_, R.sep⟩
    · skip
      split at e
      · rename_i q; subst q; cases e; exact ho
      · exact hk b o' (R.frz b o' e)
    · have : b ≠ a := fun z => R.not_own ha (z ▸ q)
      simp only [this, if_false]; exact R.off b q
  · refine ⟨fun b o' e => ?_, .refl _, fun b o e _ _ => hk b o e, fun b o e => ⟨o, hk b o e⟩, fun _ q => .inl q, fun b o' e => ?_⟩
    · have : b ≠ a := fun q => by rw [q, R.not_frz ha] at e; cases e
      simp only [this, if_false]; exact e
    · skip
      split at e
      · rename_i q; subst q; exact .inr (.inr ha)
      · exact .inl e
noncomputable def RM.push (ρ : RM) (k : Kd) (p : Addr × Addr) : RM := fun k' => if k' = k then ρ k ++ [p] else ρ k'
theorem pre_push (ρ : RM) (k : Kd) (p : Addr × Addr) : Pre ρ (ρ.push k p) := fun k' i q e => by
  unfold RM.push
  split
  · rename_i z; subst z
    have hi : i < (ρ k').length := by rcases Nat.lt_or_ge i (ρ k').length with q | q; exact q; rw [List.getElem?_eq_none q] at e; cases e
    rw [List.getElem?_append_left hi]; exact e
  · exact e
theorem push_at {ρ : RM} {σ : St} (hl : ∀ k, (ρ k).length = (σ k).length) {k : Kd} {p : Addr × Addr} {O : MObj} {k' : Kd} {i : Nat} {b : Addr} (h : AtR (ρ.push k p) (σ.push k O) k' i b) :
    AtR ρ σ k' i b ∨ (k' = k ∧ i = (σ k).length ∧ (b = p.1 ∨ b = p.2)) := by
  obtain ⟨O', p', h1, h2, h3, h4⟩ := h
  unfold St.push St.put at h1
  unfold RM.push at h3
  by_cases hk : k' = k
  · subst hk
    simp only [if_true] at h1 h3
    rcases Nat.lt_trichotomy i (σ k').length with q | q | q
    · rw [List.getElem?_append_left q] at h1
      rw [List.getElem?_append_left (by rw [hl]; exact q)] at h3
      exact .inl ⟨O', p', h1, h2, h3, h4⟩
    · subst q
      rw [← hl] at h3
      simp at h3
      subst h3
      exact .inr ⟨rfl, rfl, h4⟩
    · rw [List.getElem?_eq_none (by simp; lia)] at h1; cases h1
  · simp only [hk, if_false] at h1 h3
    exact .inl ⟨O', p', h1, h2, h3, h4⟩
theorem Rel.newO (R : Rel g F ρ σ h) (hk : ∀ b o, h.get? b = some o → h'.get? b = some o) {k : Kd} {a d : Addr} {O : MObj} (ha : h.get? a = Option.none) (hd : h.get? d = Option.none)
    (ho : ObjR g F (ρ.push k (a, d)) h' k a d O) : Rel g F (ρ.push k (a, d)) (σ.push k O) h' ∧ Ev NoX F ρ σ h F (ρ.push k (a, d)) (σ.push k O) h' ∧ VR g F (ρ.push k (a, d)) (.ref a) (.ref k (σ k).length) := by
  have hp := pre_push ρ k (a, d)
  have hown : ∀ b, Own (ρ.push k (a, d)) (σ.push k O) b → Own ρ σ b ∨ b = a ∨ b = d := fun b ⟨k', i, q⟩ => by
    rcases push_at R.len q with q | ⟨_, _, q⟩
    · exact .inl ⟨k', i, q⟩
    · exact .inr q
  have hfr : ∀ b, b = a ∨ b = d → h.get? b = Option.none := fun b q => by rcases q with rfl | rfl <;> assumption
  refine ⟨⟨fun b o e => hk b o (R.frz b o e), R.bas, fun k' => ?_, fun k' i O' p' e1 e2 => ?_, fun b q => ?_, fun k₁ i₁ k₂ i₂ b q1 q2 => ?_⟩, ⟨.refl _, hp, fun b o e _ _ => hk b o e, fun b o e => ⟨o, hk b o e⟩, fun b q => (hown b q).imp id (hfr b), fun _ _ q => .inl q⟩, ?_⟩
  · unfold RM.push St.push St.put
    split
    · rename_i q; subst q; simp [R.len]
    · exact R.len k'
  · unfold St.push St.put at e1
    unfold RM.push at e2
    by_cases hk' : k' = k
    · subst hk'
      simp only [if_true] at e1 e2
      rcases Nat.lt_trichotomy i (σ k').length with q | q | q
      · rw [List.getElem?_append_left q] at e1
        rw [List.getElem?_append_left (by rw [R.len]; exact q)] at e2
        exact (R.obj k' i O' p' e1 e2).move (.refl _) hp (fun o e => hk _ o e) (fun o e => hk _ o e)
      · subst q
        simp at e1
        rw [← R.len] at e2
        simp at e2
        subst e1 e2
        exact ho
      · rw [List.getElem?_eq_none (by simp; lia)] at e1; cases e1
    · simp only [hk', if_false] at e1 e2
      exact (R.obj k' i O' p' e1 e2).move (.refl _) hp (fun o e => hk _ o e) (fun o e => hk _ o e)
  · rcases hown b q with q | q
    · exact R.off b q
    · exact R.not_frz (hfr b q)
  · rcases push_at R.len q1 with q1 | ⟨e1, e2, q1⟩ <;> rcases push_at R.len q2 with q2 | ⟨e3, e4, q2⟩
    · exact R.sep _ _ _ _ b q1 q2
    · exact absurd ⟨k₁, i₁, q1⟩ (R.not_own (hfr b q2))
    · exact absurd ⟨k₂, i₂, q2⟩ (R.not_own (hfr b q1))
    · exact ⟨e1.trans e3.symm, e2.trans e4.symm⟩
  · have : (ρ.push k (a, d) k)[(σ k).length]? = some (a, d) := by
      unfold RM.push; rw [if_pos rfl, ← R.len]; simp
    exact VR.ref (p := (a, d)) this
theorem setO_get (σ : St) (k : Kd) (i : Nat) (O : MObj) (k' : Kd) (i' : Nat) : (σ.setO k i O k')[i']? = if k' = k ∧ i' = i then (σ k)[i]?.map (fun _ => O) else (σ k')[i']? := by
  unfold St.setO St.put
  by_cases hk : k' = k
  · subst hk
    simp only [if_true, true_and]
    by_cases hi : i' = i
    · subst hi; simp only [if_true, List.getElem?_set_self']; rfl
    · simp only [hi, if_false]; rw [List.getElem?_set_ne (Ne.symm hi)]
  · simp [hk]
theorem Rel.upd (R : Rel g F ρ σ h) {k : Kd} {i : Nat} {O O' : MObj} {p : Addr × Addr} (e1 : (σ k)[i]? = some O) (e2 : (ρ k)[i]? = some p) (hl : O.live = true)
    (hk : ∀ b o, b ≠ p.1 → b ≠ p.2 → h.get? b = some o → h'.get? b = some o) (hal : ∀ b o, h.get? b = some o → ∃ o', h'.get? b = some o') (ho : ObjR g F ρ h' k p.1 p.2 O') :
    Rel g F ρ (σ.setO k i O') h' ∧ Ev NoX F ρ σ h F ρ (σ.setO k i O') h' := by
  have at_ : ∀ k' i' b, AtR ρ (σ.setO k i O') k' i' b → AtR ρ σ k' i' b := fun k' i' b ⟨O₁, p₁, h1, h2, h3, h4⟩ => by
    rw [setO_get] at h1
    split at h1
    · rename_i q
      obtain ⟨rfl, rfl⟩ := q
      exact ⟨O, p₁, e1, hl, h3, h4⟩
    · exact ⟨O₁, p₁, h1, h2, h3, h4⟩
  have hat : ∀ b, b = p.1 ∨ b = p.2 → Own ρ σ b := fun b q => ⟨k, i, O, p, e1, hl, e2, q⟩
  refine ⟨⟨fun b o e => ?_, R.bas, fun k' => ?_, fun k' i' O₁ p₁ q1 q2 => ?_, fun b ⟨k', i', q⟩ => R.off b ⟨k', i', at_ _ _ _ q⟩, fun k₁ i₁ k₂ i₂ b q1 q2 => R.sep _ _ _ _ b (at_ _ _ _ q1) (at_ _ _ _ q2)⟩,
    ⟨.refl _, .refl _, fun b o e hn _ => hk b o (fun q => hn (hat b (.inl q))) (fun q => hn (hat b (.inr q))) e, hal, fun b ⟨k', i', q⟩ => .inl ⟨k', i', at_ _ _ _ q⟩, fun _ _ q => .inl q⟩⟩
  · refine hk b o (fun q => ?_) (fun q => ?_) (R.frz b o e)
    · have := R.off b (hat b (.inl q)); rw [e] at this; cases this
    · have := R.off b (hat b (.inr q)); rw [e] at this; cases this
  · unfold St.setO St.put
    split
    · rename_i q; subst q; simp [R.len]
    · exact R.len k'
  · rw [setO_get] at q1
    split at q1
    · rename_i q
      obtain ⟨rfl, rfl⟩ := q
      rw [e1] at q1; cases q1
      rw [e2] at q2; cases q2
      exact ho
    · rename_i q
      by_cases hl₁ : O₁.live = true
      · refine (R.obj k' i' O₁ p₁ q1 q2).move (.refl _) (.refl _) (fun o e => hk _ o (fun z => ?_) (fun z => ?_) e) (fun o e => hk _ o (fun z => ?_) (fun z => ?_) e)
        · exact q (R.sep _ _ _ _ _ ⟨O₁, p₁, q1, hl₁, q2, .inl rfl⟩ ⟨O, p, e1, hl, e2, .inl z⟩)
        · exact q (R.sep _ _ _ _ _ ⟨O₁, p₁, q1, hl₁, q2, .inl rfl⟩ ⟨O, p, e1, hl, e2, .inr z⟩)
        · exact q (R.sep _ _ _ _ _ ⟨O₁, p₁, q1, hl₁, q2, .inr rfl⟩ ⟨O, p, e1, hl, e2, .inl z⟩)
        · exact q (R.sep _ _ _ _ _ ⟨O₁, p₁, q1, hl₁, q2, .inr rfl⟩ ⟨O, p, e1, hl, e2, .inr z⟩)
      · cases O₁ <;> first | trivial | exact absurd rfl hl₁
theorem Rel.freeze (R : Rel g F ρ σ h) {k : Kd} {i : Nat} {vs : List V} (e1 : (σ k)[i]? = some (.list vs)) {p : Addr × Addr} (e2 : (ρ k)[i]? = some p) :
    ∃ F', Rel g F' ρ (σ.setO k i .gone) h ∧ Ev NoX F ρ σ h F' ρ (σ.setO k i .gone) h ∧ VR g F' ρ (.ref p.1) (.lst vs) := by
  obtain ⟨ed, xs, n, h1, h2, h3⟩ := R.obj k i _ p e1 e2
  have hown : Own ρ σ p.1 := ⟨k, i, _, p, e1, rfl, e2, .inl rfl⟩
  have hF : F p.1 = Option.none := R.off _ hown
  have hx : Ext F (fun b => if b = p.1 then some (listO xs n) else F b) := fun b o' e => by
    have : b ≠ p.1 := fun q => by rw [q, hF] at e; cases e
    simp only [this, if_false]; exact e
  have at_ : ∀ k' i' b, AtR ρ (σ.setO k i .gone) k' i' b → AtR ρ σ k' i' b ∧ ¬ (k' = k ∧ i' = i) := fun k' i' b ⟨O₁, p₁, h1, h2, h3, h4⟩ => by
    rw [setO_get] at h1
    split at h1
    · rw [e1] at *
      rename_i q
      obtain ⟨rfl, rfl⟩ := q
      rw [e1] at h1; cases h1; cases h2
    · rename_i q; exact ⟨⟨O₁, p₁, h1, h2, h3, h4⟩, q⟩
  refine ⟨fun b => if b = p.1 then some (listO xs n) else F b, ⟨fun b o e => ?_, fun b o e => hx b o (R.bas b o e), fun k' => ?_, fun k' i' O₁ p₁ q1 q2 => ?_, fun b ⟨k', i', q⟩ => ?_, fun k₁ i₁ k₂ i₂ b q1 q2 => R.sep _ _ _ _ b (at_ _ _ _ q1).1 (at_ _ _ _ q2).1⟩,
    ⟨hx, .refl _, fun b o e _ _ => e, fun b o e => ⟨o, e⟩, fun b ⟨k', i', q⟩ => .inl ⟨k', i', (at_ _ _ _ q).1⟩, fun b o e => ?_⟩, ?_⟩
  · skip
    split at e
    · rename_i q; subst q; cases e; exact h1
    · exact R.frz b o e
  · unfold St.setO St.put
    split
    · rename_i q; subst q; simp [R.len]
    · exact R.len k'
  · rw [setO_get] at q1
    split at q1
    · rename_i q
      obtain ⟨rfl, rfl⟩ := q
      rw [e1] at q1; cases q1; trivial
    · exact (R.obj k' i' O₁ p₁ q1 q2).move hx (.refl _) (fun _ e => e) (fun _ e => e)
  · obtain ⟨q1, q2⟩ := at_ _ _ _ q
    have : b ≠ p.1 := fun z => q2 (R.sep _ _ _ _ _ q1 ⟨_, p, e1, rfl, e2, .inl z⟩)
    simp only [this, if_false]
    exact R.off b ⟨k', i', q1⟩
  · skip
    split at e
    · rename_i q; subst q; exact .inr (.inl hown)
    · exact .inl e
  · exact .lst (n := n) (by simp) (h2.mono hx (.refl _)) h3
theorem Rel.write (R : Rel g F ρ σ h) {a : Addr} (hF : F a = Option.none) (hO : ¬ Own ρ σ a) (hk : ∀ b o, b ≠ a → h.get? b = some o → h'.get? b = some o) (ha : ∀ o, h.get? a = some o → ∃ o', h'.get? a = some o') {X : Addr → Prop} (hX : X a) :
    Rel g F ρ σ h' ∧ Ev X F ρ σ h F ρ σ h' := by
  refine ⟨⟨fun b o e => hk b o (fun q => by rw [q, hF] at e; cases e) (R.frz b o e), R.bas, R.len, fun k i O p e1 e2 => ?_, R.off, R.sep⟩,
   ⟨.refl _, .refl _, fun b o e _ hx => hk b o (fun q => hx (q ▸ hX)) e, fun b o e => ?_, fun _ q => .inl q, fun _ _ q => .inl q⟩⟩
  · by_cases hl : O.live = true
    · exact (R.obj k i O p e1 e2).move (.refl _) (.refl _) (fun o e => hk _ o (fun q => hO ⟨k, i, O, p, e1, hl, e2, .inl q.symm⟩) e) (fun o e => hk _ o (fun q => hO ⟨k, i, O, p, e1, hl, e2, .inr q.symm⟩) e)
    · cases O <;> first | trivial | exact absurd rfl hl
  · by_cases q : b = a
    · subst q; exact ha o e
    · exact ⟨o, hk b o q e⟩
end
end Mine
end
section
open PySem PySem.W PyProof.Rows
namespace Mine
theorem visB_spec {vs : List Str} {i : Nat} {x : Str} (h : visB vs i x = true) : vs[i]? = some x ∧ ∀ j, i < j → vs[j]? ≠ some x := by
  unfold visB at h
  simp only [Bool.and_eq_true, beq_iff_eq, Bool.not_eq_true', List.contains_eq_mem, decide_eq_false_iff_not] at h
  refine ⟨h.1, fun j hj e => h.2 ?_⟩
  refine List.mem_iff_getElem?.mpr ⟨j - (i + 1), ?_⟩
  rw [List.getElem?_drop]
  have : i + 1 + (j - (i + 1)) = j := by lia
  rw [this]; exact e
noncomputable def Vis (vs : List Str) (i : Nat) (x : Str) : Prop := vs[i]? = some x ∧ ∀ j, i < j → vs[j]? ≠ some x
theorem Vis.inj {vs : List Str} {i j : Nat} {x : Str} (h : Vis vs i x) (h' : Vis vs j x) : i = j := by
  rcases Nat.lt_trichotomy i j with q | q | q
  · exact absurd h'.1 (h.2 j q)
  · exact q
  · exact absurd h.1 (h'.2 i q)
theorem Vis.name {vs : List Str} {i : Nat} {x y : Str} (h : Vis vs i x) (h' : Vis vs i y) : x = y := by
  have := h.1.symm.trans h'.1; exact Option.some.inj this
noncomputable def SameSc (sc : Scope) (env : Env) : Prop := ∀ x k, sc.names.lookup x = some k → env.kindOf x = some k ∨ (k = .free ∧ env.kindOf x = some .cell)
structure Loc (g : GG) (F : FM) (ρ : RM) (σ : St) (h : Heap) (env : Env) (vs : List Str) (m : List V) : Prop where
  kind : env.scope.kind = .function
  glo : env.globals = mainGlobals
  bui : env.builtins = builtinsNs
  len : m.length = vs.length
  ns : ∃ mp, h.Ns env.locals mp ∧ ∀ (i : Nat) (x : Str) (v : V), Vis vs i x → env.kindOf x = some .local → m[i]? = some v → v ≠ .undef → ∃ y, mp x = some y ∧ VR g F ρ y v
  cel : ∀ x, x ∈ vs → (env.kindOf x = some .cell ∨ env.kindOf x = some .free) → ∃ c w, env.cells.lookup x = some c ∧ h.IsCell c w ∧ ¬ Own ρ σ c ∧ F c = Option.none ∧ c ≠ env.locals ∧
    ∀ (i : Nat) (v : V), Vis vs i x → m[i]? = some v → v ≠ .undef → ∃ y, w = some y ∧ VR g F ρ y v
  inj : ∀ x y c, env.cells.lookup x = some c → env.cells.lookup y = some c → x = y
  off : ¬ Own ρ σ env.locals ∧ F env.locals = Option.none
  cal : ∀ x c, env.cells.lookup x = some c → ∃ o, h.get? c = some o
noncomputable def XE (env : Env) : Addr → Prop := fun b => b = env.locals ∨ ∃ x, env.cells.lookup x = some b
noncomputable def XN (env : Env) (tx : List Str) : Addr → Prop := fun b => b = env.locals ∨ ∃ x ∈ tx, env.cells.lookup x = some b
theorem XN.xe {env : Env} {tx : List Str} : ∀ b, XN env tx b → XE env b := fun b h => h.imp id fun ⟨x, _, e⟩ => ⟨x, e⟩
theorem XN.sub {env : Env} {tx tx' : List Str} (h : ∀ x ∈ tx, x ∈ tx') : ∀ b, XN env tx b → XN env tx' b := fun b q => q.imp id fun ⟨x, m, e⟩ => ⟨x, h x m, e⟩
section
variable {g : GG} {F F' : FM} {ρ ρ' : RM} {σ σ' : St} {h h' : Heap} {env : Env} {vs : List Str} {m : List V}
theorem Loc.move (L : Loc g F ρ σ h env vs m) (e : Ev NoX F ρ σ h F' ρ' σ' h') : Loc g F' ρ' σ' h' env vs m where
  kind := L.kind
  glo := L.glo
  bui := L.bui
  len := L.len
  ns := by
    obtain ⟨mp, ⟨o, es, ep, ho, r⟩, hm⟩ := L.ns
    refine ⟨mp, ⟨o, es, ep, e.keep _ _ ho L.off.1 (fun f => f), r⟩, fun i x v hv hk hx hu => ?_⟩
    obtain ⟨y, q1, q2⟩ := hm i x v hv hk hx hu
    exact ⟨y, q1, q2.mono e.ext e.pre⟩
  cel := fun x hx hk => by
    obtain ⟨c, w, q1, ⟨o, q2, q3⟩, q4, q5, q6, q7⟩ := L.cel x hx hk
    refine ⟨c, w, q1, ⟨o, e.keep _ _ q2 q4 (fun f => f), q3⟩, fun z => ?_, ?_, q6, fun i v hv hi hu => ?_⟩
    · rcases e.own c z with z | z
      · exact q4 z
      · rw [q2] at z; cases z
    · cases z : F' c with
      | none => rfl
      | some o' =>
        rcases e.frz c o' z with z | z | z
        · rw [q5] at z; cases z
        · exact absurd z q4
        · rw [q2] at z; cases z
    · obtain ⟨y, r1, r2⟩ := q7 i v hv hi hu
      exact ⟨y, r1, r2.mono e.ext e.pre⟩
  inj := L.inj
  off := by
    obtain ⟨mp, ⟨o, es, ep, ho, r⟩, hm⟩ := L.ns
    refine ⟨fun z => ?_, ?_⟩
    · rcases e.own _ z with z | z
      · exact L.off.1 z
      · rw [ho] at z; cases z
    · cases z : F' env.locals with
      | none => rfl
      | some o' =>
        rcases e.frz _ o' z with z | z | z
        · rw [L.off.2] at z; cases z
        · exact absurd z L.off.1
        · rw [ho] at z; cases z
  cal := fun x c q => let ⟨o, q'⟩ := L.cal x c q; e.alive c o q'
theorem locB_spec {sc : Scope} {x : Str} (h : locB sc x = true) : (x == ("__debug__" : Str)) = false ∧ (x == ("__classdict__" : Str)) = false ∧ (sc.names.lookup x = some .local ∨ sc.names.lookup x = some .cell ∨ sc.names.lookup x = some .free) := by
  unfold locB at h
  obtain ⟨h1, h2⟩ := Bool.and_eq_true_iff.mp h
  have h1' : ¬ x ∈ oddNames := by simpa using h1
  have e1 : x ≠ ("__debug__" : Str) := fun e => h1' (by rw [e]; simp [oddNames])
  have e2 : x ≠ ("__classdict__" : Str) := fun e => h1' (by rw [e]; simp [oddNames])
  refine ⟨beq_eq_false_iff_ne.mpr e1, beq_eq_false_iff_ne.mpr e2, ?_⟩
  split at h2 <;> simp_all
theorem Loc.load {A : Around} {E : Value → Shared → Prop} {s : Shared} {sc : Scope} {i : Nat} {x : Str} {pos : Pos} {v : V} {Q : Value → Shared → Prop} {M : Model} (L : Loc g F ρ σ s.heap env vs m) (S : SameSc sc env)
    (hv : Vis vs i x) (hb : locB sc x = true) (hm : m[i]? = some v) (hu : v ≠ .undef) (hQ : ∀ y, VR g F ρ y v → Q y s) : wpAny M A (eval (.Name x pos) env) Q E s := by
  obtain ⟨hd, hc, hk⟩ := locB_spec hb
  have hin : x ∈ vs := List.mem_of_getElem? hv.1
  refine wpAny_Name ?_ hd
  have onCell : env.kindOf x = some .cell → wpAny M A (loadName env x) Q E s := fun k => by
    obtain ⟨c, w, q1, q2, _, _, _, q7⟩ := L.cel x hin (.inl k)
    obtain ⟨y, rfl, q⟩ := q7 i v hv hm hu
    exact wpAny_loadName_cell L.kind k q1 q2 (hQ y q)
  have onFree : env.kindOf x = some .free → wpAny M A (loadName env x) Q E s := fun k => by
    obtain ⟨c, w, q1, q2, _, _, _, q7⟩ := L.cel x hin (.inr k)
    obtain ⟨y, rfl, q⟩ := q7 i v hv hm hu
    exact wpAny_loadName_free L.kind k q1 q2 (hQ y q) hc
  have onLocal : env.kindOf x = some .local → wpAny M A (loadName env x) Q E s := fun k => by
    obtain ⟨mp, hn, hmm⟩ := L.ns
    obtain ⟨y, q1, q2⟩ := hmm i x v hv k hm hu
    exact wpAny_loadName_local L.kind k hn q1 (hQ y q2)
  rcases hk with k | k | k <;> rcases S x _ k with q | ⟨q0, q⟩
  · exact onLocal q
  · cases q0
  · exact onCell q
  · cases q0
  · exact onFree q
  · exact onCell q
theorem stoB_spec {sc : Scope} {x : Str} (h : stoB sc x = true) : sc.names.lookup x = some .local ∨ sc.names.lookup x = some .cell := by
  unfold stoB at h
  obtain ⟨h1, h2⟩ := Bool.and_eq_true_iff.mp h
  split at h2 <;> simp_all
theorem set_get (m : List V) (i j : Nat) (v : V) : (m.set i v)[j]? = if j = i then (if i < m.length then some v else Option.none) else m[j]? := by
  rw [List.getElem?_set]
  by_cases h : i = j
  · subst h; simp
  · simp [h, Ne.symm h]
theorem Loc.store {A : Around} {E : Value → Shared → Prop} {s : Shared} {sc : Scope} {i : Nat} {x : Str} {v : V} {y : Value} {Q : Unit → Shared → Prop} {M : Model} (R : Rel g F ρ σ s.heap) (L : Loc g F ρ σ s.heap env vs m) (S : SameSc sc env)
    (hv : Vis vs i x) (hb : stoB sc x = true) (hi : i < m.length) (hy : VR g F ρ y v)
    (hQ : ∀ h' tk, Rel g F ρ σ h' → Loc g F ρ σ h' env vs (m.set i v) → Ev (XN env [x]) F ρ σ s.heap F ρ σ h' → Q () { s with heap := h', toks := tk }) : wpAny M A (storeName env x y) Q E s := by
  have hin : x ∈ vs := List.mem_of_getElem? hv.1
  have onCell : env.kindOf x = some .cell → wpAny M A (storeName env x y) Q E s := fun k => by
    obtain ⟨c, w, q1, q2, q3, q4, q5, q7⟩ := L.cel x hin (.inl k)
    refine wpAny_storeName_cell L.kind k q1 q2 fun h' hc hs => ?_
    obtain ⟨R', E'⟩ := R.write (X := XN env [x]) q4 q3 (fun b o hb e => (hs.2 b hb).trans e) (fun o _ => let ⟨o', ho', _⟩ := hc; ⟨o', ho'⟩) (.inr ⟨x, List.mem_singleton.mpr rfl, q1⟩)
    refine hQ h' s.toks R' ⟨L.kind, L.glo, L.bui, by rw [List.length_set]; exact L.len, ?_, fun z hz hk => ?_, L.inj, L.off, fun x c q => let ⟨o, q'⟩ := L.cal x c q; E'.alive c o q'⟩ E'
    · obtain ⟨mp, hn, hmm⟩ := L.ns
      refine ⟨mp, hn.sameBut hs (Ne.symm q5), fun j z u hvz hkz hj hu => ?_⟩
      have hne : j ≠ i := fun e => by
        subst e
        have := hv.name hvz; subst this; rw [k] at hkz; cases hkz
      rw [set_get, if_neg hne] at hj
      exact hmm j z u hvz hkz hj hu
    · obtain ⟨c', w', r1, r2, r3, r4, r5, r7⟩ := L.cel z hz hk
      by_cases hcc : c' = c
      · subst hcc
        have := L.inj _ _ _ q1 r1; subst this
        refine ⟨c', some y, r1, hc, r3, r4, r5, fun j u hvz hj hu => ?_⟩
        have := hv.inj hvz; subst this
        rw [set_get, if_pos rfl, if_pos hi] at hj; cases hj
        exact ⟨y, rfl, hy⟩
      · refine ⟨c', w', r1, r2.sameBut hs hcc, r3, r4, r5, fun j u hvz hj hu => ?_⟩
        have hne : j ≠ i := fun e => by
          subst e
          have := hv.name hvz; subst this; rw [q1] at r1; cases r1; exact hcc rfl
        rw [set_get, if_neg hne] at hj
        exact r7 j u hvz hj hu
  have onLocal : env.kindOf x = some .local → wpAny M A (storeName env x y) Q E s := fun k => by
    obtain ⟨mp, hn, hmm⟩ := L.ns
    refine wpAny_storeName_local k hn (fun h' hn' hs => ?_) (by rw [L.kind]; rfl)
    obtain ⟨oL, _, _, hoL, _⟩ := id hn'
    obtain ⟨R', E'⟩ := R.write (X := XN env [x]) L.off.2 L.off.1 (fun b o hb e => (hs.2 b hb).trans e) (fun o _ => ⟨oL, hoL⟩) (.inl rfl)
    refine hQ h' _ R' ⟨L.kind, L.glo, L.bui, by rw [List.length_set]; exact L.len, ?_, fun z hz hk => ?_, L.inj, L.off, fun x c q => let ⟨o, q'⟩ := L.cal x c q; E'.alive c o q'⟩ E'
    · refine ⟨_, hn', fun j z u hvz hkz hj hu => ?_⟩
      by_cases hzx : z = x
      · subst hzx
        have := hv.inj hvz; subst this
        rw [set_get, if_pos rfl, if_pos hi] at hj; cases hj
        exact ⟨y, by simp, hy⟩
      · have hne : j ≠ i := fun e => by subst e; exact hzx (hvz.name hv)
        rw [set_get, if_neg hne] at hj
        obtain ⟨y', p1, p2⟩ := hmm j z u hvz hkz hj hu
        exact ⟨y', by simp only [hzx, if_false]; exact p1, p2⟩
    · obtain ⟨c', w', r1, r2, r3, r4, r5, r7⟩ := L.cel z hz hk
      refine ⟨c', w', r1, r2.sameBut hs r5, r3, r4, r5, fun j u hvz hj hu => ?_⟩
      have hne : j ≠ i := fun e => by
        subst e
        have := hv.name hvz; subst this; rcases hk with q | q <;> (rw [k] at q; cases q)
      rw [set_get, if_neg hne] at hj
      exact r7 j u hvz hj hu
  rcases stoB_spec hb with k | k <;> rcases S x _ k with q | ⟨q0, q⟩
  · exact onLocal q
  · cases q0
  · exact onCell q
  · cases q0
end
structure Room (A : Around) (d : Nat) : Prop where
  handled : A.handled = Option.none
  depth : A.depth + 3 * d + 10 ≤ recursionLimit
  units : A.units + 30 * d + 100 ≤ cLine
noncomputable def Post (g : GG) (F : FM) (ρ : RM) (σ : St) (s : Shared) (v : V) (σ' : St) (Q : Value → Shared → Prop) : Prop :=
  ∀ y F' ρ' h' tk, Rel g F' ρ' σ' h' → Ev NoX F ρ σ s.heap F' ρ' σ' h' → VR g F' ρ' y v → Q y { s with heap := h', toks := tk }
noncomputable def PostB (g : GG) (F : FM) (ρ : RM) (σ : St) (s : Shared) (b : Bool) (σ' : St) (Q : Bool → Shared → Prop) : Prop :=
  ∀ F' ρ' h' tk, Rel g F' ρ' σ' h' → Ev NoX F ρ σ s.heap F' ρ' σ' h' → Q b { s with heap := h', toks := tk }
noncomputable def PostL (g : GG) (F : FM) (ρ : RM) (σ : St) (s : Shared) (v : List V) (σ' : St) (Q : List Value → Shared → Prop) : Prop :=
  ∀ y F' ρ' h' tk, Rel g F' ρ' σ' h' → Ev NoX F ρ σ s.heap F' ρ' σ' h' → VsR g F' ρ' y v → Q y { s with heap := h', toks := tk }
noncomputable def Gives (g : GG) (A : Around) (t : Sem Value) (F : FM) (ρ : RM) (σ : St) (s : Shared) (v : V) (σ' : St) : Prop := ∀ Q E, Post g F ρ σ s v σ' Q → wpAny (model g.prog g.w) A t Q E s
noncomputable def GivesB (g : GG) (A : Around) (t : Sem Bool) (F : FM) (ρ : RM) (σ : St) (s : Shared) (b : Bool) (σ' : St) : Prop := ∀ Q E, PostB g F ρ σ s b σ' Q → wpAny (model g.prog g.w) A t Q E s
noncomputable def GivesL (g : GG) (A : Around) (t : Sem (List Value)) (F : FM) (ρ : RM) (σ : St) (s : Shared) (v : List V) (σ' : St) : Prop := ∀ Q E, PostL g F ρ σ s v σ' Q → wpAny (model g.prog g.w) A t Q E s
noncomputable def CallOk (g : GG) (cl : CallF) (d : Nat) : Prop := ∀ A F ρ σ s f xs fv vs v σ', Room A d → Rel g F ρ σ s.heap → VR g F ρ f fv → VsR g F ρ xs vs → cl fv vs σ = some (v, σ') → keepIn g.K f = true ∧ Gives g A (call f xs) F ρ σ s v σ'
noncomputable def EvOk (g : GG) (G : Glob) (cl : CallF) (d : Nat) (me : ME) : Prop := ∀ A env sc vs m F ρ σ s e v σ', Room A d → Rel g F ρ σ s.heap → Loc g F ρ σ s.heap env vs m → SameSc sc env → ok G me sc vs e = true → ev cl me m σ = some (v, σ') →
  Gives g A (eval (build me vs e) env) F ρ σ s v σ'
noncomputable def EvTOk (g : GG) (G : Glob) (cl : CallF) (d : Nat) (me : ME) : Prop := ∀ A env sc vs m F ρ σ s e v σ', Room A d → Rel g F ρ σ s.heap → Loc g F ρ σ s.heap env vs m → SameSc sc env → ok G me sc vs e = true → evT cl me m σ = some (v, σ') →
  GivesB g A (isTrue (build me vs e) env (eval (build me vs e) env)) F ρ σ s v σ'
noncomputable def EvsOk (g : GG) (G : Glob) (cl : CallF) (d : Nat) (mes : List ME) : Prop := ∀ A env sc vs m F ρ σ s es v σ', Room A d → Rel g F ρ σ s.heap → Loc g F ρ σ s.heap env vs m → SameSc sc env → oks G mes sc vs es = true → evs cl mes m σ = some (v, σ') →
  ∀ pos, GivesL g A (spliced (backTo pos (starEach (builds mes vs es) env))) F ρ σ s v σ'
end Mine
end
section
open PySem PySem.W PyProof.Rows
namespace Mine
structure GOk (g : GG) (G : Glob) : Prop where
  val : ∀ x v, G.val x = some v → ∃ y, nsIn g.K mainGlobals x = some (some y) ∧ ∀ F ρ, VR g F ρ y v
  hob : ∃ hC, nsIn g.K mainGlobals "HeapObject" = some (some (.ref hC)) ∧ ∀ (A : Around) (s : Shared) (pl : Sem Bool) (Q : Value × List Value → Shared → Prop) (E : Value → Shared → Prop), g.K.In s.heap →
    (∀ tk, Q (.ref (g.fa 15), []) { s with toks := tk }) → wpAny (model g.prog g.w) A (getMethod (.ref hC) "__init__" pl) Q E s
  bis : ∀ x ∈ (["len", "min", "max", "range", "enumerate", "list"] : List Str), nsIn g.K mainGlobals x = some Option.none
section
variable {g : GG} {F F' : FM} {ρ ρ' : RM} {σ σ' : St} {h h' : Heap} {env : Env} {vs : List Str} {m : List V} {A : Around} {s : Shared} {Q : Value → Shared → Prop} {E : Value → Shared → Prop} {sc : Scope}
theorem Post.tok {v : V} {y : Value} (hQ : Post g F ρ σ s v σ Q) (R : Rel g F ρ σ s.heap) (hy : VR g F ρ y v) (tk : Nat) : Q y { s with toks := tk } :=
  hQ y F ρ s.heap tk R (.refl _ _ _ _ _) hy
theorem Post.same {v : V} {y : Value} (hQ : Post g F ρ σ s v σ Q) (R : Rel g F ρ σ s.heap) (hy : VR g F ρ y v) : Q y s :=
  hQ y F ρ s.heap s.toks R (.refl _ _ _ _ _) hy
theorem Post.grow {v : V} {y : Value} (hQ : Post g F ρ σ s v σ Q) (R : Rel g F ρ σ s.heap) (hk : ∀ b o, s.heap.get? b = some o → h'.get? b = some o) (hy : VR g F ρ y v) (tk : Nat) : Q y { s with heap := h', toks := tk } :=
  let ⟨R', E'⟩ := R.grow hk; hQ y F ρ h' tk R' E' hy
theorem Post.newLst {xs : List Value} {us : List V} (hQ : Post g F ρ σ s (.lst us) σ Q) (R : Rel g F ρ σ s.heap) (hx : VsR g F ρ xs us) (hl : us.length ≤ LIM) (tk : Nat) :
    Q (.ref s.heap.objs.size) { s with heap := s.heap.push { cls := .type "list", data := .seq xs.toArray }, toks := tk } := by
  obtain ⟨F', e, R', E'⟩ := R.newF (h' := s.heap.push { cls := .type "list", data := .seq xs.toArray }) (fun b o e => Heap.get?_push_of_some _ e) (Heap.none_size _) (Heap.get?_push_size _ rfl)
  exact hQ _ F' ρ _ tk R' E' (.lst (n := 0) e (hx.mono E'.ext E'.pre) hl)
theorem Post.newTup {xs : List Value} {us : List V} (hQ : Post g F ρ σ s (.tup us) σ Q) (R : Rel g F ρ σ s.heap) (hx : VsR g F ρ xs us) (hl : us.length ≤ LIM) (tk : Nat) :
    Q (.ref s.heap.objs.size) { s with heap := s.heap.push { cls := .type "tuple", data := .seq xs.toArray }, toks := tk } := by
  obtain ⟨F', e, R', E'⟩ := R.newF (h' := s.heap.push { cls := .type "tuple", data := .seq xs.toArray }) (fun b o e => Heap.get?_push_of_some _ e) (Heap.none_size _) (Heap.get?_push_size _ rfl)
  exact hQ _ F' ρ _ tk R' E' (.tup (n := 0) e (hx.mono E'.ext E'.pre) hl)
theorem VR.int_inv {y : Value} {i : Int} (h : VR g F ρ y (.int i)) : ∃ t, y = .int i t := by cases h; exact ⟨_, rfl⟩
theorem VR.bool_inv {y : Value} {b : Bool} (h : VR g F ρ y (.bool b)) : y = .bool b := by cases h; rfl
theorem VR.none_inv {y : Value} (h : VR g F ρ y .none) : y = .none := by cases h; rfl
theorem VR.str_inv {y : Value} {x : Str} (h : VR g F ρ y (.str x)) : ∃ t, y = .str x t := by cases h; exact ⟨_, rfl⟩
theorem VR.lst_inv {y : Value} {us : List V} (h : VR g F ρ y (.lst us)) : ∃ a xs n, y = .ref a ∧ F a = some (listO xs n) ∧ VsR g F ρ xs us ∧ us.length ≤ LIM := by cases h; exact ⟨_, _, _, rfl, by assumption, by assumption, by assumption⟩
theorem VR.tup_inv {y : Value} {us : List V} (h : VR g F ρ y (.tup us)) : ∃ a xs n, y = .ref a ∧ F a = some (tupO xs n) ∧ VsR g F ρ xs us ∧ us.length ≤ LIM := by cases h; exact ⟨_, _, _, rfl, by assumption, by assumption, by assumption⟩
theorem VR.ref_inv {y : Value} {k : Kd} {i : Nat} (h : VR g F ρ y (.ref k i)) : ∃ p, y = .ref p.1 ∧ (ρ k)[i]? = some p := by cases h; exact ⟨_, rfl, by assumption⟩
theorem VR.fn_inv {y : Value} {n : Nat} (h : VR g F ρ y (.fn n)) : y = .ref (g.fa n) := by cases h; rfl
theorem VR.cls_inv {y : Value} {k : Kd} (h : VR g F ρ y (.cls k)) : y = .ref (g.ca k) := by cases h; rfl
theorem Rel.at_ (R : Rel g F ρ σ h) {k : Kd} {i : Nat} {O : MObj} {p : Addr × Addr} (e1 : (σ k)[i]? = some O) (e2 : (ρ k)[i]? = some p) : ObjR g F ρ h k p.1 p.2 O := R.obj k i O p e1 e2
theorem lst_get {k : Kd} {i : Nat} {us : List V} (e : σ.lst k i = some us) : (σ k)[i]? = some (.list us) := by
  unfold St.lst at e
  split at e
  · rename_i q; cases e; exact q
  · cases e
theorem dct_get {k : Kd} {i : Nat} {us : List V} (e : σ.dct k i = some us) : (σ k)[i]? = some (.dict us) := by
  unfold St.dct at e
  split at e
  · rename_i q; cases e; exact q
  · cases e
theorem ins_get {k : Kd} {i : Nat} {us : List V} (e : σ.ins k i = some us) : (σ k)[i]? = some (.inst us) := by
  unfold St.ins at e
  split at e
  · rename_i q; cases e; exact q
  · cases e
theorem Rel.items (R : Rel g F ρ σ h) {y : Value} {v : V} {us : List V} (hy : VR g F ρ y v) (e : items σ v = some us) :
    ∃ a xs n, y = .ref a ∧ VsR g F ρ xs us ∧ us.length ≤ LIM ∧ ((h.get? a = some (listO xs n)) ∨ (h.get? a = some (tupO xs n))) := by
  cases v with
  | lst vs =>
    obtain rfl := Option.some.inj e
    obtain ⟨a, xs, n, rfl, q1, q2, q3⟩ := hy.lst_inv
    exact ⟨a, xs, n, rfl, q2, q3, .inl (R.frz _ _ q1)⟩
  | tup vs =>
    obtain rfl := Option.some.inj e
    obtain ⟨a, xs, n, rfl, q1, q2, q3⟩ := hy.tup_inv
    exact ⟨a, xs, n, rfl, q2, q3, .inr (R.frz _ _ q1)⟩
  | ref k i =>
    obtain ⟨p, rfl, q⟩ := hy.ref_inv
    obtain ⟨_, xs, n, q1, q2, q3⟩ := R.at_ (lst_get e) q
    exact ⟨p.1, xs, n, rfl, q2, q3, .inl q1⟩
  | _ => exact ns e
theorem Rel.isL₀ (R : Rel g F ρ σ h) {y : Value} {x : V} {us : List V} (hx : ∀ us, x ≠ .tup us) (hy : VR g F ρ y x) (e : Mine.items σ x = some us) : ∃ l xs n, y = .ref l ∧ h.get? l = some (listO xs n) ∧ VsR g F ρ xs us ∧ us.length ≤ LIM := by
  cases x with
  | lst vs =>
    obtain rfl := Option.some.inj e
    obtain ⟨a, xs, n, rfl, q1, q2, q3⟩ := hy.lst_inv
    exact ⟨a, xs, n, rfl, R.frz _ _ q1, q2, q3⟩
  | tup vs => exact absurd rfl (hx vs)
  | ref k i =>
    obtain ⟨p, rfl, q⟩ := hy.ref_inv
    obtain ⟨_, xs, n, q1, q2, q3⟩ := R.at_ (lst_get e) q
    exact ⟨p.1, xs, n, rfl, q1, q2, q3⟩
  | _ => exact ns e
noncomputable def VD (g : GG) (F : FM) (ρ : RM) (h : Heap) (y : Value) (x : V) : Prop :=
  VR g F ρ y x ∨ ∃ a xs n vs, y = .ref a ∧ x = .lst vs ∧ h.get? a = some (listO xs n) ∧ VsR g F ρ xs vs ∧ vs.length ≤ LIM
theorem VD.int_inv {y : Value} {i : Int} (h : VD g F ρ h' y (.int i)) : ∃ t, y = .int i t := by
  rcases h with h | ⟨_, _, _, _, _, e, _⟩
  · exact h.int_inv
  · cases e
theorem VD.bool_inv {y : Value} {b : Bool} (h : VD g F ρ h' y (.bool b)) : y = .bool b := by
  rcases h with h | ⟨_, _, _, _, _, e, _⟩
  · exact h.bool_inv
  · cases e
theorem VD.none_inv {y : Value} (h : VD g F ρ h' y .none) : y = .none := by
  rcases h with h | ⟨_, _, _, _, _, e, _⟩
  · exact h.none_inv
  · cases e
theorem VD.str_inv {y : Value} {x : Str} (h : VD g F ρ h' y (.str x)) : ∃ t, y = .str x t := by
  rcases h with h | ⟨_, _, _, _, _, e, _⟩
  · exact h.str_inv
  · cases e
theorem VD.ref_inv {y : Value} {k : Kd} {i : Nat} (h : VD g F ρ h' y (.ref k i)) : ∃ p, y = .ref p.1 ∧ (ρ k)[i]? = some p := by
  rcases h with h | ⟨_, _, _, _, _, e, _⟩
  · exact h.ref_inv
  · cases e
theorem VD.tup_inv (R : Rel g F ρ σ h) {y : Value} {us : List V} (q : VD g F ρ h y (.tup us)) : ∃ a xs n, y = .ref a ∧ h.get? a = some (tupO xs n) ∧ VsR g F ρ xs us ∧ us.length ≤ LIM := by
  rcases q with q | ⟨_, _, _, _, _, e, _⟩
  · obtain ⟨a, xs, n, h1, h2, h3, h4⟩ := q.tup_inv
    exact ⟨a, xs, n, h1, R.frz _ _ h2, h3, h4⟩
  · cases e
theorem VD.lst_inv (R : Rel g F ρ σ h) {y : Value} {us : List V} (q : VD g F ρ h y (.lst us)) : ∃ a xs n, y = .ref a ∧ h.get? a = some (listO xs n) ∧ VsR g F ρ xs us ∧ us.length ≤ LIM := by
  rcases q with q | ⟨a, xs, n, vs, h1, e, h2, h3, h4⟩
  · obtain ⟨a, xs, n, h1, h2, h3, h4⟩ := q.lst_inv
    exact ⟨a, xs, n, h1, R.frz _ _ h2, h3, h4⟩
  · cases e; exact ⟨a, xs, n, h1, h2, h3, h4⟩
theorem deref_ok (R : Rel g F ρ σ h) {y : Value} {x : V} (q : VR g F ρ y x) : VD g F ρ h y (deref σ x) := by
  cases x with
  | ref k i =>
    show VD g F ρ h y (match σ.lst k i with | some vs => .lst vs | Option.none => .ref k i)
    cases e : σ.lst k i with
    | none => exact .inl q
    | some us =>
      obtain ⟨p, rfl, q'⟩ := q.ref_inv
      obtain ⟨_, xs, n, q1, q2, q3⟩ := R.at_ (lst_get e) q'
      exact .inr ⟨_, _, _, _, rfl, rfl, q1, q2, q3⟩
  | _ => exact .inl q
theorem Room.less {d d' : Nat} (r : Room A d) (h : d' ≤ d) : Room A d' := ⟨r.handled, by have := r.depth; lia, by have := r.units; lia⟩
theorem fits_LIM {n : Nat} (h : n ≤ LIM) : n ≤ sizeLine := by unfold LIM at h; rw [sizeLine_eq]; lia
theorem okLen_spec {n : Nat} (h : okLen n = true) : n ≤ LIM := of_decide_eq_true h
theorem small_spec {i : Int} (h : small i = true) : -1000000000 ≤ i ∧ i ≤ 1000000000 := by
  unfold small at h; simpa using h
theorem bitsOk {a b : Int} (ha : small a = true) : IntMulOk a b := by
  obtain ⟨h1, h2⟩ := small_spec ha
  unfold IntMulOk
  have : Builtin.Int.intBits a ≤ shortFactorBits := by
    unfold Builtin.Int.intBits shortFactorBits
    split
    · omega
    · rename_i q
      have q' : a ≠ 0 := by simpa using q
      have h3 : a.natAbs < 2 ^ 63 := by lia
      have := Nat.log2_lt (n := a.natAbs) (k := 63) (by lia) |>.mpr h3
      lia
  intro q
  simp only [Bool.and_eq_true, decide_eq_true_eq] at q
  lia
theorem bitOr_nonneg {x y : Int} (hx : 0 ≤ x) (hy : 0 ≤ y) : Builtin.bitOr x y = ((x.toNat ||| y.toNat : Nat) : Int) := by
  unfold Builtin.bitOr
  have e1 : ¬ (0 ≤ Builtin.bitNot x) := by unfold Builtin.bitNot; lia
  have e2 : ¬ (0 ≤ Builtin.bitNot y) := by unfold Builtin.bitNot; lia
  have e3 : ∀ z, Builtin.bitNot (Builtin.bitNot z) = z := fun z => by unfold Builtin.bitNot; lia
  unfold Builtin.bitAnd
  simp only [e1, e2, decide_false, e3]
theorem bitAnd_nonneg {x y : Int} (hx : 0 ≤ x) (hy : 0 ≤ y) : Builtin.bitAnd x y = ((x.toNat &&& y.toNat : Nat) : Int) := by
  unfold Builtin.bitAnd
  simp only [hx, hy, decide_true]
end
end Mine
end
section
open PySem PySem.W PyProof.Rows PySem.Calls
namespace Mine
section
variable {g : GG} {F F' : FM} {ρ ρ' : RM} {σ σ' : St} {h h' : Heap} {env : Env} {vs : List Str} {m : List V} {A : Around} {s : Shared} {Q : Value → Shared → Prop} {E : Value → Shared → Prop} {sc : Scope}
theorem mulList {prog : Program} {w : World} {l : Addr} {xs : List Value} {k : Nat} {x : Int} {u : Tok} (hl : s.heap.get? l = some (listO xs k)) (hlo : -(2 ^ 63 : Int) ≤ x) (hhi : x < 2 ^ 63) (hsz : xs.length * x.toNat ≤ 2 ^ 24)
    (h : Q (.ref s.heap.objs.size) { s with heap := s.heap.push { cls := .type "list", data := .seq (List.replicate x.toNat xs).flatten.toArray } }) :
    wpAny (model prog w) A (binaryOp .Mult (.ref l) (.int x u)) Q E s := by
  have hsz' : xs.toArray.size * x.toNat ≤ 2 ^ 24 := by simpa using hsz
  refine wpAny_binaryOp_repeat_ref (T := "list") (U := "int") (by decide) ⟨_, hl, rfl⟩ (fun s' => typeIs_int s' x u) noFill_list_mul F.fills_int_mul F.slot_int_rmul repeat_list F.slot_int_index.lookup
    (call_meets F.slot_int_rmul (typeIs_int s x u) F.entry_int_rmul (F.args_int_rmul_2 _ _) (int___rmul___int_list x u l xs.toArray k)
      ⟨hl, rfl, ⟨_, hl, rfl⟩, call_meets F.slot_list_mul ⟨_, hl, rfl⟩ F.entry_list_mul (F.args_list_mul_2 _ _)
        (AutoListH.list___mul___list_int_3 l xs.toArray k x u (by simp [Builtin.List.listFitsIndex]; lia) (by lia) (by simp [Builtin.List.listTooLong, sizeLine]; lia))
        ⟨hl, ?_⟩⟩)
  rw [listMul_foldl_if]
  exact h
theorem intop_ok {op : Operator} {x y : Int} {z : V} {t u : Tok} (R : Rel g F ρ σ s.heap) (e : intop op x y = some z) : Gives g A (binaryOp op (.int x t) (.int y u)) F ρ σ s z σ := by
  intro Q E hQ
  cases op with
  | Add => cases e; exact PyProof.Rows.add_int (hQ.tok R (.int _ _) _)
  | Sub => cases e; exact PyProof.Rows.sub_int (hQ.tok R (.int _ _) _)
  | Mult =>
    obtain ⟨q, e⟩ := if_of e
    cases e
    exact PyProof.Rows.mul_int (hQ.tok R (.int _ _) _) (bitsOk q.1)
  | FloorDiv =>
    obtain ⟨q, e⟩ := if_of e
    cases e
    refine PyProof.Rows.floordiv_int q.2.2 (hQ.tok R (.int _ _) _) (.inl (PyProof.noPylong_small ?_))
    have := small_spec q.2.1
    clear hQ R
    lia
  | Mod =>
    obtain ⟨q, e⟩ := if_of e
    cases e
    exact PyProof.Rows.mod_int' q (hQ.tok R (.int _ _) _)
  | BitAnd =>
    obtain ⟨q, e⟩ := if_of e
    cases e
    refine PyProof.Rows.and_int ?_
    rw [bitAnd_nonneg q.1 q.2]
    exact hQ.tok R (.int _ _) _
  | BitOr =>
    obtain ⟨q, e⟩ := if_of e
    cases e
    refine PyProof.Rows.or_int ?_
    rw [bitOr_nonneg q.1 q.2]
    exact hQ.tok R (.int _ _) _
  | LShift =>
    obtain ⟨q, e⟩ := if_of e
    cases e
    exact PyProof.Rows.lshift_int_small q.2.2.1 (by lia) (by lia) (hQ.tok R (.int _ _) _)
  | RShift =>
    obtain ⟨q, e⟩ := if_of e
    cases e
    refine PyProof.Rows.rshift_int q.2.1 ?_
    rw [Int.fdiv_eq_ediv_of_nonneg _ (by exact Int.le_of_lt (Int.pow_pos (by lia)))]
    exact hQ.tok R (.int _ _) _
  | _ => exact ns e
theorem rep_flat (x : Value) (n : Nat) : (List.replicate n [x]).flatten = List.replicate n x := by
  induction n with
  | zero => rfl
  | succ n ih => exact congrArg (x :: ·) ih
theorem binop_ok {op : Operator} {x y z : V} {a b : Value} (R : Rel g F ρ σ s.heap) (ha : VD g F ρ s.heap a x) (hb : VD g F ρ s.heap b y) (e : binop op x y = some z) : Gives g A (binaryOp op a b) F ρ σ s z σ := by
  cases x with
  | int x =>
    obtain ⟨t, rfl⟩ := ha.int_inv
    cases y with
    | int y =>
      obtain ⟨u, rfl⟩ := hb.int_inv
      exact intop_ok R e
    | bool y =>
      have := hb.bool_inv
      subst this
      obtain ⟨⟨rfl, _⟩, q⟩ := if_of e
      cases q
      exact fun Q E hQ => IntBool.mul_int_bool (hQ.tok R (.int _ _) _)
    | _ => exact ns e
  | lst vs =>
    obtain ⟨a1, xs, n, rfl, q1, q2, q3⟩ := VD.lst_inv R ha
    cases y with
    | lst ws =>
      obtain ⟨a2, ys, n', rfl, r1, r2, r3⟩ := VD.lst_inv R hb
      obtain ⟨⟨rfl, q⟩, q'⟩ := if_of e
      cases q'
      intro Q E hQ
      have hlim := okLen_spec q
      refine PySem.P.add_list q1 r1 ?_ ?_
      · have := hQ.newLst R (q2.append r2) (by rw [List.length_append]; exact hlim) s.toks
        rwa [← List.append_toArray] at this
      · rw [List.size_toArray, List.size_toArray, q2.length, r2.length]
        exact fits_LIM hlim
    | int y =>
      obtain ⟨u, rfl⟩ := hb.int_inv
      obtain ⟨x, e1, q⟩ := Option.bind_eq_some_iff.mp e
      have := one_of e1; subst this
      obtain ⟨⟨rfl, q1'⟩, q'⟩ := if_of q
      cases q'
      intro Q E hQ
      have hlim := okLen_spec q1'.1
      have hsm := small_spec q1'.2
      cases q2 with
      | cons hx hs =>
        cases hs
        refine mulList q1 (by lia) (by lia) (by rw [List.length_singleton, Nat.one_mul]; unfold LIM at hlim; lia) ?_
        rw [rep_flat]
        exact hQ.newLst R (VsR.replicate hx _) (by rw [List.length_replicate]; exact hlim) s.toks
    | _ => exact ns e
  | _ => exact ns e
end
end Mine
end
section
open PySem PySem.W PyProof.Rows PySem.Calls PySem.SeqAt
namespace Mine
section
variable {g : GG} {F F' : FM} {ρ ρ' : RM} {σ σ' : St} {h h' : Heap} {env : Env} {vs : List Str} {m : List V} {A : Around} {s : Shared} {Q : Value → Shared → Prop} {E : Value → Shared → Prop} {sc : Scope}
theorem tryEq {prog : Program} {w : World} {K : Frag} {a b C : Addr} {oa ob : Obj} {oda : Option Obj} {R : Option Value → Shared → Prop} (X : K.In s.heap) (Ia : W.InstAt s.heap a oa C oda) (hb : s.heap.get? b = some ob)
    (hs : findIn K (.ref C) "__eq__" = some (some (.builtin "object.__eq__"))) (hm : subIn K (.ref C) (.type "object") = some true)
    (hR : R (if a = b then some (.bool true) else Option.none) s) : wpAny (model prog w) A (tryCompare (.ref a) "__eq__" (.ref b)) R E s := by
  have inst : ∀ M : Model, Looks M s.heap (isInstance (.ref a) (.type "object")) true := fun M => Ia.type.andThen (looks_subIn X hm)
  have fin : wpAny (model prog w) A (call (.builtin "object.__eq__") ([.ref a] ++ [.ref b])) (fun r s' => r = (if a = b then Value.bool true else .notImplemented) ∧ s' = s) (fun _ _ => False) s := by
    refine wpAny_call ?_
    refine codeAny_call_builtin (id := "object.__eq__") (b := Builtin.«object.__eq__») PySem.F.cmp_object.eq.plain PySem.F.cmpEntry_eq ?_
    refine check_slot (i := "object.__eq__") (owner := "object") (n := "__eq__") (self := .ref a) (rest := [.ref b]) PySem.F.cmpKind_eq PySem.F.cmpSplit_eq (inst _) (PySem.F.cmpArgs_eq _ _) ?_
    by_cases hab : a = b
    · subst hab
      exact objEq_entry_same (by simp)
    · refine objEq_entry_other hab Ia.at_ hb (fun e => ?_) (by simp [hab])
      rw [Ia.cls] at e; cases e
  unfold tryCompare
  refine wpAny_bind ?_
  simp only [callSpecialIfBound?, bindSpecialIfBound?]
  refine wpAny_holding (wpAny_bind (wpAny_bind (wpAny_bind (Ia.type.here ((looks_findIn X hs).here ?_)))))
  simp only [PySem.F.cmp_object.eq.bind]
  refine wpAny_bind (wpAny_askSetting (wpAny_ite ?_))
  split
  · refine wpAny_bind (wpAny_pure (wpAny_pure ?_))
    refine wpAny_bind (wpAny_mono fin (fun r s' hr => ?_) fun _ _ e => e.elim)
    obtain ⟨rfl, rfl⟩ := hr
    refine wpAny_pure ?_
    by_cases hab : a = b
    · rw [if_pos hab] at hR ⊢; exact wpAny_pure hR
    · rw [if_neg hab] at hR ⊢; exact wpAny_pure hR
  · refine wpAny_tryCatch (wpAny_bind (wpAny_pure (wpAny_pure ?_)))
    refine wpAny_bind (wpAny_mono fin (fun r s' hr => ?_) fun _ _ e => e.elim)
    obtain ⟨rfl, rfl⟩ := hr
    refine wpAny_pure ?_
    by_cases hab : a = b
    · rw [if_pos hab] at hR ⊢; exact wpAny_pure hR
    · rw [if_neg hab] at hR ⊢; exact wpAny_pure hR
theorem eqInst {prog : Program} {w : World} {K : Frag} {x y C : Addr} {ox oy : Obj} {od od' : Option Obj} (X : K.In s.heap) (I : W.InstAt s.heap x ox C od) (J : W.InstAt s.heap y oy C od')
    (hs : findIn K (.ref C) "__eq__" = some (some (.builtin "object.__eq__"))) (hm : subIn K (.ref C) (.type "object") = some true) (hu : A.units < cLine) (hQ : Q (.bool (x == y)) s) :
    wpAny (model prog w) A (compareOp .Eq (.ref x) (.ref y)) Q E s := by
  show wpAny (model prog w) A (richCompare .Eq (.ref x) (.ref y)) Q E s
  unfold richCompare
  simp only [oneThing_ref]
  refine wpAny_holding (wpAny_bind (wpAny_cRoomFor hu ?_))
  refine wpAny_bind (I.type.here (wpAny_bind (J.type.here ?_)))
  rw [if_neg (by simp)]
  refine wpAny_bind (wpAny_pure ?_)
  simp only [Bool.false_eq_true, if_false]
  refine wpAny_bind (tryEq X I J.at_ hs hm ?_)
  by_cases hxy : x = y
  · subst hxy
    rw [if_pos rfl]
    simpa using wpAny_pure hQ
  · rw [if_neg hxy]
    refine wpAny_bind (tryEq X J I.at_ hs hm ?_)
    rw [if_neg (Ne.symm hxy)]
    refine wpAny_bind (wpAny_rule (wpAny_bind (wpAny_isSame_ref_other hxy I.at_ J.at_ (fun e => ?_) (wpAny_pure ?_))))
    · rw [I.cls] at e; cases e
    · have e : (x == y) = false := beq_eq_false_iff_ne.mpr hxy
      rw [e] at hQ; exact hQ
end
end Mine
end
section
open PySem PySem.W PyProof.Rows PySem.Calls PySem.SeqAt
namespace Mine
structure ClsOk (g : GG) (k : Kd) : Prop where
  get : plainGet g.K (g.ca k) "" = true
  dict : hasDictIn g.K (g.ca k) = true
  fld : ∀ x ∈ fields k, findIn g.K (.ref (g.ca k)) x = some Option.none
  setA : findIn g.K (.ref (g.ca k)) "__setattr__" = some (some (.builtin "object.__setattr__"))
  over : plainOver g.K (g.ca k) = true
  tak : ∀ x ∈ fields k, takerIn g.K (g.ca k) x = some Option.none
  make : makesIn g.K (g.ca k) = true
  keep : keepIn g.K (.ref (g.ca k)) = true
  ini : ∀ n, g.tab.init k = some n → findIn g.K (.ref (g.ca k)) "__init__" = some (some (.ref (g.fa n))) ∧ typeIn g.K (.ref (g.fa n)) = some (.type "function")
  eq : findIn g.K (.ref (g.ca k)) "__eq__" = some (some (.builtin "object.__eq__"))
  sub : subIn g.K (.ref (g.ca k)) (.type "object") = some true
  met : ∀ nm f, (k, nm, f) ∈ meths → findIn g.K (.ref (g.ca k)) nm = some (some (.ref (g.fa f))) ∧ typeIn g.K (.ref (g.fa f)) = some (.type "function") ∧ nm ∉ fields k
theorem isStr_str (x y : Str) (t : Tok) : (Value.str x t).isStr y = (x == y) := rfl
theorem getL_fnd {es : List DictEntry} (hk : StrKs es) (y : Str) : getL y es = some (fnd y es) := by
  unfold getL fnd
  have : es.any (·.refKey) = false := by
    rw [List.any_eq_false]; intro e he; obtain ⟨n, t, q⟩ := hk e he; simp [DictEntry.refKey, q]
  rw [this]
  cases List.find? (fun x => x.key.isStr y) es <;> simp
theorem fnd_nil (y : Str) : fnd y [] = Option.none := rfl
theorem fnd_cons (y : Str) (e : DictEntry) (r : List DictEntry) : fnd y (e :: r) = if e.key.isStr y then some e.val else fnd y r := by
  unfold fnd
  rw [List.find?_cons]
  cases h : e.key.isStr y <;> simp
theorem fnd_putL (x y : Str) (hsh : Int) (t : Tok) (v : Value) : ∀ es : List DictEntry, fnd y (putL x hsh (.str x t) v es) = if y = x then some v else fnd y es
  | [] => by
    simp only [putL, fnd_cons, fnd_nil, isStr_str]
    by_cases h : y = x
    · subst h; simp
    · have : (x == y) = false := beq_eq_false_iff_ne.mpr (Ne.symm h)
      simp [h, this]
  | e :: r => by
    have ih := fnd_putL x y hsh t v r
    unfold putL
    cases h : e.key.isStr x with
    | true =>
      simp only [if_true, fnd_cons]
      by_cases hy : y = x
      · subst hy; simp [h]
      · have : e.key.isStr y = false := by
          cases q : e.key.isStr y with
          | false => rfl
          | true => exact absurd (Value.isStr_inj _ _ _ q h) hy
        simp [hy, this]
    | false =>
      simp only [Bool.false_eq_true, if_false, fnd_cons, ih]
      by_cases hy : y = x
      · subst hy; simp [h]
      · simp [hy]
theorem strKs_putL {x : Str} {hsh : Int} {t : Tok} {v : Value} : ∀ {es : List DictEntry}, StrKs es → StrKs (putL x hsh (.str x t) v es)
  | [], _ => by intro e he; simp only [putL, List.mem_singleton] at he; subst he; exact ⟨_, _, rfl⟩
  | e :: r, hk => by
    have ih := strKs_putL (x := x) (hsh := hsh) (t := t) (v := v) (es := r) fun e he => hk e (List.mem_cons_of_mem _ he)
    unfold putL
    split
    · intro e' he
      rcases List.mem_cons.mp he with rfl | he
      · exact hk e List.mem_cons_self
      · exact hk e' (List.mem_cons_of_mem _ he)
    · intro e' he
      rcases List.mem_cons.mp he with rfl | he
      · exact hk _ List.mem_cons_self
      · exact ih e' he
theorem putL_length (x : Str) (hsh : Int) (k v : Value) : ∀ es : List DictEntry, (putL x hsh k v es).length = if (fnd x es).isSome then es.length else es.length + 1
  | [] => rfl
  | e :: r => by
    have ih := putL_length x hsh k v r
    unfold putL
    rw [fnd_cons]
    cases h : e.key.isStr x with
    | true => simp
    | false =>
      simp only [Bool.false_eq_true, if_false, List.length_cons, ih]
      split <;> rfl
section
variable {g : GG} {F F' : FM} {ρ ρ' : RM} {σ σ' : St} {h h' : Heap} {env : Env} {vs : List Str} {m : List V} {A : Around} {s : Shared} {Q : Value → Shared → Prop} {E : Value → Shared → Prop} {sc : Scope}
theorem handed_of {y : Value} {v : V} (h : VR g F ρ y v) : handedIn y = true := by cases h <;> rfl
theorem Rel.inst (R : Rel g F ρ σ h) {k : Kd} {i : Nat} {us : List V} {p : Addr × Addr} (e : σ.ins k i = some us) (q : (ρ k)[i]? = some p) :
    ∃ es n, W.InstAt h p.1 (instObj (g.ca k) p.2) (g.ca k) (some (dictOf es n)) ∧ h.get? p.2 = some (dictOf es n) ∧ p.1 ≠ p.2 ∧ es.length = us.length ∧ us.length ≤ (fields k).length ∧ StrKs es ∧ (∀ x, x ∉ fields k → fnd x es = Option.none) ∧
      ∀ (j : Nat) (x : Str), (fields k)[j]? = some x → (∀ v, us[j]? = some v → ∃ y, fnd x es = some y ∧ VR g F ρ y v) ∧ (us.length ≤ j → fnd x es = Option.none) := by
  obtain ⟨hne, h1, es, n, h2, h3, h4, h7, h6, h5⟩ := R.at_ (ins_get e) q
  exact ⟨es, n, ⟨h1, rfl, rfl, h2⟩, h2, hne, h3, h4, h7, h6, h5⟩
theorem attr_ok (C : ∀ k, isInstKd k = true → ClsOk g k) (R : Rel g F ρ σ s.heap) {a : Value} {k : Kd} {i j : Nat} {us : List V} {z : V} {x : Str} (ha : VR g F ρ a (.ref k i)) (hk : isInstKd k = true) (e : σ.ins k i = some us) (hj : (fields k)[j]? = some x) (hz : us[j]? = some z)
    {b : Bool} : Gives g A (getAttr a x b) F ρ σ s z σ := by
  intro Q E hQ
  obtain ⟨p, rfl, q⟩ := ha.ref_inv
  obtain ⟨es, n, I, _, _, _, _, h7, _, h5⟩ := R.inst e q
  obtain ⟨y, hy, hv⟩ := (h5 j x hj).1 z hz
  have c := C k hk
  refine get_value R.K I (plainGet_of c.get).1 (findObj_own c.dict (c.fld x (List.mem_of_getElem? hj)) rfl (by rw [lookIn_dict, getL_fnd h7, hy])) (handed_of hv) (hQ.tok R hv _)
theorem getM_ok (C : ∀ k, isInstKd k = true → ClsOk g k) (R : Rel g F ρ σ s.heap) {a : Value} {k : Kd} {i f : Nat} {us : List V} {nm : Str} (ha : VR g F ρ a (.ref k i)) (hk : isInstKd k = true) (e : σ.ins k i = some us) (hm : (k, nm, f) ∈ meths) {pl : Sem Bool} {Q : Value × List Value → Shared → Prop}
    (hQ : Q (.ref (g.fa f), [a]) s) : wpAny (model g.prog g.w) A (getMethod a nm pl) Q E s := by
  obtain ⟨p, rfl, q⟩ := ha.ref_inv
  obtain ⟨es, n, I, _, _, _, _, h7, h6, _⟩ := R.inst e q
  have c := C k hk
  obtain ⟨m1, m2, m3⟩ := c.met nm f hm
  exact method_fn R.K I (plainGet_of c.get).1 (plainGet_of c.get).2 m1 m2 (by show (lookIn nm (dictOf es n)).map _ = _; rw [lookIn_dict, getL_fnd h7, h6 nm m3]; rfl) hQ
noncomputable def GivesU (g : GG) (A : Around) (t : Sem Unit) (F : FM) (ρ : RM) (σ : St) (s : Shared) (σ' : St) : Prop :=
  ∀ (Q : Unit → Shared → Prop) E, (∀ F' ρ' h' tk, Rel g F' ρ' σ' h' → Ev NoX F ρ σ s.heap F' ρ' σ' h' → Q () { s with heap := h', toks := tk }) → wpAny (model g.prog g.w) A t Q E s
theorem osa {prog : Program} {w : World} {K : Frag} {C x dx : Addr} {name : Str} {v : Value} {es : List DictEntry} {n : Nat} {Q : Unit → Shared → Prop} (X : K.In s.heap) (I : W.InstAt s.heap x (instObj C dx) C (some (dictOf es n))) (D : s.heap.get? dx = some (dictOf es n))
    (hs : findIn K (.ref C) "__setattr__" = some (some (.builtin "object.__setattr__"))) (hp : plainOver K C = true) (ht : takerIn K C name = some Option.none) (hh : hasDictIn K C = true) (hk : StrKs es) (hz : es.length ≤ 900)
    (hQ : ∀ h' tk hsh t, h'.get? dx = some (dictOf (putL name hsh (.str name t) v es) (putN name es n)) → Heap.SameBut dx s.heap h' → Q () { s with heap := h', toks := tk }) :
    wpAny (model prog w) A (setAttr (.ref x) name v) Q E s := by
  refine set_plain X I hs ?_
  refine osa_open X I hp ht fun b => ?_
  obtain ⟨cd, hc, hd'⟩ := any_some hh
  refine wpAny_bind (wpAny_pure (wpAny_bind (wpAny_bind (wpAny_loadPart I.at_ (wpAny_bind (looks_clsIn X hc _ _ _ _ (fun _ _ e => e) ?_))))))
  rw [hd']
  refine wpAny_pure (a := some dx) (wpAny_bind (wpAny_pure (wpAny_bind ?_)))
  unfold nsSet
  refine wpAny_bind (wpAny_bind (wpAny_askSetting (wpAny_pure (wpAny_bind (wpAny_mkText (wpAny_bind (wpAny_loadPart D ?_)))))))
  have c : (!es.toArray.any (·.key.isStr name) && es.toArray.any (·.refKey)) = false := by
    have : es.toArray.any (·.refKey) = false := by
      rw [← Array.any_toList, List.any_eq_false]; intro e he; obtain ⟨m, t, q⟩ := hk e he; simp [DictEntry.refKey, q]
    rw [this, Bool.and_false]
  dsimp only
  rw [aRefKeyMayBeTheName_at, c]
  have U : ∀ hsh t, (s.heap.update dx (Obj.putName name hsh (.str name t) v)).get? dx = some (dictOf (putL name hsh (.str name t) v es) (putN name es n)) := fun hsh t => by
    rw [← putName_dict]
    exact Heap.get?_update_self _ D (by rw [putName_dict]; rfl)
  refine wpAny_updatePart D ?_
  refine wpAny_bind (wpAny_lookBehind (U _ _) (pastItsLine_dict (by rw [List.size_toArray, sizeLine_eq, putL_length]; split <;> lia)) ?_)
  exact wpAny_pure (hQ _ _ _ _ (U _ _) (Heap.SameBut.update ..))
end
end Mine
end
section
open PySem PySem.W PyProof.Rows PySem.Calls PySem.SeqAt
namespace Mine
section
variable {g : GG} {F F' : FM} {ρ ρ' : RM} {σ σ' : St} {h h' : Heap} {env : Env} {vs : List Str} {m : List V} {A : Around} {s : Shared} {Q : Value → Shared → Prop} {E : Value → Shared → Prop} {sc : Scope}
theorem fields_nodup (k : Kd) : (fields k).Nodup := by cases k <;> decide +kernel
theorem fields_inj {k : Kd} {i j : Nat} {x : Str} (h : (fields k)[i]? = some x) (h' : (fields k)[j]? = some x) : i = j := by
  obtain ⟨hi, e⟩ := List.getElem?_eq_some_iff.mp h
  obtain ⟨hj, e'⟩ := List.getElem?_eq_some_iff.mp h'
  exact (List.getElem_inj (fields_nodup k)).mp (e.trans e'.symm)
theorem fields_few (k : Kd) : (fields k).length ≤ 20 := by cases k <;> decide +kernel
theorem setA_ok (C : ∀ k, isInstKd k = true → ClsOk g k) (R : Rel g F ρ σ s.heap) {a y : Value} {k : Kd} {i j : Nat} {us us' : List V} {v : V} {x : Str} (ha : VR g F ρ a (.ref k i)) (hk : isInstKd k = true) (e : σ.ins k i = some us) (hj : (fields k)[j]? = some x) (hy : VR g F ρ y v)
    (hu : (j < us.length ∧ us' = us.set j v) ∨ (j = us.length ∧ us' = us ++ [v])) : GivesU g A (setAttr a x y) F ρ σ s (σ.setO k i (.inst us')) := by
  intro Q E hQ
  obtain ⟨p, rfl, q⟩ := ha.ref_inv
  obtain ⟨es, n, I, D, hne, h3, h4, h7, h6, h5⟩ := R.inst e q
  have c := C k hk
  have hmem := List.mem_of_getElem? hj
  have hfew := fields_few k
  refine osa R.K I D c.setA c.over (c.tak x hmem) c.dict h7 (by lia) fun h' tk hsh t hd hs => ?_
  have hg := I.at_
  have hget : ∀ jj, us'[jj]? = if jj = j then some v else us[jj]? := fun jj => by
    rcases hu with ⟨q1, rfl⟩ | ⟨q1, rfl⟩
    · rw [set_get, if_pos q1]
    · subst q1
      rcases Nat.lt_trichotomy jj us.length with z | z | z
      · rw [List.getElem?_append_left z, if_neg (by lia)]
      · subst z; simp
      · rw [if_neg (by lia), List.getElem?_eq_none (by simp; lia), List.getElem?_eq_none (by lia)]
  have hlen : us'.length = if j < us.length then us.length else us.length + 1 := by
    rcases hu with ⟨q1, rfl⟩ | ⟨q1, rfl⟩
    · rw [if_pos q1]; simp
    · rw [if_neg (by lia)]; simp
  have hjl : j < (fields k).length := by
    rcases Nat.lt_or_ge j (fields k).length with z | z
    · exact z
    · rw [List.getElem?_eq_none z] at hj; cases hj
  have HO : ObjR g F ρ h' k p.1 p.2 (.inst us') := by
   refine ⟨hne, (hs.2 p.1 hne).trans hg, _, _, hd, ?_, ?_, strKs_putL h7, fun z hz => ?_, fun jj z hz => ?_⟩
   · rw [putL_length, hlen, h3]
     have hh := h5 j x hj
     by_cases z : j < us.length
     · obtain ⟨w, hw⟩ : ∃ w, us[j]? = some w := ⟨us[j], List.getElem?_eq_getElem z⟩
       obtain ⟨y', q1, _⟩ := hh.1 w hw
       rw [if_pos z, q1]; rfl
     · rw [if_neg z, hh.2 (by lia)]; rfl
   · rw [hlen]; split <;> lia
   · rw [fnd_putL, if_neg (show ¬ z = x from fun e => hz (e ▸ hmem))]; exact h6 z hz
   · have hh := h5 jj z hz
     rw [fnd_putL]
     by_cases hjj : jj = j
     · subst hjj
       have : z = x := Option.some.inj (hz.symm.trans hj)
       subst this
       refine ⟨fun w hw => ?_, fun hl => ?_⟩
       · rw [hget, if_pos rfl] at hw; cases hw
         exact ⟨y, by rw [if_pos rfl], hy⟩
       · exfalso
         rw [hlen] at hl
         split at hl
         · omega
         · rcases hu with ⟨q1, _⟩ | ⟨q1, _⟩ <;> lia
     · have hzx : z ≠ x := fun e => hjj (fields_inj hz (e ▸ hj))
       rw [if_neg hzx]
       refine ⟨fun w hw => ?_, fun hl => ?_⟩
       · rw [hget, if_neg hjj] at hw; exact hh.1 w hw
       · refine hh.2 ?_
         rw [hlen] at hl
         split at hl <;> lia
  obtain ⟨R', E'⟩ := R.upd (h' := h') (O' := .inst us') (ins_get e) q rfl (fun b o _ h2 e => (hs.2 b h2).trans e) (fun b o e => by
      by_cases z : b = p.2
      · subst z; exact ⟨_, hd⟩
      · exact ⟨o, (hs.2 b z).trans e⟩) HO
  exact hQ F ρ h' tk R' E'
theorem isStrOf_self (x : Str) (t : Tok) : Value.isStrOf x (.str x t) = true := by simp [Value.isStrOf]
theorem Rel.dict (R : Rel g F ρ σ h) {k : Kd} {i : Nat} {us : List V} {p : Addr × Addr} (e : σ.dct k i = some us) (q : (ρ k)[i]? = some p) :
    p.2 = p.1 ∧ ∃ kvs, h.DictOf (strKind g.prog g.w) p.1 kvs ∧ kvs.map (·.1) = fields k ∧ VsR g F ρ (kvs.map (·.2)) us := R.at_ (dct_get e) q
theorem kvs_at {kvs : List (Str × Value)} {j : Nat} {x : Str} {y : Value} (h1 : (kvs.map (·.1))[j]? = some x) (h2 : (kvs.map (·.2))[j]? = some y) : kvs[j]? = some (x, y) := by
  rw [List.getElem?_map] at h1 h2
  cases q : kvs[j]? with
  | none => rw [q] at h1; cases h1
  | some kv => rw [q] at h1 h2; cases h1; cases h2; rfl
theorem key_ok (R : Rel g F ρ σ s.heap) {a : Value} {k : Kd} {i j : Nat} {us : List V} {z : V} {x : Str} {t : Tok} (ha : VR g F ρ a (.ref k i)) (e : σ.dct k i = some us) (hj : (fields k)[j]? = some x) (hz : us[j]? = some z) :
    Gives g A (getItem a (.str x t)) F ρ σ s z σ := by
  intro Q E hQ
  obtain ⟨p, rfl, q⟩ := ha.ref_inv
  obtain ⟨_, kvs, D, h1, h2⟩ := R.dict e q
  obtain ⟨y, hy, hv⟩ := h2.get hz
  refine wpAny_getItem_of (knd := strKind g.prog g.w) (isStrOf_self x t) D.mapOf (valueAt_of_get ?_ (kvs_at (h1 ▸ hj) hy)) (hQ.tok R hv _)
  rw [h1]; exact fields_nodup k
theorem stored_keys {kvs : List (Str × Value)} {j : Nat} {x : Str} {v : Value} (hj : (kvs.map (·.1))[j]? = some x) : (stored kvs x v).map (·.1) = kvs.map (·.1) := by
  have hm : x ∈ kvs.map (·.1) := List.mem_of_getElem? hj
  obtain ⟨kv, h1, h2⟩ := List.mem_map.mp hm
  have : kvs.any (fun kv => decide (kv.1 = x)) = true := List.any_eq_true.mpr ⟨kv, h1, by simpa using h2⟩
  unfold stored
  rw [if_pos this]
  exact keys_map_store _ _ _
theorem stored_vals {kvs : List (Str × Value)} {j : Nat} {x : Str} {v : Value} (hn : (kvs.map (·.1)).Nodup) (hj : (kvs.map (·.1))[j]? = some x) : (stored kvs x v).map (·.2) = (kvs.map (·.2)).set j v := by
  have hm : x ∈ kvs.map (·.1) := List.mem_of_getElem? hj
  obtain ⟨kv, h1, h2⟩ := List.mem_map.mp hm
  have : kvs.any (fun kv => decide (kv.1 = x)) = true := List.any_eq_true.mpr ⟨kv, h1, by simpa using h2⟩
  unfold stored
  rw [if_pos this]
  clear this h1 h2 hm kv
  induction kvs generalizing j with
  | nil => simp at hj
  | cons kv r ih =>
    rw [List.map_cons, List.nodup_cons] at hn
    cases j with
    | zero =>
      simp only [List.map_cons, List.getElem?_cons_zero, Option.some.injEq] at hj
      subst hj
      simp only [List.map_cons, if_true, List.set_cons_zero]
      rw [map_store_of_not_mem _ _ _ hn.1]
    | succ j =>
      simp only [List.map_cons, List.getElem?_cons_succ] at hj
      have hne : kv.1 ≠ x := fun e => hn.1 (e ▸ List.mem_of_getElem? hj)
      simp only [List.map_cons, if_neg hne, List.set_cons_succ, ih hn.2 hj]
theorem setK_ok (R : Rel g F ρ σ s.heap) {a y : Value} {k : Kd} {i j : Nat} {us : List V} {v : V} {x : Str} {t : Tok} (ha : VR g F ρ a (.ref k i)) (e : σ.dct k i = some us) (hj : (fields k)[j]? = some x) (hy : VR g F ρ y v) :
    GivesU g A (setItem a (.str x t) y) F ρ σ s (σ.setO k i (.dict (us.set j v))) := by
  intro Q E hQ
  obtain ⟨p, rfl, q⟩ := ha.ref_inv
  obtain ⟨hpp, kvs, D, h1, h2⟩ := R.dict e q
  have hl : kvs.length ≤ sizeLine := by
    have := fields_few k; rw [← h1, List.length_map] at this; rw [sizeLine_eq]; lia
  refine wpAny_setItem_pairs (knd := strKind g.prog g.w) (isStrOf_self x t) D (fun h' D' hs => ?_) hl
  obtain ⟨o, es, ep, m1, _⟩ := id D'
  obtain ⟨R', E'⟩ := R.upd (h' := h') (O' := .dict (us.set j v)) (dct_get e) q rfl (fun b o h2 _ e => (hs.2 b h2).trans e) (fun b o e => by
      by_cases z : b = p.1
      · subst z; exact ⟨_, m1⟩
      · exact ⟨o, (hs.2 b z).trans e⟩) ⟨hpp, _, D', (stored_keys (h1 ▸ hj)).trans h1, by rw [stored_vals (h1 ▸ fields_nodup k) (h1 ▸ hj)]; exact h2.set j hy⟩
  exact hQ F ρ h' _ R' E'
end
end Mine
end
section
open PySem PySem.W PyProof.Rows PySem.Calls PySem.SeqAt
namespace Mine
theorem eqT_of {o : Option (List V)} {f : List V → Bool} (h : (match o with | some ys => f ys | Option.none => false) = true) : ∃ ys, o = some ys ∧ f ys = true := by
  cases o with
  | none => exact absurd h Bool.false_ne_true
  | some ys => exact ⟨ys, rfl, h⟩
theorem eqL_eq {n : Nat} (ih : ∀ a b, eqP n a b = true → a = b) : ∀ xs ys, eqLF (eqP n) xs ys = true → xs = ys
  | [], [], _ => rfl
  | [], _ :: _, h => absurd h Bool.false_ne_true
  | _ :: _, [], h => absurd h Bool.false_ne_true
  | x :: xs, y :: ys, h => by rw [ih x y (b1 h), eqL_eq ih xs ys (b2 h)]
theorem eqP_eq : ∀ (n : Nat) (a b : V), eqP n a b = true → a = b := by
  intro n
  induction n with
  | zero => intro a b h; exact absurd h Bool.false_ne_true
  | succ n ih =>
    intro a b h
    cases a with
    | none => exact (isN_of (eq_of_beq h)).elim (fun q => q.1.symm) fun q => absurd q.2.2 (Bool.noConfusion)
    | bool x => exact (bool?_of (eq_of_beq h)).symm
    | int x => exact (int?_of (eq_of_beq h)).symm
    | str x => exact (str?_of (eq_of_beq (b1 h))).symm
    | tup xs =>
      obtain ⟨ys, e, q⟩ := eqT_of h
      rw [tup?_of e, eqL_eq ih _ _ q]
    | lst xs =>
      obtain ⟨ys, e, q⟩ := eqT_of h
      rw [lst?_of e, eqL_eq ih _ _ q]
    | _ => exact absurd h Bool.false_ne_true
mutual
noncomputable def vP : V → PyData
  | .none => .none
  | .bool b => .bool b
  | .int i => .int i
  | .str x => .str x
  | .tup vs => .tuple (vPs vs)
  | .lst vs => .list (vPs vs)
  | _ => .none
noncomputable def vPs : List V → List PyData
  | [] => []
  | d :: ds => vP d :: vPs ds
end
theorem eqP_lay : ∀ (n : Nat) (a : V), eqP n a a = true → (vP a).canLay0 = true ∧ (vP a).depth ≤ n ∧ PyData.eqv (vP a) (vP a) = true := by
  intro n
  induction n with
  | zero => intro a h; exact absurd h Bool.false_ne_true
  | succ n ih =>
    have hl : ∀ xs, eqLF (eqP n) xs xs = true → PyData.canLayAll0 (vPs xs) = true ∧ PyData.depthAll (vPs xs) ≤ n ∧ PyData.eqvAll (vPs xs) (vPs xs) = true := by
      intro xs
      induction xs with
      | nil => intro _; simp [vPs, PyData.canLayAll0, PyData.depthAll, PyData.eqvAll]
      | cons x xs ihx =>
        intro h
        obtain ⟨a1, a2, a3⟩ := ih x (b1 h)
        obtain ⟨b1, b2, b3⟩ := ihx (b2 h)
        simp only [vPs, PyData.canLayAll0, PyData.depthAll, PyData.eqvAll, a1, a3, b1, b3, Bool.and_self, true_and, and_true]
        lia
    intro a h
    cases a with
    | none => simp [vP, PyData.canLay0, PyData.depth, PyData.eqv]
    | bool b => simp [vP, PyData.canLay0, PyData.depth, PyData.eqv]
    | int i => simp [vP, PyData.canLay0, PyData.depth, PyData.eqv]
    | str x => have h := b2 h; simp [vP, PyData.canLay0, PyData.depth, PyData.eqv, h]
    | tup xs =>
      obtain ⟨a1, a2, a3⟩ := hl xs h
      simp only [vP, PyData.canLay0, PyData.depth, PyData.eqv, a1, a3, true_and, and_true]
      lia
    | lst xs =>
      obtain ⟨a1, a2, a3⟩ := hl xs h
      simp only [vP, PyData.canLay0, PyData.depth, PyData.eqv, a1, a3, true_and, and_true]
      lia
    | _ => exact absurd h Bool.false_ne_true
section
variable {g : GG} {F F' : FM} {ρ ρ' : RM} {σ σ' : St} {h h' : Heap} {env : Env} {vs : List Str} {m : List V} {A : Around} {s : Shared} {Q : Value → Shared → Prop} {E : Value → Shared → Prop} {sc : Scope}
theorem reads_all {f : V → Bool} (ih : ∀ (a : V) (y : Value), VR g F ρ y a → f a = true → ∃ as, Reads h y (vP a) as) {p : V → V → Bool} (hp : ∀ a, p a a = f a) : ∀ (xs : List V) (ys : List Value), VsR g F ρ ys xs → eqLF p xs xs = true → ∃ as, ReadsAll h ys (vPs xs) as := by
  intro xs
  induction xs with
  | nil => intro ys q _; exact ⟨_, q.nil_inv ▸ ReadsAll.nil⟩
  | cons x xs ihx =>
    intro ys q h
    obtain ⟨y, t, e, q1, q2⟩ := q.cons_inv
    obtain ⟨as, r1⟩ := ih x _ q1 ((hp x).symm.trans (b1 h))
    obtain ⟨bs, r2⟩ := ihx _ q2 (b2 h)
    exact ⟨_, e ▸ ReadsAll.cons r1 r2⟩
theorem reads_of (R : Rel g F ρ σ h) : ∀ (n : Nat) (a : V) (y : Value), VR g F ρ y a → eqP n a a = true → ∃ as, Reads h y (vP a) as := by
  intro n
  induction n with
  | zero => intro a y _ h; exact absurd h Bool.false_ne_true
  | succ n ih =>
    intro a y q h
    cases q with
    | none => exact ⟨_, .none⟩
    | bool b => exact ⟨_, .bool b⟩
    | int i t => exact ⟨_, .int i t⟩
    | str x t => exact ⟨_, .str x t⟩
    | tup q1 q2 q3 =>
      obtain ⟨as, r⟩ := reads_all ih (fun _ => rfl) _ _ q2 h
      exact ⟨_, reads_tuple_at (R.frz _ _ q1) rfl rfl r⟩
    | lst q1 q2 q3 =>
      obtain ⟨as, r⟩ := reads_all ih (fun _ => rfl) _ _ q2 h
      exact ⟨_, reads_list_at (R.frz _ _ q1) rfl rfl r⟩
    | _ => exact absurd h Bool.false_ne_true
theorem reads_ofD (R : Rel g F ρ σ h) (n : Nat) (a : V) (y : Value) (q : VD g F ρ h y a) (e : eqP n a a = true) : ∃ as, Reads h y (vP a) as := by
  rcases q with q | ⟨b, xs, k, us, rfl, rfl, h1, h2, h3⟩
  · exact reads_of R n a y q e
  · cases n with
    | zero => exact absurd e Bool.false_ne_true
    | succ n =>
      obtain ⟨as, r⟩ := reads_all (reads_of R n) (fun _ => rfl) _ _ h2 e
      exact ⟨_, reads_list_at h1 rfl rfl r⟩
theorem shaped_of {n : Nat} {a : V} (e : eqP n a a = true) (hn : n ≤ 64) : SeqAt.shaped (vP a) = true := by
  obtain ⟨h1, h2, _⟩ := eqP_lay n a e
  unfold SeqAt.shaped
  rw [h1, Bool.true_and]; exact decide_eq_true (by lia)
noncomputable def EqT (g : GG) (A : Around) (s : Shared) (a b : Value) (c : Bool) : Prop :=
  (∀ Q E, Q (.bool c) s → wpAny (model g.prog g.w) A (compareOp .Eq a b) Q E s) ∧ ∀ Q E, Q (.bool (!c)) s → wpAny (model g.prog g.w) A (compareOp .NotEq a b) Q E s
theorem EqT.reads {a b : Value} {dx dy : PyData} {as bs : List Addr} {c : Bool} (hu : A.units + 64 < cLine) (r1 : Reads s.heap a dx as) (r2 : Reads s.heap b dy bs) (h1 : SeqAt.shaped dx = true) (h2 : SeqAt.shaped dy = true) (h3 : PyData.eqv dx dy = c) : EqT g A s a b c :=
  ⟨fun _ _ hQ => eq_dataH r1 r2 h1 h2 hu (h3.symm ▸ hQ), fun _ _ hQ => ne_dataH r1 r2 h1 h2 hu (h3.symm ▸ hQ)⟩
theorem EqT.dat {a b : Value} {x y : V} {c : Bool} (hu : A.units + 64 < cLine) (R : Rel g F ρ σ s.heap) (ha : VD g F ρ s.heap a x) (hb : VD g F ρ s.heap b y) (e : (if eqP 30 x y = true then some true else Option.none) = some c) : EqT g A s a b c := by
  obtain ⟨q, e⟩ := if_of e
  have h := eqP_eq _ _ _ q
  rw [← h] at q hb
  obtain ⟨as, r1⟩ := reads_ofD R _ _ _ ha q
  obtain ⟨bs, r2⟩ := reads_ofD R _ _ _ hb q
  exact .reads hu r1 r2 (shaped_of q (by decide)) (shaped_of q (by decide)) ((eqP_lay _ _ q).2.2.trans (Option.some.inj e))
theorem EqT.none {a b : Value} {y : V} {c : Bool} (hu : A.units + 64 < cLine) (ha : VD g F ρ s.heap a .none) (hb : VD g F ρ s.heap b y) (e : (y.isN.bind fun c => if c = true then some true else Option.none) = some c) : EqT g A s a b c := by
  obtain ⟨c', e1, e⟩ := Option.bind_eq_some_iff.mp e
  obtain ⟨e2, e⟩ := if_of e
  rcases isN_of e1 with ⟨rfl, _⟩ | ⟨_, _, h⟩
  · rw [← Option.some.inj e, ha.none_inv, hb.none_inv]
    exact .reads hu .none .none rfl rfl (by simp [PyData.eqv])
  · exact absurd (e2.symm.trans h) Bool.noConfusion
theorem EqT.bool {a b : Value} {x : Bool} {y : V} {c : Bool} (hu : A.units + 64 < cLine) (ha : VD g F ρ s.heap a (.bool x)) (hb : VD g F ρ s.heap b y) (e : (y.bool?.bind fun y => some (x == y)) = some c) : EqT g A s a b c := by
  obtain ⟨y', e1, e⟩ := Option.bind_eq_some_iff.mp e
  rw [bool?_of e1] at hb
  rw [ha.bool_inv, hb.bool_inv]
  exact .reads hu (.bool _) (.bool _) rfl rfl ((by simp [PyData.eqv] : PyData.eqv (.bool x) (.bool y') = (x == y')).trans (Option.some.inj e))
theorem EqT.int {a b : Value} {x : Int} {y : V} {c : Bool} (hu : A.units + 64 < cLine) (ha : VD g F ρ s.heap a (.int x)) (hb : VD g F ρ s.heap b y) (e : (y.int?.bind fun y => some (x == y)) = some c) : EqT g A s a b c := by
  obtain ⟨y', e1, e⟩ := Option.bind_eq_some_iff.mp e
  rw [int?_of e1] at hb
  obtain ⟨t, e1⟩ := ha.int_inv
  obtain ⟨u, e2⟩ := hb.int_inv
  rw [e1, e2]
  exact .reads hu (.int _ _) (.int _ _) rfl rfl ((by simp [PyData.eqv] : PyData.eqv (.int x) (.int y') = (x == y')).trans (Option.some.inj e))
theorem EqT.str {a b : Value} {x : Str} {y : V} {c : Bool} (ha : VD g F ρ s.heap a (.str x)) (hb : VD g F ρ s.heap b y) (e : (y.str?.bind fun y => some (x == y)) = some c) : EqT g A s a b c := by
  obtain ⟨y', e1, e⟩ := Option.bind_eq_some_iff.mp e
  rw [str?_of e1] at hb
  obtain ⟨t, e1⟩ := ha.str_inv
  obtain ⟨u, e2⟩ := hb.str_inv
  rw [e1, e2, ← Option.some.inj e]
  exact ⟨fun _ _ hQ => PyProof.Rows.eq_str hQ, fun _ _ hQ => PyProof.Rows.ne_str hQ⟩
theorem EqT.lens {a b : Value} {x y : List V} (hu : A.units + 64 < cLine) (R : Rel g F ρ σ s.heap) (ha : VD g F ρ s.heap a (.lst x)) (hb : VD g F ρ s.heap b (.lst y)) (hl : x.length ≠ y.length) : EqT g A s a b false := by
  obtain ⟨a1, xs, n, e1, q1, q2, _⟩ := VD.lst_inv R ha
  obtain ⟨a2, ys, n', e2, r1, r2, _⟩ := VD.lst_inv R hb
  have hsz : (xs.toArray.size != ys.toArray.size) = true := by
    rw [List.size_toArray, List.size_toArray, q2.length, r2.length]; exact bne_iff_ne.mpr hl
  have hu : A.units < cLine := Nat.lt_of_le_of_lt (Nat.le_add_right _ _) hu
  rw [e1, e2]
  exact ⟨fun Q E hQ => RcAt.lists_lengths ⟨_, q1, rfl, _, rfl⟩ ⟨_, r1, rfl, _, rfl⟩ hsz hu g.prog g.w E Q hQ,
    fun Q E hQ => RcNeAt.lists_lengths ⟨_, q1, rfl, _, rfl⟩ ⟨_, r1, rfl, _, rfl⟩ hsz hu g.prog g.w E Q hQ⟩
theorem peq_ok {x y : V} {a b : Value} {c : Bool} (hu : A.units + 64 < cLine) (R : Rel g F ρ σ s.heap) (ha : VD g F ρ s.heap a x) (hb : VD g F ρ s.heap b y) (e : peq x y = some c) : EqT g A s a b c := by
  cases x with
  | none => exact .none hu ha hb e
  | bool x => exact .bool hu ha hb e
  | int x => exact .int hu ha hb e
  | str x => exact .str ha hb e
  | tup x =>
    obtain ⟨y', e1, e⟩ := Option.bind_eq_some_iff.mp e
    exact .dat hu R ha (tup?_of e1 ▸ hb) e
  | lst x =>
    obtain ⟨y', e1, e⟩ := Option.bind_eq_some_iff.mp e
    have hb := lst?_of e1 ▸ hb
    by_cases hl : x.length = y'.length
    · exact .dat hu R ha hb ((if_neg (fun h => h hl)).symm.trans e)
    · rw [← Option.some.inj ((if_pos hl).symm.trans e)]
      exact .lens hu R ha hb hl
  | _ => exact ns e
theorem VD.not_none {y : Value} {x : V} (ha : VD g F ρ h y x) (h1 : x ≠ .none) (h2 : x ≠ .undef) : y ≠ .none := by
  rintro rfl
  rcases ha with ha | ⟨_, _, _, _, e, _⟩
  · cases ha; exact h1 rfl
  · cases e
theorem VD.num {y : Value} {x : V} {p : Int} (ha : VD g F ρ h y x) (e : x.int? = some p) : ∃ t, y = .int p t := by
  have := int?_of e; subst this
  exact ha.int_inv
theorem VD.nums {a b : Value} {x y : V} {f : Int → Int → Bool} {c : Bool} (ha : VD g F ρ h a x) (hb : VD g F ρ h b y) (e : ((x.int?).bind fun p => (y.int?).bind fun q => some (f p q)) = some c) : ∃ p q t u, a = .int p t ∧ b = .int q u ∧ c = f p q := by
  obtain ⟨p, e1, e⟩ := Option.bind_eq_some_iff.mp e
  obtain ⟨q, e2, e⟩ := Option.bind_eq_some_iff.mp e
  obtain ⟨t, q1⟩ := ha.num e1
  obtain ⟨u, q2⟩ := hb.num e2
  exact ⟨p, q, t, u, q1, q2, (Option.some.inj e).symm⟩
theorem VD.isN {y : Value} {x : V} {c : Bool} (ha : VD g F ρ h y x) (e : x.isN = some c) : (y = .none ∧ c = true) ∨ (y ≠ .none ∧ c = false) := by
  rcases isN_of e with ⟨rfl, rfl⟩ | ⟨h1, h2, rfl⟩
  · exact .inl ⟨ha.none_inv, rfl⟩
  · exact .inr ⟨ha.not_none h1 h2, rfl⟩
theorem noneB_of {y : V} {o : Option Bool} {c : Bool} (h : (match y with | .none => o | _ => Option.none) = some c) : y = .none ∧ o = some c := by
  cases y with
  | none => exact ⟨rfl, h⟩
  | _ => exact ns h
theorem cmp_up (C : ∀ k, isInstKd k = true → ClsOk g k) {k : Kd} {i : Nat} {y : V} {c : Bool} {a b : Value} {Q : Value → Shared → Prop} (hu : A.units + 64 < cLine) (R : Rel g F ρ σ s.heap) (ha : VD g F ρ s.heap a (.ref k i)) (hb : VD g F ρ s.heap b y) (e : cmpop σ .Eq (.ref k i) y = some c) (hQ : Q (.bool c) s) :
    wpAny (model g.prog g.w) A (compareOp .Eq a b) Q E s := by
  obtain ⟨k', j, rfl, q⟩ := refl_of (f := fun k' j => if k = .upval ∧ k' = .upval ∧ (σ.ins .upval i).isSome ∧ (σ.ins .upval j).isSome then some (i == j) else Option.none) e
  obtain ⟨⟨rfl, rfl, q1, q2⟩, q5⟩ := if_of q
  cases q5
  obtain ⟨p, rfl, hp⟩ := ha.ref_inv
  obtain ⟨p', rfl, hp'⟩ := hb.ref_inv
  obtain ⟨us, e1⟩ := Option.isSome_iff_exists.mp q1
  obtain ⟨us', e2⟩ := Option.isSome_iff_exists.mp q2
  obtain ⟨es, n, I, _⟩ := R.inst e1 hp
  obtain ⟨es', n', I', _⟩ := R.inst e2 hp'
  have c := C .upval rfl
  refine eqInst R.K I I' c.eq c.sub (by lia) ?_
  have hpp : (p.1 == p'.1) = (i == j) := by
    by_cases hij : i = j
    · subst hij; rw [hp] at hp'; cases hp'; rw [beq_self_eq_true, beq_self_eq_true]
    · refine (beq_eq_false_iff_ne.mpr fun hh => hij ?_).trans (beq_eq_false_iff_ne.mpr hij).symm
      exact (R.sep .upval i .upval j p.1 ⟨_, p, ins_get e1, rfl, hp, .inl rfl⟩ ⟨_, p', ins_get e2, rfl, hp', .inl hh⟩).2
  rw [hpp]
  exact hQ
theorem cmp_in {x y : V} {c : Bool} {a b : Value} {Q : Value → Shared → Prop} (hu : A.units + 64 < cLine) (R : Rel g F ρ σ s.heap) (ha : VD g F ρ s.heap a x) (hb : VD g F ρ s.heap b y) (e : cmpop σ .In x y = some c) (hQ : Q (.bool c) s) :
    wpAny (model g.prog g.w) A (compareOp .In a b) Q E s := by
  obtain ⟨x, e0, e⟩ := Option.bind_eq_some_iff.mp e
  obtain ⟨l, e1, e⟩ := Option.bind_eq_some_iff.mp e
  obtain ⟨u, v, e2, e⟩ := bind_of e
  obtain ⟨y, h3, e⟩ := Option.bind_eq_some_iff.mp e
  obtain ⟨z, h4, e⟩ := Option.bind_eq_some_iff.mp e
  cases e
  rw [tup?_of e1, pair_of e2, int?_of h3, int?_of h4] at hb
  obtain ⟨t, rfl⟩ := ha.num e0
  obtain ⟨a2, ys, n', rfl, r1, r2, r3⟩ := VD.tup_inv R hb
  clear ha hb e0 e1 e2 h3 h4
  · obtain ⟨v1, v2, rfl, h1, h2⟩ := r2.pair
    · obtain ⟨t1, rfl⟩ := h1.int_inv
      obtain ⟨t2, rfl⟩ := h2.int_inv
      refine in_tuple_reads (xs := [.int y, .int z]) (d := .int x) (reads_tuple_at r1 rfl rfl (ReadsAll.cons (Reads.int _ _) (ReadsAll.cons (Reads.int _ _) .nil))) (Reads.int _ _) (by simp [PyData.canLayAll0, PyData.canLay0]) (by simp [PyData.canLay0]) (by simp [PyData.depth]; lia) ?_
      have : (List.any [PyData.int y, PyData.int z] fun w => w.eqv (.int x)) = (x == y || x == z) := by
        simp [PyData.eqv, Bool.beq_comm]
      rw [this]
      exact hQ
theorem nums_ok {op : CmpOp} {f : Int → Int → Bool} {x y : V} {c : Bool} {a b : Value} {Q : Value → Shared → Prop} (hop : ∀ p q t u, Q (.bool (f p q)) s → wpAny (model g.prog g.w) A (compareOp op (.int p t) (.int q u)) Q E s)
    (ha : VD g F ρ s.heap a x) (hb : VD g F ρ s.heap b y) (e : ((x.int?).bind fun p => (y.int?).bind fun q => some (f p q)) = some c) (hQ : Q (.bool c) s) : wpAny (model g.prog g.w) A (compareOp op a b) Q E s := by
  obtain ⟨p, q, t, u, e1, e2, e3⟩ := ha.nums hb e
  rw [e1, e2]
  exact hop p q t u (e3 ▸ hQ)
theorem is_ok {x : V} {c : Bool} {a : Value} {Q : Value → Shared → Prop} (ha : VD g F ρ s.heap a x) (e : x.isN = some c) :
    (Q (.bool c) s → wpAny (model g.prog g.w) A (compareOp .Is a .none) Q E s) ∧ (Q (.bool (!c)) s → wpAny (model g.prog g.w) A (compareOp .IsNot a .none) Q E s) := by
  rcases ha.isN e with ⟨h1, h2⟩ | ⟨h1, h2⟩
  · rw [h1, h2]; exact ⟨is_none_none, isnot_none_none⟩
  · rw [h2]; exact ⟨is_none_ne h1, isnot_none_ne h1⟩
theorem cmpop_ok (C : ∀ k, isInstKd k = true → ClsOk g k) {op : CmpOp} {x y : V} {c : Bool} {a b : Value} (hu : A.units + 64 < cLine) (R : Rel g F ρ σ s.heap) (ha : VD g F ρ s.heap a x) (hb : VD g F ρ s.heap b y) (e : cmpop σ op x y = some c) :
    Gives g A (compareOp op a b) F ρ σ s (.bool c) σ := by
  intro Q E hQ
  have hQ : Q (.bool c) s := hQ.same R (.bool _)
  cases op with
  | Eq =>
    cases x with
    | ref k i => exact cmp_up C hu R ha hb e hQ
    | _ => exact (peq_ok hu R ha hb e).1 Q E hQ
  | NotEq =>
    obtain ⟨d, q, e⟩ := Option.bind_eq_some_iff.mp e
    exact (peq_ok hu R ha hb q).2 Q E (Option.some.inj e ▸ hQ)
  | Lt => exact nums_ok (fun _ _ _ _ h => PyProof.Rows.lt_int h) ha hb e hQ
  | LtE => exact nums_ok (fun _ _ _ _ h => PyProof.Rows.le_int h) ha hb e hQ
  | Gt => exact nums_ok (fun _ _ _ _ h => PyProof.Rows.gt_int h) ha hb e hQ
  | GtE => exact nums_ok (fun _ _ _ _ h => PyProof.Rows.ge_int h) ha hb e hQ
  | Is =>
    obtain ⟨e1, e⟩ := noneB_of e
    rw [(e1 ▸ hb : VD g F ρ s.heap b .none).none_inv]
    exact (is_ok ha e).1 hQ
  | IsNot =>
    obtain ⟨e1, e⟩ := noneB_of e
    rw [(e1 ▸ hb : VD g F ρ s.heap b .none).none_inv]
    obtain ⟨c', e1, e⟩ := Option.bind_eq_some_iff.mp e
    exact (is_ok ha e1).2 (Option.some.inj e ▸ hQ)
  | In => exact cmp_in hu R ha hb e hQ
  | _ => exact ns e
end
end Mine
end
section
open PySem PySem.W PyProof.Rows PySem.Calls PySem.SeqAt
namespace Mine
section
variable {g : GG} {F F' : FM} {ρ ρ' : RM} {σ σ' : St} {h h' : Heap} {env : Env} {vs : List Str} {m : List V} {A : Around} {s : Shared} {Q : Value → Shared → Prop} {E : Value → Shared → Prop} {sc : Scope}
theorem place_spec {n : Nat} {i : Int} {j : Nat} (h : place n i = some j) : (0 ≤ i ∧ i < n ∧ j = i.toNat) ∨ (i < 0 ∧ -(n : Int) ≤ i ∧ j = (i + n).toNat) := by
  unfold place at h
  split at h
  · rename_i q; cases h; exact .inl ⟨q.1, q.2, rfl⟩
  · split at h
    · rename_i q; cases h; exact .inr ⟨q.1, q.2, by congr 1; lia⟩
    · cases h
theorem idx_ok (R : Rel g F ρ σ s.heap) {y : Value} {x z : V} {us : List V} {n : Int} {t : Tok} {j : Nat} (hy : VR g F ρ y x) (e : items σ x = some us) (hp : place us.length n = some j) (hz : us[j]? = some z) :
    Gives g A (getItem y (.int n t)) F ρ σ s z σ := by
  intro Q E hQ
  obtain ⟨a, xs, k, rfl, q1, q2, q3⟩ := R.items hy e
  obtain ⟨v, hv, hvr⟩ := q1.get hz
  have hlen := q1.length
  have hx : xs.toArray[j]? = some v := by simpa using hv
  unfold LIM at q2
  rcases q3 with q3 | q3
  · rcases place_spec hp with ⟨h1, h2, rfl⟩ | ⟨h1, h2, rfl⟩
    · exact wpAny_getItem_list ⟨_, q3, rfl, _, rfl⟩ h1 (by lia) hx (hQ.same R hvr)
    · refine wpAny_getItem_list_neg (items := xs.toArray) ⟨_, q3, rfl, _, rfl⟩ h1 (by simp only [List.size_toArray]; lia) (by lia) ?_ (hQ.same R hvr)
      rw [show (n + (xs.toArray.size : Int)).toNat = (n + (us.length : Int)).toNat by simp only [List.size_toArray]; lia]
      exact hx
  · refine PySem.P.getItem_tuple (items := xs.toArray) q3 ?_ ?_ (k := j) ?_ hx (hQ.same R hvr)
    · rcases place_spec hp with ⟨h1, h2, rfl⟩ | ⟨h1, h2, rfl⟩ <;> lia
    · rcases place_spec hp with ⟨h1, h2, rfl⟩ | ⟨h1, h2, rfl⟩ <;> lia
    · unfold seqIndex?
      simp only [List.size_toArray, hlen]
      rcases place_spec hp with ⟨h1, h2, rfl⟩ | ⟨h1, h2, rfl⟩
      · have : ¬ n < 0 := by lia
        simp [this]; lia
      · simp [h1]; lia
theorem Rel.updL (R : Rel g F ρ σ h) {k : Kd} {i : Nat} {us us' : List V} {p : Addr × Addr} {f : Array Value → Array Value} {xs xs' : List Value} {n : Nat} (e : σ.lst k i = some us) (q : (ρ k)[i]? = some p)
    (hx : h.get? p.1 = some (listO xs n)) (hf : f xs.toArray = xs'.toArray) (hv : VsR g F ρ xs' us') (hl : us'.length ≤ LIM) :
    Rel g F ρ (σ.setO k i (.list us')) (h.update p.1 (Obj.mapSeq f)) ∧ Ev NoX F ρ σ h F ρ (σ.setO k i (.list us')) (h.update p.1 (Obj.mapSeq f)) := by
  have hpp := (R.at_ (lst_get e) q).1
  have U := IsL.update hx f
  have S := Heap.SameBut.update h p.1 (Obj.mapSeq f)
  refine R.upd (O' := .list us') (lst_get e) q rfl (fun b o h2 _ e => (S.2 b h2).trans e) (fun b o e => ?_) ⟨hpp, xs', _, (hf ▸ U), hv, hl⟩
  by_cases z : b = p.1
  · subst z; exact ⟨_, U⟩
  · exact ⟨o, (S.2 b z).trans e⟩
theorem Rel.lst (R : Rel g F ρ σ h) {k : Kd} {i : Nat} {us : List V} {y : Value} (hy : VR g F ρ y (.ref k i)) (e : σ.lst k i = some us) :
    ∃ p xs n, y = .ref p.1 ∧ (ρ k)[i]? = some p ∧ h.get? p.1 = some (listO xs n) ∧ VsR g F ρ xs us ∧ us.length ≤ LIM := by
  obtain ⟨p, rfl, q⟩ := hy.ref_inv
  obtain ⟨_, xs, n, q1, q2, q3⟩ := R.at_ (lst_get e) q
  exact ⟨p, xs, n, rfl, q, q1, q2, q3⟩
theorem setIdx {prog : Program} {w : World} {l : Addr} {items : Array Value} {ne : Nat} {k : Int} {t : Tok} {v : Value} {Q : Unit → Shared → Prop} (ho : s.heap.get? l = some { cls := .type "list", dict := Option.none, data := .seq items ne, slots := #[] })
    (h0 : 0 ≤ k) (hfit : k < 2 ^ 63) (hn : k < items.size)
    (hQ : Q () { s with heap := s.heap.update l (Obj.mapSeq (·.setIfInBounds k.toNat v)) }) :
    wpAny (model prog w) A (setItem (.ref l) (.int k t) v) Q E s := by
  have hl : s.heap.IsList l items := ⟨_, ho, rfl, _, rfl⟩
  have hd : (({ cls := .type "list", dict := Option.none, data := .seq items ne, slots := #[] } : Obj)).data = .seq items ne := rfl
  unfold setItem
  try with_reducible refine wpAny_holding ?_
  first | refine wpAny_bind (wpAny_pure ?_) | skip
  refine wpAny_bind (wpAny_sequenceKey hl.typeIs (by decide) ?_)
  refine wpAny_bind (wpAny_callSpecial?_slot (name := Str.ofString "__setitem__") hl.typeIs slot_list_setitem
    (wpAny_call_entry slot_list_setitem hl.typeIs entry_list_setitem ?_ (args_list_setitem _ _ _)))
  show wpAny _ _ (Builtin.List.listSubscript? (.int k t) >>= _) _ _ s
  refine wpAny_bind (wpAny_listSubscript_int (fitsIndex_of h0 hfit) ?_)
  clear hfit
  obtain ⟨j, rfl⟩ := Int.eq_ofNat_of_zero_le h0
  have hj : j < items.size := by lia
  have hx' : items[j]? = some items[j] := Array.getElem?_eq_getElem hj
  show wpAny _ _ ((seqItemAt l j >>= fun r => pure (r.map (j, ·))) >>= _) _ _ s
  refine wpAny_bind (wpAny_bind (wpAny_seqItemAt ho hd (wpAny_pure ?_)))
  rw [hx']
  show wpAny _ _ (setSeqItemAt l j v >>= _) _ _ s
  refine wpAny_bind (wpAny_setSeqItemAt ho hd ?_)
  first
    | exact wpAny_bind (wpAny_pure (wpAny_pure ⟨.none, rfl, wpAny_pure hQ⟩))
    | exact wpAny_pure ⟨.none, rfl, wpAny_pure hQ⟩
theorem setI_ok (R : Rel g F ρ σ s.heap) {a y : Value} {k : Kd} {i : Nat} {us : List V} {v : V} {n : Int} {t : Tok} (ha : VR g F ρ a (.ref k i)) (e : σ.lst k i = some us) (h0 : 0 ≤ n) (hn : n < us.length) (hy : VR g F ρ y v) :
    GivesU g A (setItem a (.int n t) y) F ρ σ s (σ.setO k i (.list (us.set n.toNat v))) := by
  intro Q E hQ
  obtain ⟨p, xs, c, rfl, q, q1, q2, q3⟩ := R.lst ha e
  have hlen := q2.length
  unfold LIM at q3
  refine setIdx q1 h0 (by lia) (by simp only [List.size_toArray]; lia) ?_
  obtain ⟨R', E'⟩ := R.updL (f := (·.setIfInBounds n.toNat y)) e q q1 (xs' := xs.set n.toNat y) (by simp) (q2.set n.toNat hy) (by simp only [List.length_set]; unfold LIM; lia)
  exact hQ F ρ _ s.toks R' E'
theorem appendC_ok {x : Sem Value} {a : Value} {k : Kd} {i : Nat} {us : List V} {v : V} {pos : Pos} (R : Rel g F ρ σ s.heap) (ha : VR g F ρ a (.ref k i)) {σ₁ : St} (hx : Gives g A x F ρ σ s v σ₁) (e : σ₁.lst k i = some us) (hl : us.length + 1 ≤ LIM) :
    Gives g A (callWith pos (.builtin "list.append") [a] [(false, x)] []) F ρ σ s .none (σ₁.setO k i (.list (us ++ [v]))) := by
  intro Q E hQ
  obtain ⟨p, rfl, q⟩ := ha.ref_inv
  refine PySem.P.append_list (hx _ _ fun y F₁ ρ₁ h₁ tk R₁ E₁ hy => ?_)
  have q' := E₁.pre _ _ _ q
  obtain ⟨_, xs, c, q1, q2, q3⟩ := R₁.at_ (lst_get e) q'
  have hlen := q2.length
  refine ⟨xs.toArray, c, by rw [List.size_toArray, hlen, sizeLine_eq]; unfold LIM at q3; lia, q1, ?_⟩
  obtain ⟨R', E'⟩ := R₁.updL (f := fun xs => xs.push y) e q' q1 (xs' := xs ++ [y]) (by simp) (q2.append (.single hy)) (by simpa using hl)
  exact hQ _ F₁ ρ₁ _ tk R' (E₁.trans E') .none
theorem extendC_ok {x : Sem Value} {a : Value} {k : Kd} {i : Nat} {us ws : List V} {pos : Pos} (R : Rel g F ρ σ s.heap) (ha : VR g F ρ a (.ref k i)) {σ₁ : St} (hx : Gives g A x F ρ σ s (.lst ws) σ₁) (e : σ₁.lst k i = some us) (hl : us.length + ws.length ≤ LIM) :
    Gives g A (callWith pos (.builtin "list.extend") [a] [(false, x)] []) F ρ σ s .none (σ₁.setO k i (.list (us ++ ws))) := by
  intro Q E hQ
  obtain ⟨p, rfl, q⟩ := ha.ref_inv
  refine PySem.P.extend_list (hx _ _ fun y F₁ ρ₁ h₁ tk R₁ E₁ hy => ?_)
  have q' := E₁.pre _ _ _ q
  obtain ⟨_, xs, c, q1, q2, q3⟩ := R₁.at_ (lst_get e) q'
  obtain ⟨b, ys, c', rfl, r1, r2, r3⟩ := hy.lst_inv
  have hlen := q2.length
  have hlen' := r2.length
  have hb := R₁.frz _ _ r1
  have e1 : xs.toArray.size = us.length := by simpa using hlen
  have e2 : ys.toArray.size = ws.length := by simpa using hlen'
  refine ⟨b, xs.toArray, ys.toArray, c, c', ?_, ?_, ?_, rfl, q1, hb, ?_⟩
  · rw [e1, sizeLine_eq]; unfold LIM at q3; lia
  · rw [e1, e2, sizeLine_eq]; unfold LIM at hl; lia
  · rw [e1, e2]; simp [Builtin.List.listTooLong, sizeLine_eq]; intro _; unfold LIM at hl; lia
  · obtain ⟨R', E'⟩ := R₁.updL (f := fun xs => xs ++ ys.toArray) e q' q1 (xs' := xs ++ ys) (by simp) (q2.append r2) (by simpa using hl)
    exact hQ _ F₁ ρ₁ _ tk R' (E₁.trans E') .none
theorem popC_ok {a : Value} {k : Kd} {i : Nat} {us : List V} {v : V} {pos : Pos} (R : Rel g F ρ σ s.heap) (ha : VR g F ρ a (.ref k i)) (e : σ.lst k i = some us) (hl : us.getLast? = some v) :
    Gives g A (callWith pos (.builtin "list.pop") [a] [] []) F ρ σ s v (σ.setO k i (.list us.dropLast)) := by
  intro Q E hQ
  obtain ⟨p, xs, c, rfl, q, q1, q2, q3⟩ := R.lst ha e
  have hlen := q2.length
  have hv : us[us.length - 1]? = some v := by rw [List.getLast?_eq_getElem?] at hl; exact hl
  obtain ⟨y, hy, hyv⟩ := q2.get hv
  refine PySem.P.pop_list (items := xs.toArray) (y := y) q1 (by simp only [List.size_toArray, hlen]; simpa using hy) ?_ (by rw [List.size_toArray, hlen, sizeLine_eq]; unfold LIM at q3; lia)
  obtain ⟨R', E'⟩ := R.updL (us' := us.dropLast) (f := fun zs => zs.eraseIdxIfInBounds (xs.toArray.size - 1)) e q q1 (xs' := xs.take (us.length - 1)) (by
      simp only [List.size_toArray, hlen]
      apply Array.ext'
      simp [Array.eraseIdxIfInBounds]
      split
      · rw [List.eraseIdx_eq_take_drop_succ]; simp [← hlen]
        try omega
      · rename_i z; simp at z
        have : xs = [] := List.eq_nil_of_length_eq_zero (by lia)
        subst this; simp) (by rw [List.dropLast_eq_take]; exact q2.take _) (by rw [List.length_dropLast]; lia)
  exact hQ _ F ρ _ s.toks R' E' hyv
theorem pop0C_ok {a : Value} {k : Kd} {i : Nat} {us : List V} {v : V} {pos : Pos} {x : Sem Value} (R : Rel g F ρ σ s.heap) (ha : VR g F ρ a (.ref k i)) (hx : Gives g A x F ρ σ s (.int 0) σ) (e : σ.lst k i = some (v :: us)) :
    Gives g A (callWith pos (.builtin "list.pop") [a] [(false, x)] []) F ρ σ s v (σ.setO k i (.list us)) := by
  intro Q E hQ
  obtain ⟨p, rfl, q⟩ := ha.ref_inv
  refine PySem.P.pop_at_list (hx _ _ fun y F₁ ρ₁ h₁ tk R₁ E₁ hy => ?_)
  have q' := E₁.pre _ _ _ q
  obtain ⟨_, xs, c, q1, q2, q3⟩ := R₁.at_ (lst_get e) q'
  obtain ⟨t, rfl⟩ := hy.int_inv
  cases q2 with
  | cons h1 h2 =>
    rename_i y0 ys
    have hlen := h2.length
    refine ⟨(y0 :: ys).toArray, c, 0, t, 0, y0, by simp only [List.size_toArray, List.length_cons, hlen, sizeLine_eq]; unfold LIM at q3; simp at q3; lia, rfl, q1, by decide, by simp [seqIndex?], by simp, ?_⟩
    obtain ⟨R', E'⟩ := R₁.updL (f := fun zs => zs.eraseIdxIfInBounds 0) e q' q1 (xs' := ys) (by apply Array.ext'; simp [Array.eraseIdxIfInBounds]) h2 (by simp at q3; lia)
    exact hQ _ F₁ ρ₁ _ tk R' (E₁.trans E') h1
theorem insertC_ok {a : Value} {k : Kd} {i : Nat} {us : List V} {v : V} {n : Int} {pos : Pos} {x x' : Sem Value} (R : Rel g F ρ σ s.heap) (ha : VR g F ρ a (.ref k i)) {σ₁ σ₂ : St} (hx : Gives g A x F ρ σ s (.int n) σ₁)
    (hx' : ∀ F₁ ρ₁ h₁ tk, Rel g F₁ ρ₁ σ₁ h₁ → Ev NoX F ρ σ s.heap F₁ ρ₁ σ₁ h₁ → Gives g A x' F₁ ρ₁ σ₁ { s with heap := h₁, toks := tk } v σ₂) (e : σ₂.lst k i = some us) (h0 : 0 ≤ n) (hn : n ≤ us.length) (hl : us.length + 1 ≤ LIM) :
    Gives g A (callWith pos (.builtin "list.insert") [a] [(false, x), (false, x')] []) F ρ σ s .none (σ₂.setO k i (.list (us.take n.toNat ++ v :: us.drop n.toNat))) := by
  intro Q E hQ
  obtain ⟨p, rfl, q⟩ := ha.ref_inv
  refine method_meets PySem.F.slot_list_insert PySem.F.entry_list_insert rfl (Calls.evalArgs_plain (Calls.spliced_cons (hx _ _ fun y F₁ ρ₁ h₁ tk R₁ E₁ hy => Calls.spliced_cons (hx' _ _ _ _ R₁ E₁ _ _ fun z F₂ ρ₂ h₂ tk₂ R₂ E₂ hz => Calls.spliced_nil ?_))))
  have q' := E₂.pre _ _ _ (E₁.pre _ _ _ q)
  obtain ⟨_, xs, c, q1, q2, q3⟩ := R₂.at_ (lst_get e) q'
  obtain ⟨t, rfl⟩ := hy.int_inv
  have hlen := q2.length
  have e1 : xs.toArray.size = us.length := by simpa using hlen
  refine ⟨rfl, ⟨_, q1, rfl⟩, PySem.F.args_list_insert_3 _ _ _, _, AutoSeq1.list_insert_list_int_val_1 p.1 xs.toArray c n t z (by simp [Builtin.List.listFitsIndex]; unfold LIM at q3; lia) (by rw [e1, sizeLine_eq]; unfold LIM at q3; lia), q1, ?_⟩
  obtain ⟨R', E'⟩ := R₂.updL (f := fun xs => have k := if n < 0 then (n + (xs.size : Int)).toNat else min n.toNat xs.size; (xs.extract 0 k).push z ++ xs.extract k) e q' q1 (xs' := xs.take n.toNat ++ z :: xs.drop n.toNat) (by
      have h1 : ¬ n < 0 := by lia
      simp only [h1, if_false, e1]
      rw [Nat.min_eq_left (by lia)]
      apply Array.ext'
      simp
      exact List.take_of_length_le (by simp; lia)) ((q2.take _).append (.cons hz (q2.drop _))) (by simp; lia)
  exact hQ _ F₂ ρ₂ _ tk₂ R' ((E₁.trans E₂).trans E') .none
theorem len_ok (R : Rel g F ρ σ s.heap) {y : Value} {x : V} {us : List V} (hy : VR g F ρ y x) (e : items σ x = some us) : Gives g A (call (.builtin "len") [y]) F ρ σ s (.int us.length) σ := by
  intro Q E hQ
  obtain ⟨a, xs, k, rfl, q1, q2, q3⟩ := R.items hy e
  have hlen := q1.length
  unfold LIM at q2
  have e1 : (xs.toArray.size : Int) = us.length := by simp [hlen]
  rcases q3 with q3 | q3
  · refine PyProof.Rows.len_list (items := xs.toArray) ⟨_, q3, rfl, _, rfl⟩ (by lia) ?_
    rw [e1]; exact hQ.tok R (.int _ _) _
  · refine PySem.P.len_tuple (items := xs.toArray) q3 (by lia) ?_
    rw [e1]; exact hQ.tok R (.int _ _) _
theorem min_ok (hh : A.handled = Option.none) (R : Rel g F ρ σ s.heap) {x y : Value} {p q : Int} (hx : VR g F ρ x (.int p)) (hy : VR g F ρ y (.int q)) : Gives g A (call (.builtin "min") [x, y]) F ρ σ s (.int (if q < p then q else p)) σ := by
  intro Q E hQ
  obtain ⟨t, rfl⟩ := hx.int_inv
  obtain ⟨u, rfl⟩ := hy.int_inv
  refine min_two_ints hh fun h' tk hk => ?_
  by_cases c : q < p
  · rw [if_pos c] at hQ ⊢; exact hQ.grow R hk (.int _ _) tk
  · rw [if_neg c] at hQ ⊢; exact hQ.grow R hk (.int _ _) tk
theorem max_ok (hh : A.handled = Option.none) (R : Rel g F ρ σ s.heap) {x y : Value} {p q : Int} (hx : VR g F ρ x (.int p)) (hy : VR g F ρ y (.int q)) : Gives g A (call (.builtin "max") [x, y]) F ρ σ s (.int (if q > p then q else p)) σ := by
  intro Q E hQ
  obtain ⟨t, rfl⟩ := hx.int_inv
  obtain ⟨u, rfl⟩ := hy.int_inv
  refine max_two_ints hh fun h' tk hk => ?_
  by_cases c : q > p
  · rw [if_pos c] at hQ ⊢; exact hQ.grow R hk (.int _ _) tk
  · rw [if_neg c] at hQ ⊢; exact hQ.grow R hk (.int _ _) tk
theorem listOf_ok (R : Rel g F ρ σ s.heap) {y : Value} {us : List V} {k : Kd} (hy : VR g F ρ y (.lst us)) : Gives g A (call (.type "list") [y]) F ρ σ s (.ref k (σ k).length) (σ.push k (.list us)) := by
  intro Q E hQ
  obtain ⟨a, xs, n, rfl, q1, q2, q3⟩ := hy.lst_inv
  have hlen := q2.length
  refine call_list_seq a (.inl rfl) (R.frz _ _ q1) rfl rfl (fun h' c' hk hn => ?_) (by simp only [List.size_toArray, hlen]; exact fits_LIM q3)
  have hfr := Heap.none_size s.heap
  obtain ⟨R', E', hv⟩ := R.newO (k := k) (O := .list us) (h' := h') hk hfr hfr ⟨rfl, xs, c', hn, q2.mono (.refl _) (pre_push _ _ _), q3⟩
  exact hQ _ F _ h' s.toks R' E' hv
end
end Mine
end
section
open PySem PySem.W PyProof.Rows PySem.Calls PySem.SeqAt
namespace Mine
section
variable {g : GG} {F F' : FM} {ρ ρ' : RM} {σ σ' : St} {h h' : Heap} {env : Env} {vs : List Str} {m : List V} {A : Around} {s : Shared} {Q : Value → Shared → Prop} {E : Value → Shared → Prop} {sc : Scope}
theorem VsR.cut {xs : List Value} {us : List V} (h : VsR g F ρ xs us) (lo hi : Option Int) :
    VsR g F ρ ((xs.drop (lo.elim 0 (clipAt xs.length))).take (hi.elim xs.length (clipAt xs.length) - lo.elim 0 (clipAt xs.length))) (cutAB us lo hi) := by
  unfold cutAB
  rw [h.length]
  exact (h.drop _).take _
theorem cutAB_len (us : List V) (lo hi : Option Int) : (cutAB us lo hi).length ≤ us.length := by
  unfold cutAB
  simp only [List.length_take, List.length_drop]
  lia
theorem sliceApplied_upto {prog : Program} {w : World} {sl : Addr} {a n : Nat} {u : Tok} {Q : Int × Int × Nat → Shared → Prop} (hs : s.heap.IsSliceOf sl .none (.int a u) .none) (ha : a ≤ n) (h : Q (0, 1, a) s) :
    wpAny (model prog w) A (Builtin.Slice.sliceApplied (.ref sl) (pure (n : Int))) Q E s := by
  obtain ⟨os, hos, hcs, hds⟩ := id hs
  unfold Builtin.Slice.sliceApplied Builtin.Slice.sliceFields
  refine wpAny_bind (wpAny_bind (wpAny_field hos hds (x := .none) rfl (wpAny_bind (wpAny_field hos hds (x := .int a u) rfl (wpAny_bind (wpAny_field hos hds (x := .none) rfl (wpAny_pure ?_)))))))
  refine wpAny_bind (slicePart_none ?_)
  show wpAny _ _ (if ((1 : Int) == 0) = true then _ else _) _ _ s
  rw [if_neg (by decide)]
  refine wpAny_bind (slicePart_none (wpAny_bind (slicePart_int (wpAny_bind (wpAny_pure ?_)))))
  show wpAny _ _ (match Builtin.Slice.sliceAdjust Option.none (some (a : Int)) 1 (n : Int) with | (lo, hi) => pure (lo, (1 : Int), Builtin.Slice.slicePlaces lo hi 1)) _ _ s
  have e1 : Builtin.Slice.sliceAdjust Option.none (some (a : Int)) 1 (n : Int) = (0, (a : Int)) := by
    unfold Builtin.Slice.sliceAdjust
    have h1 : ¬ ((1 : Int) < 0) := by lia
    have h2 : ¬ ((a : Int) < 0) := by lia
    simp only [h1, h2, if_false]
    congr 1
    lia
  rw [e1]
  show wpAny _ _ (pure ((0 : Int), (1 : Int), Builtin.Slice.slicePlaces 0 (a : Int) 1)) _ _ s
  have e2 : Builtin.Slice.slicePlaces 0 (a : Int) 1 = a := by
    unfold Builtin.Slice.slicePlaces
    have h1 : (1 : Int) > 0 := by lia
    simp only [h1, if_true, Int.ediv_one]
    split <;> lia
  rw [e2]
  exact wpAny_pure h
theorem getItem_tuple_upto {prog : Program} {w : World} {t sl : Addr} {items : Array Value} {a : Nat} {u : Tok} {Q : Value → Shared → Prop} (ht : IsTup s.heap t items) (hs : s.heap.IsSliceOf sl .none (.int a u) .none) (ha : a < items.size)
    (h : Q (.ref s.heap.objs.size) { s with heap := s.heap.push { cls := .type "tuple", data := .seq (items.toList.take a).toArray } })
    (hsz : items.size ≤ sizeLine) : wpAny (model prog w) A (getItem (.ref t) (.ref sl)) Q E s := by
  have hdrop : sizeOk (.seq (items.toList.take a).toArray) := by
    show (items.toList.take a).toArray.size ≤ sizeLine
    rw [List.size_toArray, List.length_take, Array.length_toList]
    lia
  obtain ⟨os, hos, hcs, hds⟩ := id hs
  have hTs : s.TypeIs (.ref sl) "slice" := ⟨os, hos, hcs⟩
  unfold getItem
  try with_reducible refine wpAny_holding ?_
  first | refine wpAny_bind (wpAny_pure ?_) | skip
  refine wpAny_bind (wpAny_sequenceKey ht.typeIs (by decide) ?_)
  refine wpAny_bind (wpAny_callSpecial?_slot (name := Str.ofString "__getitem__") ht.typeIs slot_tuple_getitem
    (wpAny_call_entry slot_tuple_getitem ht.typeIs entry_tuple_getitem ?_ (args_tuple_getitem _ _)))
  show wpAny _ _ (Builtin.Tuple.tupleItemsOf (.ref t) >>= _) _ _ s
  refine wpAny_bind (tupleItemsOf_ ht ?_)
  refine wpAny_bind (wpAny_typeOf hTs ?_)
  rw [if_pos (by decide)]
  refine wpAny_bind (sliceApplied_upto hs (Nat.le_of_lt ha) ?_)
  have hno : ¬ (((0 : Int) == 0 && (1 : Int) == 1 && a == items.size) = true) := by
    have : (a == items.size) = false := by rw [beq_eq_false_iff_ne]; lia
    rw [this]; simp
  show wpAny _ _ (if ((0 : Int) == 0 && (1 : Int) == 1 && a == items.size) = true then _ else _) _ _ s
  have pick : ((List.range a).filterMap fun (k : Nat) => items[((0 : Int) + (k : Int) * 1).toNat]?).toArray = (items.toList.take a).toArray := by
    have e : (fun (k : Nat) => items[((0 : Int) + (k : Int) * 1).toNat]?) = fun k => items[0 + k]? := by
      funext k
      have : ((0 : Int) + (k : Int) * 1).toNat = 0 + k := by lia
      rw [this]
    rw [e]
    have := pick_run items 0 a
    rw [List.filterMap_map] at this
    have e2 : ((fun x => items[x]?) ∘ fun x => 0 + x) = fun k => items[0 + k]? := rfl
    rw [e2] at this
    rw [this, List.drop_zero]
  rw [if_neg hno, pick]
  first
    | exact wpAny_bind (m := Builtin.Tuple.tupleExact _) (wpAny_newObj_type (wpAny_pure ⟨_, rfl, wpAny_pure h⟩) hdrop)
    | exact wpAny_bind (m := Builtin.Tuple.tupleExact _) (wpAny_newObj_type (wpAny_bind (wpAny_pure (wpAny_pure ⟨_, rfl, wpAny_pure h⟩))) hdrop)
    | exact wpAny_bind (wpAny_bind (m := Builtin.Tuple.tupleExact _) (wpAny_newObj_type (wpAny_pure (wpAny_pure ⟨_, rfl, wpAny_pure h⟩)) hdrop))
    | exact wpAny_bind (wpAny_bind (m := Builtin.Tuple.tupleExact _) (wpAny_newObj_type (wpAny_pure ⟨_, rfl, wpAny_pure h⟩) hdrop))
theorem slcL (R : Rel g F ρ σ s.heap) {a sl : Addr} {xs : List Value} {n : Nat} {us : List V} {vl vu : Value} {lo hi : Option Int} (q1 : s.heap.get? a = some (listO xs n)) (q2 : VsR g F ρ xs us) (q3 : us.length ≤ LIM)
    (hs : s.heap.IsSliceOf sl vl vu .none) (pl : IsPart vl lo) (pu : IsPart vu hi) : Gives g A (getItem (.ref a) (.ref sl)) F ρ σ s (.lst (cutAB us lo hi)) σ := by
  intro Q E hQ
  have hlen := q2.length
  refine wpAny_getItem_list_slice (items := xs.toArray) ⟨_, q1, rfl, _, rfl⟩ hs pl pu .none (by simp) ?_ (by simp only [List.size_toArray, hlen]; exact fits_LIM q3)
  rw [slicePick_plain]
  have := hQ.newLst R (q2.cut lo hi) (Nat.le_trans (cutAB_len _ _ _) q3) s.toks
  simpa using this
theorem slc_ok (R : Rel g F ρ σ s.heap) {y : Value} {x z : V} {sl : Addr} {vl vu : Value} {lo hi : Option Int} (hy : VR g F ρ y x) (hs : s.heap.IsSliceOf sl vl vu .none) (pl : IsPart vl lo) (pu : IsPart vu hi)
    (e : sliced σ x lo hi = some z) : Gives g A (getItem y (.ref sl)) F ρ σ s z σ := by
  unfold sliced at e
  split at e
  · split at e
    · split at e
      · rename_i k q
        cases e
        intro Q E hQ
        obtain ⟨a, xs, n, rfl, q1, q2, q3⟩ := hy.tup_inv
        have hlen := q2.length
        cases pl
        cases pu with
        | int i t =>
          obtain ⟨c, rfl⟩ := Int.eq_ofNat_of_zero_le q.1
          refine getItem_tuple_upto (items := xs.toArray) ⟨_, R.frz _ _ q1, rfl, _, rfl⟩ hs (by simp only [List.size_toArray, hlen]; lia) ?_ (by simp only [List.size_toArray, hlen]; exact fits_LIM q3)
          have := hQ.newTup R (q2.take c) (by simp; lia) s.toks
          simpa using this
      · cases e
    · cases e
  · cases e
    obtain ⟨a, xs, n, rfl, q1, q2, q3⟩ := hy.lst_inv
    exact slcL R (R.frz _ _ q1) q2 q3 hs pl pu
  · rename_i k i
    cases q : σ.lst k i with
    | none => rw [q] at e; cases e
    | some us =>
      rw [q] at e; cases e
      obtain ⟨p, xs, n, rfl, _, q1, q2, q3⟩ := R.lst hy q
      exact slcL R q1 q2 q3 hs pl pu
  · cases e
theorem setSl {prog : Program} {w : World} {l sl b : Addr} {items news : Array Value} {ne ne' : Nat} {p q : Nat} {t u : Tok} {Q : Unit → Shared → Prop} (ho : s.heap.get? l = some { cls := .type "list", dict := Option.none, data := .seq items ne, slots := #[] })
    (hb : s.heap.get? b = some { cls := .type "list", dict := Option.none, data := .seq news ne', slots := #[] }) (hs : s.heap.IsSliceOf sl (.int p t) (.int q u) .none)
    (hpq : p ≤ q) (hq : q ≤ items.size) (hz : items.size + news.size ≤ sizeLine)
    (hQ : Q () { s with heap := s.heap.update l (Obj.mapSeq fun xs => xs.extract 0 p ++ news ++ xs.extract q xs.size) }) (hne : l ≠ b) :
    wpAny (model prog w) A (setItem (.ref l) (.ref sl) (.ref b)) Q E s := by
  have hl : s.heap.IsList l items := ⟨_, ho, rfl, _, rfl⟩
  have hbl : s.heap.IsList b news := ⟨_, hb, rfl, _, rfl⟩
  have hd : (({ cls := .type "list", dict := Option.none, data := .seq items ne, slots := #[] } : Obj)).data = .seq items ne := rfl
  have hdb : (({ cls := .type "list", dict := Option.none, data := .seq news ne', slots := #[] } : Obj)).data = .seq news ne' := rfl
  obtain ⟨os, hos, hcs, hds⟩ := id hs
  have hTs : s.TypeIs (.ref sl) "slice" := ⟨os, hos, hcs⟩
  unfold setItem
  try with_reducible refine wpAny_holding ?_
  first | refine wpAny_bind (wpAny_pure ?_) | skip
  refine wpAny_bind (wpAny_sequenceKey hl.typeIs (by decide) ?_)
  refine wpAny_bind (wpAny_callSpecial?_slot (name := Str.ofString "__setitem__") hl.typeIs slot_list_setitem
    (wpAny_call_entry slot_list_setitem hl.typeIs entry_list_setitem ?_ (args_list_setitem _ _ _)))
  show wpAny _ _ (Builtin.List.listSubscript? (.ref sl) >>= _) _ _ s
  refine wpAny_bind ?_
  unfold Builtin.List.listSubscript?
  refine wpAny_bind (wpAny_specialOf hTs slice_no_index ?_)
  simp only [Option.isNone_none, if_true]
  refine wpAny_pure ?_
  show wpAny _ _ (typeOf (.ref sl) >>= _) _ _ s
  refine wpAny_bind (wpAny_typeOf hTs ?_)
  rw [if_neg (by decide)]
  rw [listSliceParts_eq]
  refine wpAny_bind (wpAny_bind (wpAny_field hos hds (x := .none) rfl (wpAny_bind (wpAny_listPart .none ?_))))
  rw [if_neg (by decide)]
  refine wpAny_bind (wpAny_field hos hds (x := .int p t) rfl (wpAny_bind (wpAny_listPart (.int _ _) ?_)))
  refine wpAny_bind (wpAny_field hos hds (x := .int q u) rfl (wpAny_bind (wpAny_listPart (.int _ _) (wpAny_pure ?_))))
  have bnd : sliceBounds (some (p : Int)) (some (q : Int)) Option.none items.size = ((p : Int), (q : Int), 1) := by
    rw [sliceBounds_plain]; simp only [Option.elim, clipAt_nat]; rw [Nat.min_eq_left (by lia), Nat.min_eq_left (by lia)]
  have mx : (max (p : Int) (q : Int)).toNat = q := by lia
  have rd2 : ∀ {A' : Around} {E' : Value → Shared → Prop} {P : Array Value → Shared → Prop}, P items s → wpAny (model prog w) A' (Builtin.List.listItems (.ref l)) P E' s := fun {A' E' P} hP => by
    unfold Builtin.List.listItems
    exact wpAny_bind (wpAny_seqItems ho hd (wpAny_pure hP))
  have rd1 : ∀ {A' : Around} {E' : Value → Shared → Prop} {P : Array Value → Shared → Prop}, P news s → wpAny (model prog w) A' (Builtin.List.listAllItems (.ref b) "must assign iterable to extended slice") P E' s := fun {A' E' P} hP => by
    unfold Builtin.List.listAllItems
    refine wpAny_bind (wpAny_typeOf hbl.typeIs ?_)
    rw [if_pos (by decide)]
    unfold Builtin.List.listItems
    exact wpAny_bind (wpAny_seqItems hb hdb (wpAny_pure hP))
  have e0 : ¬ (Builtin.List.listSameRef (.ref l) (.ref b) = true) := by simpa [Builtin.List.listSameRef] using hne
  rw [if_neg e0]
  refine wpAny_bind (rd1 ?_)
  refine wpAny_bind (rd2 ?_)
  refine wpAny_bind (wpAny_of_eq (sliceIndices_raw (some (p : Int)) (some (q : Int)) Option.none items.size (by simp)) ?_)
  rw [bnd]
  rw [if_pos (show ((((p : Int), (q : Int), (1 : Int)).2.snd == 1) = true) from rfl)]
  refine wpAny_bind (wpAny_rule ?_)
  have e1 : ¬ (Builtin.List.listTooLong (items.size + news.size) = true) := by
    simp [Builtin.List.listTooLong]; lia
  rw [if_neg e1]
  simp only [Int.toNat_natCast, mx]
  refine wpAny_bind (m := Builtin.List.listUpdate (.ref l) _) (wpAny_updateSeq ho hd ?_ (by lia) (by simp; lia))
  refine wpAny_bind (wpAny_letGo ?_)
  exact wpAny_pure ⟨_, rfl, wpAny_pure hQ⟩
theorem setSl_ok (R : Rel g F ρ σ s.heap) {a y : Value} {k : Kd} {i : Nat} {us ws : List V} {lo hi : Int} {sl : Addr} {t u : Tok} (ha : VR g F ρ a (.ref k i)) (e : σ.lst k i = some us) (hy : VR g F ρ y (.lst ws)) (hs : s.heap.IsSliceOf sl (.int lo t) (.int hi u) .none)
    (h0 : 0 ≤ lo) (h1 : lo + ws.length = hi) (h2 : hi ≤ us.length) : GivesU g A (setItem a (.ref sl) y) F ρ σ s (σ.setO k i (.list (us.take lo.toNat ++ ws ++ us.drop hi.toNat))) := by
  intro Q E hQ
  obtain ⟨p, xs, n, rfl, q, q1, q2, q3⟩ := R.lst ha e
  obtain ⟨b, ys, n', rfl, r1, r2, r3⟩ := hy.lst_inv
  have hlen := q2.length
  have hlen' := r2.length
  obtain ⟨lo, rfl⟩ := Int.eq_ofNat_of_zero_le h0
  obtain ⟨hi, rfl⟩ := Int.eq_ofNat_of_zero_le (show 0 ≤ hi by lia)
  have hne : p.1 ≠ b := fun e1 => by
    have := R.off p.1 ⟨k, i, _, p, lst_get e, rfl, q, .inl rfl⟩
    rw [e1, r1] at this; cases this
  refine setSl (items := xs.toArray) (news := ys.toArray) q1 (R.frz _ _ r1) hs (by lia) (by simp only [List.size_toArray]; lia) ?_ ?_ hne
  · simp only [List.size_toArray, sizeLine_eq]; unfold LIM at q3 r3; lia
  · obtain ⟨R', E'⟩ := R.updL (us' := us.take lo ++ ws ++ us.drop hi) (f := fun zs => zs.extract 0 lo ++ ys.toArray ++ zs.extract hi zs.size) e q q1 (xs' := xs.take lo ++ ys ++ xs.drop hi) (by
        apply Array.ext'
        simp
        exact List.take_of_length_le (by simp)) (((q2.take _).append r2).append (q2.drop _)) (by simp; lia)
    exact hQ F ρ _ s.toks R' E'
end
end Mine
end
section
open PySem PySem.W PyProof.Rows PySem.Calls PySem.SeqAt
namespace Mine
noncomputable def Priv (F : FM) (ρ : RM) (σ : St) (h : Heap) (b : Addr) : Prop := ¬ Own ρ σ b ∧ F b = Option.none ∧ ∃ o, h.get? b = some o
section
variable {g : GG} {F F' F₁ F₂ : FM} {ρ ρ' ρ₁ ρ₂ : RM} {σ σ' σ₁ σ₂ : St} {h h' h₁ h₂ : Heap} {env : Env} {vs : List Str} {m : List V} {X Y : Addr → Prop}
theorem Priv.move {b : Addr} (p : Priv F ρ σ h b) (e : Ev X F ρ σ h F' ρ' σ' h') : Priv F' ρ' σ' h' b := by
  obtain ⟨p1, p2, o, p3⟩ := p
  refine ⟨fun z => ?_, ?_, e.alive b o p3⟩
  · rcases e.own b z with z | z
    · exact p1 z
    · rw [p3] at z; cases z
  · cases z : F' b with
    | none => rfl
    | some o' =>
      rcases e.frz b o' z with z | z | z
      · rw [p2] at z; cases z
      · exact absurd z p1
      · rw [p3] at z; cases z
theorem Priv.keep {b : Addr} {o : Obj} (p : Priv F ρ σ h b) (e : Ev X F ρ σ h F' ρ' σ' h') (hx : ¬ X b) (ho : h.get? b = some o) : h'.get? b = some o := e.keep b o ho p.1 hx
theorem Ev.mono (e : Ev X F ρ σ h F' ρ' σ' h') (hxy : ∀ b, X b → Y b) : Ev Y F ρ σ h F' ρ' σ' h' :=
  ⟨e.ext, e.pre, fun b o q hn hy => e.keep b o q hn fun x => hy (hxy b x), e.alive, e.own, e.frz⟩
theorem Ev.fresh (e : Ev X F ρ σ h F' ρ' σ' h') (hx : ∀ b, X b → h.get? b = Option.none) : Ev NoX F ρ σ h F' ρ' σ' h' :=
  ⟨e.ext, e.pre, fun b o q hn _ => e.keep b o q hn (fun x => by rw [hx b x] at q; cases q), e.alive, e.own, e.frz⟩
theorem Rel.writeP (R : Rel g F ρ σ h) (hp : ∀ b, X b → ¬ Own ρ σ b ∧ F b = Option.none) (hk : ∀ b o, ¬ X b → h.get? b = some o → h'.get? b = some o) : Rel g F ρ σ h' := by
  refine ⟨fun b o e => hk b o (fun q => by rw [(hp b q).2] at e; cases e) (R.frz b o e), R.bas, R.len, fun k i O p e1 e2 => ?_, R.off, R.sep⟩
  by_cases hl : O.live = true
  · exact (R.obj k i O p e1 e2).move (.refl _) (.refl _) (fun o e => hk _ o (fun q => (hp _ q).1 ⟨k, i, O, p, e1, hl, e2, .inl rfl⟩) e) (fun o e => hk _ o (fun q => (hp _ q).1 ⟨k, i, O, p, e1, hl, e2, .inr rfl⟩) e)
  · cases O <;> first | trivial | exact absurd rfl hl
theorem Rel.evP (hk : ∀ b o, ¬ X b → h.get? b = some o → h'.get? b = some o) (ha : ∀ b, X b → ∃ o, h'.get? b = some o) : Ev X F ρ σ h F ρ σ h' :=
  ⟨.refl _, .refl _, fun b o e _ hx => hk b o hx e, fun b o e => by
    by_cases q : X b
    · exact ha b q
    · exact ⟨o, hk b o q e⟩, fun _ q => .inl q, fun _ _ q => .inl q⟩
theorem Ev.endW (e : Ev NoX F ρ σ h F₁ ρ₁ σ₁ h₁) (hx : ∀ b, X b → h.get? b = Option.none) (hk : ∀ b o, ¬ X b → h₁.get? b = some o → h₂.get? b = some o) : Ev NoX F ρ σ h F₁ ρ₁ σ₁ h₂ := by
  have hnx : ∀ b o, h.get? b = some o → ¬ X b := fun b o q x => by rw [hx b x] at q; cases q
  refine ⟨e.ext, e.pre, fun b o q hn _ => hk b o (hnx b o q) (e.keep b o q hn (fun f => f)), fun b o q => ?_, e.own, e.frz⟩
  obtain ⟨o', q'⟩ := e.alive b o q
  exact ⟨o', hk b o' (hnx b o q) q'⟩
theorem Loc.moveX (L : Loc g F ρ σ h env vs m) (e : Ev X F ρ σ h F' ρ' σ' h') (hl : ¬ X env.locals) (hc : ∀ x c, env.cells.lookup x = some c → ¬ X c) : Loc g F' ρ' σ' h' env vs m where
  kind := L.kind
  glo := L.glo
  bui := L.bui
  len := L.len
  ns := by
    obtain ⟨mp, ⟨o, es, ep, ho, r⟩, hm⟩ := L.ns
    refine ⟨mp, ⟨o, es, ep, e.keep _ _ ho L.off.1 hl, r⟩, fun i x v hv hk hx hu => ?_⟩
    obtain ⟨y, q1, q2⟩ := hm i x v hv hk hx hu
    exact ⟨y, q1, q2.mono e.ext e.pre⟩
  cel := fun x hx hk => by
    obtain ⟨c, w, q1, ⟨o, q2, q3⟩, q4, q5, q6, q7⟩ := L.cel x hx hk
    have p := Priv.move (X := X) ⟨q4, q5, o, q2⟩ e
    refine ⟨c, w, q1, ⟨o, e.keep _ _ q2 q4 (hc x c q1), q3⟩, p.1, p.2.1, q6, fun i v hv hi hu => ?_⟩
    obtain ⟨y, r1, r2⟩ := q7 i v hv hi hu
    exact ⟨y, r1, r2.mono e.ext e.pre⟩
  inj := L.inj
  off := by
    obtain ⟨mp, ⟨o, es, ep, ho, r⟩, hm⟩ := L.ns
    have p := Priv.move (X := X) ⟨L.off.1, L.off.2, o, ho⟩ e
    exact ⟨p.1, p.2.1⟩
  cal := fun x c q => let ⟨o, q'⟩ := L.cal x c q; e.alive c o q'
structure Src (g : GG) (A : Around) (it : Value) (X : Addr → Prop) (n : Nat) (item : St → Nat → Option V) (fin : St → Prop) (I : Nat → Heap → Prop) (F₀ : FM) (ρ₀ : RM) : Prop where
  self : ∀ i (s : Shared) (Q E : Value → Shared → Prop), I i s.heap → Q it s → wpAny (model g.prog g.w) A (pyIter it) Q E s
  frame : ∀ j h h', I j h → (∀ b, X b → ∀ o, h.get? b = some o → h'.get? b = some o) → I j h'
  live : ∀ j h, I j h → ∀ b, X b → ∃ o, h.get? b = some o
  next : ∀ j F ρ σ (s : Shared) z (Q : Option Value → Shared → Prop) (E : Value → Shared → Prop), j < n → I j s.heap → Rel g F ρ σ s.heap → Ext F₀ F → Pre ρ₀ ρ → item σ j = some z →
    (∀ v h' tk, VR g F ρ v z → I (j + 1) h' → (∀ b o, ¬ X b → s.heap.get? b = some o → h'.get? b = some o) → Q (some v) { s with heap := h', toks := tk }) → wpAny (model g.prog g.w) A (pyNext it) Q E s
  done : ∀ F ρ σ (s : Shared) (Q : Option Value → Shared → Prop) (E : Value → Shared → Prop), I n s.heap → Rel g F ρ σ s.heap → Ext F₀ F → Pre ρ₀ ρ → fin σ →
    (∀ h' tk, (∀ b o, ¬ X b → s.heap.get? b = some o → h'.get? b = some o) → Q Option.none { s with heap := h', toks := tk }) → wpAny (model g.prog g.w) A (pyNext it) Q E s
theorem lo_ne_to {xs ys : List Value} {n k : Nat} : listO xs n ≠ tupO ys k := fun e => by
  have h := congrArg Obj.cls e
  simp at h
theorem turns_items {x : V} {n : Nat} (hx : ∀ us, x ≠ .tup us) (h : turns σ x = some n) : ∃ us, items σ x = some us ∧ us.length = n := by
  unfold turns at h
  split at h
  · cases h; exact ⟨_, rfl, rfl⟩
  · rename_i k i
    cases q : σ.lst k i with
    | none => rw [q] at h; cases h
    | some us => rw [q] at h; cases h; exact ⟨us, q, rfl⟩
  · cases h
theorem turnItem_items {x z : V} {n j : Nat} (h : turnItem σ x n j = some z) : ∃ us, items σ x = some us ∧ us[j]? = some z := by
  unfold turnItem at h
  split at h
  · exact ⟨_, rfl, h⟩
  · split at h
    · rename_i k i us e
      split at h
      · exact ⟨us, e, h⟩
      · cases h
    · cases h
  · cases h
theorem Src.list {A : Around} (hh : A.handled = Option.none) {it l : Addr} {x : V} {n : Nat} (hx : ∀ us, x ≠ .tup us) (hy : VR g F ρ (.ref l) x) :
    Src g A (.ref it) (fun b => b = it) n (fun σ j => turnItem σ x n j) (fun σ => turns σ x = some n) (fun j h => h.IsListIter it l j) F ρ where
  self := fun i s Q E hi hQ => wpAny_pyIter_listiter hi hQ
  frame := fun j h h' hi hk => hi.at fun o e => hk it rfl o e
  live := fun j h hi b hb => by subst hb; obtain ⟨o, ho, _⟩ := hi; exact ⟨o, ho⟩
  next := fun j F₁ ρ₁ σ s z Q E hj hi R hE hP hz hQ => by
    obtain ⟨us, e1, e2⟩ := turnItem_items hz
    obtain ⟨a, xs, k, e3, q3, q1, q2⟩ := R.isL₀ hx (hy.mono hE hP) e1
    cases e3
    obtain ⟨v, hv, hvr⟩ := q1.get e2
    have hl : s.heap.IsList l xs.toArray := ⟨_, q3, rfl, _, rfl⟩
    refine wpAny_pyNext_list_item hi hl (x := v) (by simpa using hv) fun h' hi' hs => ?_
    exact hQ v h' s.toks hvr hi' fun b o hb e => (hs.2 b hb).trans e
  done := fun F₁ ρ₁ σ s Q E hi R hE hP hf hQ => by
    obtain ⟨us, e1, e2⟩ := turns_items hx hf
    obtain ⟨a, xs, k, e3, q3, q1, q2⟩ := R.isL₀ hx (hy.mono hE hP) e1
    cases e3
    have hl : s.heap.IsList l xs.toArray := ⟨_, q3, rfl, _, rfl⟩
    have hlen := q1.length
    refine wpAny_pyNext_list_end hh hi hl (by simp; lia) fun h' hs => ?_
    exact hQ h' s.toks fun b o hb e => hs b o hb e
theorem Src.range {A : Around} (hh : A.handled = Option.none) {it : Addr} (lo : Int) (n : Nat) :
    Src g A (.ref it) (fun b => b = it) n (fun _ j => some (.int (lo + (j : Int)))) (fun _ => True) (fun j h => IsRangeIter h it (lo + (j : Int)) ((n : Int) - j) 1) F ρ where
  self := fun i s Q E hi hQ => (Walks.range (prog := g.prog) (w := g.w) (A := A) hh it lo 1 n).self i s Q E (by simpa using hi) hQ
  frame := fun j h h' hi hk => hk it rfl _ hi
  live := fun j h hi b hb => by subst hb; exact ⟨_, hi⟩
  next := fun j F₁ ρ₁ σ s z Q E hj hi R hE hP hz hQ => by
    cases hz
    refine wpAny_pyNext_range_item hi (by lia) fun h' hi' hs => ?_
    refine hQ _ h' _ (.int _ _) ?_ fun b o hb e => (hs.2 b hb).trans e
    have e1 : lo + ((j + 1 : Nat) : Int) = lo + (j : Int) + 1 := by lia
    have e2 : (n : Int) - ((j + 1 : Nat) : Int) = (n : Int) - j - 1 := by lia
    rw [e1, e2]; exact hi'
  done := fun F₁ ρ₁ σ s Q E hi R hE hP hf hQ =>
    wpAny_pyNext_range_end hh hi (by lia) fun h' hs => hQ h' s.toks fun b o hb e => hs b o hb e
end
end Mine
end
section
open PySem PySem.W PyProof.Rows PySem.Calls PySem.SeqAt
namespace Mine
section
variable {g : GG} {F F' F₀ : FM} {ρ ρ' ρ₀ : RM} {σ σ' : St} {h h' : Heap} {env : Env} {vs : List Str} {m : List V} {X : Addr → Prop} {A : Around} {sc : Scope}
theorem none_size_ne {h : Heap} {b : Addr} {o : Obj} (e : h.get? b = some o) : b ≠ h.objs.size := Nat.ne_of_lt (Heap.lt_size e)
theorem asgPair {E : Value → Shared → Prop} {s : Shared} {i j : Nat} {x y : Str} {px py pt : Pos} {k : Nat} {T : Addr} {va vb : Value} {a b : V} {n : Nat} {Q : Unit → Shared → Prop} (hh : A.handled = Option.none) (R : Rel g F ρ σ s.heap) (L : Loc g F ρ σ s.heap env vs m) (S : SameSc sc env)
    (hv : Vis vs i x) (hv' : Vis vs j y) (hb : stoB sc x = true) (hb' : stoB sc y = true) (hi : i < m.length) (hj : j < m.length) (hT : s.heap.get? T = some (tupO [va, vb] n)) (ha : VR g F ρ va a) (hbv : VR g F ρ vb b)
    (hQ : ∀ h' tk, Rel g F ρ σ h' → Loc g F ρ σ h' env vs ((m.set i a).set j b) → Ev (XN env [x, y]) F ρ σ s.heap F ρ σ h' → Q () { s with heap := h', toks := tk }) :
    wpAny (model g.prog g.w) A (assign (.Tuple [.Name x px, .Name y py] k pt) env (.ref T)) Q E s := by
  refine assign_Tuple_tuple (items := #[va, vb]) hh ⟨_, hT, rfl, _, rfl⟩ rfl rfl fun h₁ hs₁ => ?_
  have hk : ∀ b o, s.heap.get? b = some o → h₁.get? b = some o := fun b o e => hs₁ b o (none_size_ne e) e
  obtain ⟨R₁, E₁⟩ := R.grow hk
  have L₁ := L.move E₁
  refine wpAny_assignInOrder_more (t := assign (.Name x px) env) (ts := [assign (.Name y py) env]) (x := va) (xs := [vb]) (wpAny_assign_Name (Loc.store (s := { s with heap := h₁ }) R₁ L₁ S hv hb hi ha fun h₂ tk R₂ L₂ E₂ => ?_))
  refine wpAny_assignInOrder_more (t := assign (.Name y py) env) (ts := []) (x := vb) (xs := []) (wpAny_assign_Name (Loc.store (s := { s with heap := h₂, toks := tk }) R₂ L₂ S hv' hb' (by simpa using hj) hbv fun h₃ tk₃ R₃ L₃ E₃ => ?_))
  exact wpAny_pure (hQ h₃ tk₃ R₃ L₃ ((E₁.weaken.trans (E₂.mono (XN.sub (by simp)))).trans (E₃.mono (XN.sub (by simp)))))
structure Head (g : GG) (A : Around) (it : Value) (env : Env) (vs : List Str) (tx : List Str) (target : PySem.Expr) (X : Addr → Prop) (n : Nat) (item : St → Nat → Option V) (put : V → List V → Option (List V)) (fin : St → Prop) (I : Nat → Heap → Prop) (F₀ : FM) (ρ₀ : RM) : Prop where
  self : ∀ i (s : Shared) (Q E : Value → Shared → Prop), I i s.heap → Q it s → wpAny (model g.prog g.w) A (pyIter it) Q E s
  frame : ∀ j h h', I j h → (∀ b, X b → ∀ o, h.get? b = some o → h'.get? b = some o) → I j h'
  live : ∀ j h, I j h → ∀ b, X b → ∃ o, h.get? b = some o
  turn : ∀ j F ρ σ m m' (s : Shared) z (Q : Unit → Shared → Prop) (E : Value → Shared → Prop), j < n → I j s.heap → Rel g F ρ σ s.heap → Ext F₀ F → Pre ρ₀ ρ → Loc g F ρ σ s.heap env vs m →
    (∀ b, X b → (¬ Own ρ σ b ∧ F b = Option.none) ∧ b ≠ env.locals ∧ ∀ x c, env.cells.lookup x = some c → b ≠ c) → item σ j = some z → put z m = some m' →
    (∀ h' tk, Rel g F ρ σ h' → Loc g F ρ σ h' env vs m' → I (j + 1) h' → Ev (fun b => XN env tx b ∨ X b) F ρ σ s.heap F ρ σ h' → Q () { s with heap := h', toks := tk }) →
    wpAny (model g.prog g.w) A (pyNext it) (fun r s₁ => match r with
      | Option.none => False
      | some v => wpAny (model g.prog g.w) A (letOwnedTupleGo target it v) (fun _ s₂ => wpAny (model g.prog g.w) A (assign target env v) Q E s₂) E s₁) E s
  done : ∀ F ρ σ (s : Shared) (Q : Option Value → Shared → Prop) (E : Value → Shared → Prop), I n s.heap → Rel g F ρ σ s.heap → Ext F₀ F → Pre ρ₀ ρ → fin σ →
    (∀ h' tk, (∀ b o, ¬ X b → s.heap.get? b = some o → h'.get? b = some o) → Q Option.none { s with heap := h', toks := tk }) → wpAny (model g.prog g.w) A (pyNext it) Q E s
theorem putPr_spec {i j : Nat} {z : V} {m m' : List V} (h : putPr i j z m = some m') : ∃ a b, z = .tup [a, b] ∧ (i < m.length ∧ j < m.length) ∧ m' = (m.set i a).set j b := by
  obtain ⟨l, e, h⟩ := Option.bind_eq_some_iff.mp h
  obtain ⟨a, b, e2, h⟩ := bind_of h
  obtain ⟨q, h⟩ := if_of h
  exact ⟨a, b, (tup?_of e).trans (congrArg V.tup (pair_of e2)), q, (Option.some.inj h).symm⟩
theorem headStep {tx : List Str} {j : Nat} {s : Shared} {I : Nat → Heap → Prop} {F₁ : FM} {ρ₁ : RM} {σ₁ : St} {m : List V} {h' : Heap}
    (frame : ∀ j h h', I j h → (∀ b, X b → ∀ o, h.get? b = some o → h'.get? b = some o) → I j h') (live : ∀ j h, I j h → ∀ b, X b → ∃ o, h.get? b = some o)
    (R : Rel g F₁ ρ₁ σ₁ s.heap) (L : Loc g F₁ ρ₁ σ₁ s.heap env vs m) (hX : ∀ b, X b → (¬ Own ρ₁ σ₁ b ∧ F₁ b = Option.none) ∧ b ≠ env.locals ∧ ∀ x c, env.cells.lookup x = some c → b ≠ c)
    (hI : I j h') (hk : ∀ b o, ¬ X b → s.heap.get? b = some o → h'.get? b = some o) :
    Rel g F₁ ρ₁ σ₁ h' ∧ Loc g F₁ ρ₁ σ₁ h' env vs m ∧ Ev X F₁ ρ₁ σ₁ s.heap F₁ ρ₁ σ₁ h' ∧
      ∀ h'', Ev (XN env tx) F₁ ρ₁ σ₁ h' F₁ ρ₁ σ₁ h'' → I j h'' ∧ Ev (fun b => XN env tx b ∨ X b) F₁ ρ₁ σ₁ s.heap F₁ ρ₁ σ₁ h'' := by
  have R₁ := R.writeP (fun b hb => (hX b hb).1) hk
  have E₁ : Ev X F₁ ρ₁ σ₁ s.heap F₁ ρ₁ σ₁ h' := Rel.evP hk (fun b hb => live _ _ hI b hb)
  have L₁ := L.moveX E₁ (fun q => (hX _ q).2.1 rfl) (fun x c hc q => (hX c q).2.2 x c hc rfl)
  refine ⟨R₁, L₁, E₁, fun h'' E₂ => ⟨frame j _ _ hI fun b hb o e => E₂.keep b o e (hX b hb).1.1 fun q => ?_, (E₁.mono fun b hb => .inr hb).trans (E₂.mono fun b hb => .inl hb)⟩⟩
  rcases q with q | ⟨x, _, q⟩
  · exact (hX b hb).2.1 q
  · exact (hX b hb).2.2 x b q rfl
theorem Head.name {it : Value} {n : Nat} {item : St → Nat → Option V} {fin : St → Prop} {I : Nat → Heap → Prop} {i : Nat} {x : Str} {px : Pos} (W : Src g A it X n item fin I F₀ ρ₀) (S : SameSc sc env) (hv : Vis vs i x) (hb : stoB sc x = true) :
    Head g A it env vs [x] (.Name x px) X n item (putNm i) fin I F₀ ρ₀ where
  self := W.self
  frame := W.frame
  live := W.live
  done := W.done
  turn := fun j F₁ ρ₁ σ₁ m m' s z Q E hj hI R hE hP L hX hz hp hQ => by
    refine W.next j F₁ ρ₁ σ₁ s z _ _ hj hI R hE hP hz fun v h' tk hv' hI' hk => ?_
    obtain ⟨R₁, L₁, E₁, fn⟩ := headStep (s := s) W.frame W.live R L hX hI' hk
    obtain ⟨hi, hm⟩ := if_of hp
    show wpAny _ A (pure ()) _ _ _
    refine wpAny_pure (wpAny_assign_Name (Loc.store (s := { s with heap := h', toks := tk }) R₁ L₁ S hv hb hi hv' fun h₂ tk₂ R₂ L₂ E₂ => ?_))
    rw [Option.some.inj hm] at L₂
    exact hQ h₂ tk₂ R₂ L₂ (fn h₂ E₂).1 (fn h₂ E₂).2
theorem listIter_go {s : Shared} {it l : Addr} {j k : Nat} {pt : Pos} {ts : List PySem.Expr} {T : Addr} {Q : Unit → Shared → Prop} {E : Value → Shared → Prop} (hI : s.heap.IsListIter it l j) (hQ : wpAny (model g.prog g.w) A (assign (.Tuple ts k pt) env (.ref T)) Q E s) :
    wpAny (model g.prog g.w) A (letOwnedTupleGo (.Tuple ts k pt) (.ref it) (.ref T)) (fun _ s₂ => wpAny (model g.prog g.w) A (assign (.Tuple ts k pt) env (.ref T)) Q E s₂) E s := by
  obtain ⟨o, ho, hc, hd⟩ := hI
  unfold letOwnedTupleGo
  refine wpAny_bind (wpAny_load ho ?_)
  rw [hc, hd]
  exact wpAny_pure hQ
theorem Head.pair (hh : A.handled = Option.none) {it l : Addr} {us : List V} {i j : Nat} {x y : Str} {px py pt : Pos} {k : Nat} (hl : VR g F₀ ρ₀ (.ref l) (.lst us)) (S : SameSc sc env) (hv : Vis vs i x) (hv' : Vis vs j y) (hb : stoB sc x = true) (hb' : stoB sc y = true) :
    Head g A (.ref it) env vs [x, y] (.Tuple [.Name x px, .Name y py] k pt) (fun b => b = it) us.length (fun _ j => us[j]?) (putPr i j) (fun _ => True) (fun j h => h.IsListIter it l j) F₀ ρ₀ :=
  have W := Src.list (g := g) (F := F₀) (ρ := ρ₀) hh (it := it) (n := us.length) (fun _ => V.noConfusion) hl
  { self := W.self
    frame := W.frame
    live := W.live
    done := fun F ρ σ s Q E hi R hE hP hf hQ => W.done F ρ σ s Q E hi R hE hP rfl hQ
    turn := fun c F₁ ρ₁ σ₁ m m' s z Q E hj hI R hE hP L hX hz hp hQ => by
      refine W.next c F₁ ρ₁ σ₁ s z _ _ hj hI R hE hP hz fun v h' tk hv'' hI' hk => ?_
      obtain ⟨R₁, L₁, E₁, fn⟩ := headStep (s := s) W.frame W.live R L hX hI' hk
      obtain ⟨a, b, e1, hij, hm⟩ := putPr_spec hp
      rw [e1] at hv''
      obtain ⟨T, xs, nn, e2, q1, q2, q3⟩ := hv''.tup_inv
      obtain ⟨va, vb, e3, ha, hb2⟩ := q2.pair
      rw [e2]
      rw [e3] at q1
      refine listIter_go (s := { s with heap := h', toks := tk }) hI' (asgPair (s := { s with heap := h', toks := tk }) hh R₁ L₁ S hv hv' hb hb' hij.1 hij.2 (R₁.frz _ _ q1) ha hb2 fun h₂ tk₂ R₂ L₂ E₂ => ?_)
      rw [← hm] at L₂
      exact hQ h₂ tk₂ R₂ L₂ (fn h₂ E₂).1 (fn h₂ E₂).2 }
noncomputable def EnumI (e it l : Addr) (j : Nat) (h : Heap) : Prop := (∃ old, IsEnum h e it ((j : Nat) : Int) old) ∧ h.IsListIter it l j
theorem EnumI.frame {e it l : Addr} (j : Nat) (h h' : Heap) (hi : EnumI e it l j h) (hk : ∀ b, (b = e ∨ b = it) → ∀ o, h.get? b = some o → h'.get? b = some o) : EnumI e it l j h' := by
  obtain ⟨⟨old, he⟩, hit⟩ := hi
  exact ⟨⟨old, hk e (.inl rfl) _ he⟩, hit.at fun o q => hk it (.inr rfl) o q⟩
theorem EnumI.live {e it l : Addr} (j : Nat) (h : Heap) (hi : EnumI e it l j h) (b : Addr) (hb : b = e ∨ b = it) : ∃ o, h.get? b = some o := by
  obtain ⟨⟨old, he⟩, ⟨o, ho, _⟩⟩ := hi
  exact hb.elim (fun q => ⟨_, (congrArg h.get? q).trans he⟩) fun q => ⟨o, (congrArg h.get? q).trans ho⟩
theorem turn_list {w z : V} {l : Addr} {n c : Nat} (R : Rel g F ρ σ h) (hw : ∀ us, w ≠ .tup us) (hl : VR g F ρ (.ref l) w) (hz : turnItem σ w n c = some z) : ∃ (xs : Array Value) (v : Value), h.IsList l xs ∧ xs[c]? = some v ∧ VR g F ρ v z := by
  obtain ⟨us, e1, e2⟩ := turnItem_items hz
  obtain ⟨a, xs, k, e3, q3, q1, q2⟩ := R.isL₀ hw hl e1
  cases e3
  obtain ⟨v, hvv, hvr⟩ := q1.get e2
  exact ⟨_, v, ⟨_, q3, rfl, _, rfl⟩, (List.getElem?_toArray ..).trans hvv, hvr⟩
theorem turn_end {w : V} {l : Addr} {n : Nat} (R : Rel g F ρ σ h) (hw : ∀ us, w ≠ .tup us) (hl : VR g F ρ (.ref l) w) (hf : turns σ w = some n) : ∃ xs : Array Value, h.IsList l xs ∧ xs[n]? = Option.none := by
  obtain ⟨us, e1, e2⟩ := turns_items hw hf
  obtain ⟨a, xs, k, e3, q3, q1, q2⟩ := R.isL₀ hw hl e1
  cases e3
  exact ⟨_, ⟨_, q3, rfl, _, rfl⟩, (List.getElem?_toArray ..).trans (List.getElem?_eq_none (Nat.le_of_eq (q1.length.trans e2)))⟩
theorem enum_go {s : Shared} {e it l : Addr} {c k : Nat} {pt : Pos} {ts : List PySem.Expr} {xs : Array Value} {v : Value} {Q : Unit → Shared → Prop} {E : Value → Shared → Prop} (hei : e ≠ it) (hI : EnumI e it l c s.heap) (hl : s.heap.IsList l xs) (hv : xs[c]? = some v)
    (hQ : ∀ h₁, h₁.get? s.heap.objs.size = some (tupO [.int c s.toks, v] 0) → EnumI e it l (c + 1) h₁ → (∀ b o, ¬ (b = e ∨ b = it) → s.heap.get? b = some o → h₁.get? b = some o) →
      wpAny (model g.prog g.w) A (assign (.Tuple ts k pt) env (.ref s.heap.objs.size)) Q E { s with heap := h₁, toks := s.toks + 1 }) :
    wpAny (model g.prog g.w) A (pyNext (.ref e)) (fun r s₁ => match r with
      | Option.none => False
      | some v => wpAny (model g.prog g.w) A (letOwnedTupleGo (.Tuple ts k pt) (.ref e) v) (fun _ s₂ => wpAny (model g.prog g.w) A (assign (.Tuple ts k pt) env v) Q E s₂) E s₁) E s := by
  obtain ⟨⟨old, he⟩, hit⟩ := hI
  refine wpAny_pyNext_enum_item he hit hl hv hei fun h' ho hit' hT hsz hk => ?_
  refine wpAny_letOwnedTupleGo_enum (s := { s with heap := h', toks := s.toks + 1 }) ho fun h₁ he₁ hs₁ => ?_
  exact hQ h₁ ((hs₁.2 _ (none_size_ne he).symm).trans hT) ⟨⟨v, he₁⟩, hit'.at fun o y => (hs₁.2 it hei.symm).trans y⟩
    fun b o hb q => (hs₁.2 b fun z => hb (.inl z)).trans (hk b o (fun z => hb (.inl z)) (fun z => hb (.inr z)) q)
theorem Head.enum (hh : A.handled = Option.none) {e it l : Addr} (hei : e ≠ it) {w : V} {n : Nat} (hw : ∀ us, w ≠ .tup us) {i j : Nat} {x y : Str} {px py pt : Pos} {k : Nat} (hl : VR g F₀ ρ₀ (.ref l) w) (S : SameSc sc env) (hv : Vis vs i x) (hv' : Vis vs j y) (hb : stoB sc x = true) (hb' : stoB sc y = true) :
    Head g A (.ref e) env vs [x, y] (.Tuple [.Name x px, .Name y py] k pt) (fun b => b = e ∨ b = it) n (fun σ j => (turnItem σ w n j).map fun z => .tup [.int j, z]) (putPr i j) (fun σ => turns σ w = some n) (EnumI e it l) F₀ ρ₀ where
  self := fun i s Q E hi hQ => by obtain ⟨⟨old, he⟩, _⟩ := hi; exact wpAny_pyIter_enum he hQ
  frame := EnumI.frame
  live := EnumI.live
  done := fun F₁ ρ₁ σ s Q E hi R hE hP hf hQ => by
    obtain ⟨xs, hl', hlen⟩ := turn_end R hw (hl.mono hE hP) hf
    obtain ⟨⟨old, he⟩, hit⟩ := hi
    exact wpAny_pyNext_enum_end hh he hit hl' hlen fun h' hx => hQ h' s.toks fun b o hb q => hx b o (fun z => hb (.inr z)) q
  turn := fun c F₁ ρ₁ σ₁ m m' s z Q E hj hI R hE hP L hX hz hp hQ => by
    obtain ⟨z0, hz0, hz⟩ := Option.map_eq_some_iff.mp hz
    obtain ⟨a, b, hab, hij, hm⟩ := putPr_spec hp
    obtain ⟨e1, e2⟩ := List.cons.inj (V.tup.inj (hz.trans hab))
    obtain ⟨xs, v, hl', hvv, hvr⟩ := turn_list R hw (hl.mono hE hP) hz0
    refine enum_go hei hI hl' hvv fun h₁ hT hI' hk => ?_
    obtain ⟨R₁, L₁, E₁, fn⟩ := headStep (s := s) EnumI.frame EnumI.live R L hX hI' hk
    rw [← e1, ← (List.cons.inj e2).1] at hm
    refine asgPair (s := { s with heap := h₁, toks := s.toks + 1 }) hh R₁ L₁ S hv hv' hb hb' hij.1 hij.2 hT (.int _ _) hvr fun h₂ tk₂ R₂ L₂ E₂ => ?_
    rw [← hm] at L₂
    exact hQ h₂ tk₂ R₂ L₂ (fn h₂ E₂).1 (fn h₂ E₂).2
end
end Mine
end
section
open PySem PySem.W PyProof.Rows PySem.Calls PySem.SeqAt
namespace Mine
noncomputable def closL (env : Env) : List (Str × NameKind) → List (Str × Addr) → List (Str × Addr)
  | [], acc => acc
  | (n, k) :: r, acc => if k == .free then closL env r ((n, (env.cells.lookup n).getD 0) :: acc) else closL env r acc
theorem clos_forIn (env : Env) (f : Str × NameKind → List (Str × Addr) → Sem (ForInStep (List (Str × Addr))))
    (hf : ∀ n k cs, f (n, k) cs = if k == NameKind.free then (do let c ← cellOf env n; pure (.yield ((n, c) :: cs))) else pure (.yield cs)) :
    ∀ (names : List (Str × NameKind)) (acc : List (Str × Addr)), (∀ nk ∈ names, nk.2 = .free → ∃ c, env.cells.lookup nk.1 = some c) → forIn names acc f = pure (closL env names acc) := by
  intro names
  induction names with
  | nil => intro acc _; rw [List.forIn_nil]; rfl
  | cons nk r ih =>
    obtain ⟨n, k⟩ := nk
    intro acc hc
    have ih := fun acc => ih acc fun nk h => hc nk (List.mem_cons_of_mem _ h)
    rw [List.forIn_cons, hf]
    by_cases hk : (k == NameKind.free) = true
    · obtain ⟨c, e⟩ := hc (n, k) List.mem_cons_self (eq_of_beq hk)
      rw [if_pos hk, show closL env ((n, k) :: r) acc = _ from if_pos hk, e, show cellOf env n = pure c by unfold cellOf; rw [e]]
      exact ih _
    · rw [if_neg hk, show closL env ((n, k) :: r) acc = _ from if_neg hk]
      exact ih _
theorem closureFor_of {scope : Scope} {env : Env} (hc : ∀ nk ∈ scope.names, nk.2 = .free → ∃ c, env.cells.lookup nk.1 = some c) : closureFor scope env = pure (closL env scope.names []) := by
  simp only [closureFor]
  rw [clos_forIn env _ (fun n k cs => by cases hk : k == NameKind.free <;> simp) scope.names [] hc]
  rfl
theorem lk_cons {α : Type} {k : Str} {v : α} {l : List (Str × α)} {x : Str} {d : α} (h : ((k, v) :: l).lookup x = some d) : (x = k ∧ v = d) ∨ l.lookup x = some d := by
  rw [List.lookup_cons] at h
  cases hb : x == k with
  | true => rw [hb] at h; exact .inl ⟨eq_of_beq hb, Option.some.inj h⟩
  | false => rw [hb] at h; exact .inr h
theorem lk_here {α : Type} {k : Str} {v : α} {l : List (Str × α)} : ∃ d, ((k, v) :: l).lookup k = some d := ⟨v, by rw [List.lookup_cons, beq_self_eq_true]⟩
theorem lk_there {α : Type} {k : Str} {v : α} {l : List (Str × α)} {x : Str} (h : ∃ d, l.lookup x = some d) : ∃ d, ((k, v) :: l).lookup x = some d := by
  rw [List.lookup_cons]
  cases x == k with
  | true => exact ⟨v, rfl⟩
  | false => exact h
theorem mem_tl {α β : Type} {x n : α} {k k' : β} {r : List (α × β)} (h : (x, k) ∈ (n, k') :: r) (hk : k' ≠ k) : (x, k) ∈ r :=
  (List.mem_cons.mp h).resolve_left fun e => hk (congrArg Prod.snd e).symm
theorem mem_hd {α β : Type} {x n : α} {k k' : β} {r : List (α × β)} (h : (x, k) ∈ (n, k') :: r) : x = n ∨ (x, k) ∈ r :=
  (List.mem_cons.mp h).imp (congrArg Prod.fst) id
theorem closL_mem {env : Env} {z : Str} {d : Addr} : ∀ {names : List (Str × NameKind)} {acc : List (Str × Addr)}, (∀ nk ∈ names, nk.2 = .free → ∃ c, env.cells.lookup nk.1 = some c) →
    (closL env names acc).lookup z = some d → ((z, NameKind.free) ∈ names ∧ env.cells.lookup z = some d) ∨ acc.lookup z = some d := by
  intro names
  induction names with
  | nil => intro acc _ h; exact .inr h
  | cons nk r ih =>
    obtain ⟨n, k⟩ := nk
    intro acc hc h
    have ih := fun {acc} => ih (acc := acc) fun nk h => hc nk (List.mem_cons_of_mem _ h)
    by_cases hk : (k == NameKind.free) = true
    · rw [show closL env ((n, k) :: r) acc = _ from if_pos hk] at h
      rcases ih h with q | q
      · exact .inl ⟨List.mem_cons_of_mem _ q.1, q.2⟩
      · rcases lk_cons q with ⟨e1, e⟩ | q
        · obtain ⟨c, hc⟩ := hc (n, k) List.mem_cons_self (eq_of_beq hk)
          rw [e1, ← eq_of_beq hk]
          exact .inl ⟨List.mem_cons_self, hc.trans (congrArg some ((congrArg (Option.getD · 0) hc).symm.trans e))⟩
        · exact .inr q
    · rw [show closL env ((n, k) :: r) acc = _ from if_neg hk] at h
      exact (ih h).imp (fun q => ⟨List.mem_cons_of_mem _ q.1, q.2⟩) id
theorem closL_has {env : Env} {x : Str} : ∀ {names : List (Str × NameKind)} {acc : List (Str × Addr)}, ((x, NameKind.free) ∈ names ∨ ∃ c, acc.lookup x = some c) → ∃ c, (closL env names acc).lookup x = some c := by
  intro names
  induction names with
  | nil => intro acc h; exact h.resolve_left (nomatch ·)
  | cons nk r ih =>
    obtain ⟨n, k⟩ := nk
    intro acc h
    by_cases hk : (k == NameKind.free) = true
    · rw [show closL env ((n, k) :: r) acc = _ from if_pos hk]
      refine ih (h.elim (fun h => (mem_hd h).elim (fun e => .inr (e ▸ lk_here)) .inl) fun h => .inr (lk_there h))
    · rw [show closL env ((n, k) :: r) acc = _ from if_neg hk]
      exact ih (h.imp (fun h => mem_tl h fun e => hk (beq_iff_eq.mpr e)) id)
theorem cellsFrom_app : ∀ (names : List (Str × NameKind)) (n : Nat) (acc : List (Str × Addr)), cellsFrom n names acc = cellsFrom n names [] ++ acc := by
  intro names
  induction names with
  | nil => intro n acc; rfl
  | cons nk r ih =>
    obtain ⟨x, k⟩ := nk
    intro n acc
    by_cases hk : (k == NameKind.cell) = true
    · rw [show cellsFrom n ((x, k) :: r) acc = _ from if_pos hk, show cellsFrom n ((x, k) :: r) [] = _ from if_pos hk, ih, ih _ [(x, n)], List.append_assoc]; rfl
    · rw [show cellsFrom n ((x, k) :: r) acc = _ from if_neg hk, show cellsFrom n ((x, k) :: r) [] = _ from if_neg hk]; exact ih _ _
theorem cellsFrom_mem {x : Str} {c : Addr} : ∀ {names : List (Str × NameKind)} {n : Nat} {acc : List (Str × Addr)}, (cellsFrom n names acc).lookup x = some c → (x, NameKind.cell) ∈ names ∨ acc.lookup x = some c := by
  intro names
  induction names with
  | nil => intro n acc h; exact .inr h
  | cons nk r ih =>
    obtain ⟨y, k⟩ := nk
    intro n acc h
    by_cases hk : (k == NameKind.cell) = true
    · rw [show cellsFrom n ((y, k) :: r) acc = _ from if_pos hk] at h
      rw [eq_of_beq hk]
      rcases ih h with h | h
      · exact .inl (List.mem_cons_of_mem _ h)
      · rcases lk_cons h with ⟨e, _⟩ | h
        · exact .inl (e ▸ List.mem_cons_self)
        · exact .inr h
    · rw [show cellsFrom n ((y, k) :: r) acc = _ from if_neg hk] at h
      exact (ih h).imp (List.mem_cons_of_mem _) id
theorem cellsFrom_has {x : Str} : ∀ {names : List (Str × NameKind)} {n : Nat} {acc : List (Str × Addr)}, ((x, NameKind.cell) ∈ names ∨ ∃ c, acc.lookup x = some c) → ∃ c, (cellsFrom n names acc).lookup x = some c := by
  intro names
  induction names with
  | nil => intro n acc h; exact h.resolve_left (nomatch ·)
  | cons nk r ih =>
    obtain ⟨y, k⟩ := nk
    intro n acc h
    by_cases hk : (k == NameKind.cell) = true
    · rw [show cellsFrom n ((y, k) :: r) acc = _ from if_pos hk]
      exact ih (h.elim (fun h => (mem_hd h).elim (fun e => .inr (e ▸ lk_here)) .inl) fun h => .inr (lk_there h))
    · rw [show cellsFrom n ((y, k) :: r) acc = _ from if_neg hk]
      exact ih (h.imp (fun h => mem_tl h fun e => hk (beq_iff_eq.mpr e)) id)
theorem lookup_nodup {α : Type} {l : List (Str × α)} (hn : (l.map (·.1)).Nodup) {x : Str} {k : α} (h : (x, k) ∈ l) : l.lookup x = some k := by
  induction l with
  | nil => cases h
  | cons y r ih =>
    obtain ⟨n, k'⟩ := y
    rw [List.map_cons, List.nodup_cons] at hn
    rw [List.lookup_cons]
    rcases List.mem_cons.mp h with h1 | h1
    · rw [← show x = n from congrArg Prod.fst h1, ← show k = k' from congrArg Prod.snd h1, beq_self_eq_true]
    · rw [beq_eq_false_iff_ne.mpr fun e => hn.1 (show n ∈ r.map (·.1) by rw [← show x = n from e]; exact List.mem_map.mpr ⟨(x, k), h1, rfl⟩)]
      exact ih hn.2 h1
noncomputable def cEnv (inner : Scope) (env : Env) (C : Addr) : Env :=
  { scope := relabel inner env, locals := C, globals := env.globals, cells := cellsFrom (C + 1) inner.names (closL env inner.names []), qual := env.qual, func := Option.none, code := env.code, frame := env.frame, builtins := env.builtins }
theorem lookup_map {f : Str → NameKind → NameKind} {x : Str} : ∀ names : List (Str × NameKind), (names.map fun p => (p.1, f p.1 p.2)).lookup x = (names.lookup x).map (f x) := by
  intro names
  induction names with
  | nil => rfl
  | cons nk r ih =>
    obtain ⟨n, k⟩ := nk
    rw [List.map_cons, List.lookup_cons, List.lookup_cons]
    cases hb : x == n with
    | true => rw [eq_of_beq hb]; rfl
    | false => exact ih
theorem pair_if {c : Bool} {n : Str} {a b : NameKind} : (if c = true then (n, a) else (n, b)) = (n, if c = true then a else b) := by cases c <;> rfl
theorem cEnv_kind {inner : Scope} {env : Env} {C : Addr} (x : Str) : (cEnv inner env C).kindOf x = (inner.names.lookup x).map fun k => if (k == NameKind.free && env.scope.kind == .function && env.kindOf x == some .cell) then NameKind.cell else k :=
  (congrArg (List.lookup x) (List.map_congr_left fun _ _ => pair_if)).trans (lookup_map (f := fun x k => if (k == NameKind.free && env.scope.kind == .function && env.kindOf x == some .cell) then NameKind.cell else k) inner.names)
theorem cEnv_kind_of {inner : Scope} {env : Env} {C : Addr} {x : Str} {k : NameKind} (h : (cEnv inner env C).kindOf x = some k) : inner.names.lookup x = some k ∨ (inner.names.lookup x = some .free ∧ k = .cell) := by
  rw [cEnv_kind] at h
  obtain ⟨k', e, h⟩ := Option.map_eq_some_iff.mp h
  split at h
  · rename_i q
    exact .inr ⟨e.trans (congrArg some (eq_of_beq (b1 (b1 q)))), h.symm⟩
  · exact .inl (h ▸ e)
theorem cEnv_same {inner : Scope} {env : Env} {C : Addr} : SameSc inner (cEnv inner env C) := fun x k h => by
  rw [cEnv_kind, h, Option.map_some]
  split
  · rename_i q
    exact .inr ⟨eq_of_beq (b1 (b1 q)), rfl⟩
  · exact .inl rfl
section
variable {g : GG} {F F' F₀ : FM} {ρ ρ' ρ₀ : RM} {σ σ' : St} {h h' : Heap} {env : Env} {vs : List Str} {m : List V} {X : Addr → Prop} {A : Around} {sc : Scope} {inner : Scope} {xs : List Str} {x : Str} {C d : Addr} {i : Nat} {v : V}
theorem scopeB_spec (h : scopeB inner = true) : inner.kind = .function ∧ (inner.names.map (·.1)).Nodup := ⟨eq_of_beq (b1 (b1 (b1 h))), of_decide_eq_true (b2 h)⟩
theorem freeB_spec (S : SameSc sc env) (hf : freeB sc vs inner = true) (hx : (x, NameKind.free) ∈ inner.names) : x ∈ vs ∧ (env.kindOf x = some .cell ∨ env.kindOf x = some .free) := by
  have q : (vs.contains x && _) = true := List.all_eq_true.mp hf _ hx
  refine ⟨List.contains_iff_mem.mp (b1 q), ?_⟩
  have q := b2 q
  cases e : sc.names.lookup x with
  | none => rw [e] at q; cases q
  | some k =>
    have s := S x k e
    rw [e] at q
    cases k with
    | cell => exact s.elim .inl fun s => .inl s.2
    | free => exact s.elim .inr fun s => .inl s.2
    | _ => cases q
theorem freeB_cells (L : Loc g F ρ σ h env vs m) (S : SameSc sc env) (hf : freeB sc vs inner = true) : ∀ nk ∈ inner.names, nk.2 = .free → ∃ c, env.cells.lookup nk.1 = some c := fun nk hm hk => by
  obtain ⟨x, k⟩ := nk
  obtain ⟨q1, q2⟩ := freeB_spec (x := x) S hf (by rw [← show k = .free from hk]; exact hm)
  obtain ⟨c, w, e, _⟩ := L.cel x q1 q2
  exact ⟨c, e⟩
theorem cEnv_cell (hcl : ∀ nk ∈ inner.names, nk.2 = .free → ∃ c, env.cells.lookup nk.1 = some c) (h : (cEnv inner env C).cells.lookup x = some d) : (x, d) ∈ cellsFrom (C + 1) inner.names [] ∨ ((x, NameKind.free) ∈ inner.names ∧ env.cells.lookup x = some d) := by
  have h : (cellsFrom (C + 1) inner.names (closL env inner.names [])).lookup x = some d := h
  rw [cellsFrom_app, List.lookup_append] at h
  rcases Option.or_eq_some_iff.mp h with h | ⟨_, h⟩
  · exact .inl (mem_of_lookup h)
  · exact .inr ((closL_mem hcl h).resolve_right (nomatch ·))
theorem cEnv_own (hx : (x, NameKind.cell) ∈ inner.names) : ∃ d, (cEnv inner env C).cells.lookup x = some d ∧ (x, d) ∈ cellsFrom (C + 1) inner.names [] := by
  obtain ⟨d, h⟩ := cellsFrom_has (n := C + 1) (acc := []) (.inl hx)
  refine ⟨d, (congrArg (List.lookup x) (cellsFrom_app _ _ _)).trans ?_, mem_of_lookup h⟩
  rw [List.lookup_append, h]; rfl
theorem cEnv_old (hn : (inner.names.map (·.1)).Nodup) (hcl : ∀ nk ∈ inner.names, nk.2 = .free → ∃ c, env.cells.lookup nk.1 = some c) (hx : (x, NameKind.free) ∈ inner.names) : (cEnv inner env C).cells.lookup x = env.cells.lookup x := by
  obtain ⟨d, h⟩ := closL_has (env := env) (acc := []) (.inl hx)
  have hno : (cellsFrom (C + 1) inner.names []).lookup x = Option.none := by
    cases z : (cellsFrom (C + 1) inner.names []).lookup x with
    | none => rfl
    | some d' => exact nomatch (lookup_nodup hn hx).symm.trans (lookup_nodup hn ((cellsFrom_mem z).resolve_right (nomatch ·)))
  refine (congrArg (List.lookup x) (cellsFrom_app _ _ _)).trans ?_
  rw [List.lookup_append, hno, ((closL_mem hcl h).resolve_right (nomatch ·)).2]
  exact h
theorem inner_ok {c : Value} {names : List (Str × NameKind)} : CellsOk (pushCells (h.push { cls := c, data := .dict #[] }) names) (h.objs.size + 1) (cellsFrom (h.objs.size + 1) names []) := by
  have ok := cellsFrom_ok names (h.push { cls := c, data := .dict #[] }) (h.objs.size + 1) [] ⟨fun _ _ hm => (nomatch hm), List.Pairwise.nil⟩ (by rw [Heap.size_push]; exact Nat.le_refl _)
  rwa [Heap.size_push] at ok
theorem size_none (h : Heap) {b : Nat} (hb : h.objs.size ≤ b) : h.get? b = Option.none := by
  cases q : h.get? b with
  | none => rfl
  | some o => exact absurd (Heap.lt_size q) (Nat.not_lt.mpr hb)
theorem own_in (ho : ownB inner vs xs = true) (hx : x ∈ vs ++ xs) (hk : inner.names.lookup x = some .local ∨ inner.names.lookup x = some .cell) : x ∈ xs := by
  refine Classical.byContradiction fun hxx => ?_
  obtain ⟨k, hm, hk⟩ : ∃ k, (x, k) ∈ inner.names ∧ (k == .local || k == .cell) = true := hk.elim (fun h => ⟨_, mem_of_lookup h, rfl⟩) fun h => ⟨_, mem_of_lookup h, rfl⟩
  have h1 := (List.mem_append.mp hx).resolve_right hxx
  rcases Bool.or_eq_true_iff.mp (List.all_eq_true.mp (b1 ho) _ hm) with q | q
  · rcases Bool.or_eq_true_iff.mp q with q | q
    · rw [hk] at q; cases q
    · exact hxx (List.contains_iff_mem.mp q)
  · rw [List.contains_iff_mem.mpr h1] at q; cases q
theorem own_of (ho : ownB inner vs xs = true) (hx : x ∈ xs) : inner.names.lookup x = some .local ∨ inner.names.lookup x = some .cell :=
  (Bool.or_eq_true_iff.mp (List.all_eq_true.mp (b2 ho) _ hx)).imp eq_of_beq eq_of_beq
theorem slot_new (hl : m.length = vs.length) (hv : Vis (vs ++ xs) i x) (hx : x ∈ xs) (hi : (m ++ List.replicate xs.length V.undef)[i]? = some v) : v = .undef := by
  rcases Nat.lt_or_ge i vs.length with q | q
  · obtain ⟨j, hj⟩ := List.mem_iff_getElem?.mp hx
    refine absurd ?_ (hv.2 (vs.length + j) (Nat.lt_of_lt_of_le q (Nat.le_add_right _ _)))
    rw [List.getElem?_append_right (Nat.le_add_right _ _), Nat.add_sub_cancel_left]
    exact hj
  · rw [List.getElem?_append_right (hl ▸ q), List.getElem?_replicate] at hi
    exact (Option.some.inj (if_of hi).2).symm
theorem slot_old {us : List V} (hl : m.length = vs.length) (hv : Vis (vs ++ xs) i x) (hx : x ∉ xs) (hi : (m ++ us)[i]? = some v) : Vis vs i x ∧ m[i]? = some v := by
  have q : i < vs.length := by
    refine Nat.lt_of_not_le fun z => ?_
    have := hv.1
    rw [List.getElem?_append_right z] at this
    exact hx (List.mem_of_getElem? this)
  refine ⟨⟨(List.getElem?_append_left q).symm.trans hv.1, fun j hj e => hv.2 j hj ((List.getElem?_append_left (List.getElem?_eq_some_iff.mp e).1).trans e)⟩, ?_⟩
  exact (List.getElem?_append_left (by rw [hl]; exact q)).symm.trans hi
theorem inner_cel (R : Rel g F ρ σ h) (L : Loc g F ρ σ h env vs m) (S : SameSc sc env) (hs : scopeB inner = true) (hf : freeB sc vs inner = true) (ho : ownB inner vs xs = true) {c : Value} (hx : x ∈ vs ++ xs)
    (hk : (cEnv inner env h.objs.size).kindOf x = some .cell ∨ (cEnv inner env h.objs.size).kindOf x = some .free) :
    ∃ d w, (cEnv inner env h.objs.size).cells.lookup x = some d ∧ (pushCells (h.push { cls := c, data := .dict #[] }) inner.names).IsCell d w ∧ ¬ Own ρ σ d ∧ F d = Option.none ∧ d ≠ h.objs.size ∧
      ∀ (i : Nat) (v : V), Vis (vs ++ xs) i x → (m ++ List.replicate xs.length .undef)[i]? = some v → v ≠ .undef → ∃ y, w = some y ∧ VR g F ρ y v := by
  have hk : inner.names.lookup x = some .cell ∨ inner.names.lookup x = some .free := hk.elim (fun h => (cEnv_kind_of h).imp id (·.1)) fun h => (cEnv_kind_of h).elim .inr fun q => nomatch q.2
  rcases hk with q | q
  · obtain ⟨d, hd, hc⟩ := cEnv_own (env := env) (C := h.objs.size) (mem_of_lookup q)
    obtain ⟨e1, e2⟩ := inner_ok.empty x d hc
    have hn := size_none h (Nat.le_of_lt e2)
    exact ⟨d, Option.none, hd, e1, R.not_own hn, R.not_frz hn, Nat.ne_of_gt e2, fun i v hv hi hu => absurd (slot_new L.len hv (own_in ho hx (.inr q)) hi) hu⟩
  · have hm := mem_of_lookup q
    obtain ⟨q1, q2⟩ := freeB_spec S hf hm
    obtain ⟨d, w, r1, r2, r3, r4, r5, r6⟩ := L.cel x q1 q2
    have hxn : x ∉ xs := fun z => by
      have z := own_of ho z
      rw [q] at z
      exact z.elim (nomatch ·) (nomatch ·)
    exact ⟨d, w, (cEnv_old (scopeB_spec hs).2 (freeB_cells L S hf) hm).trans r1, r2.keeps fun b o e => pushCells_keeps _ _ b o (Heap.get?_push_of_some _ e), r3, r4, Nat.ne_of_lt r2.lt,
      fun i v hv hi hu => (slot_old L.len hv hxn hi).elim fun a b => r6 i v a b hu⟩
theorem inner_inj (L : Loc g F ρ σ h env vs m) (S : SameSc sc env) (hf : freeB sc vs inner = true) {x y : Str} (hx : (cEnv inner env h.objs.size).cells.lookup x = some d) (hy : (cEnv inner env h.objs.size).cells.lookup y = some d) : x = y := by
  have ok : CellsOk _ _ (cellsFrom (h.objs.size + 1) inner.names []) := inner_ok (c := .none)
  have lt : ∀ {x y}, (x, d) ∈ cellsFrom (h.objs.size + 1) inner.names [] → env.cells.lookup y = some d → False := fun a b => by
    obtain ⟨o, q⟩ := L.cal _ _ b
    exact Nat.lt_asymm (Heap.lt_size q) (ok.empty _ _ a).2
  rcases cEnv_cell (freeB_cells L S hf) hx with hx | ⟨_, hx⟩ <;> rcases cEnv_cell (freeB_cells L S hf) hy with hy | ⟨_, hy⟩
  · exact name_of_addr ok.apart hx hy
  · exact (lt hx hy).elim
  · exact (lt hy hx).elim
  · exact L.inj x y d hx hy
theorem Loc.innerEnv (R : Rel g F ρ σ h) (L : Loc g F ρ σ h env vs m) (S : SameSc sc env) (hs : scopeB inner = true) (hf : freeB sc vs inner = true) (ho : ownB inner vs xs = true) {c : Value}
    : Loc g F ρ σ (pushCells (h.push { cls := c, data := .dict #[] }) inner.names) (cEnv inner env h.objs.size) (vs ++ xs) (m ++ List.replicate xs.length .undef) where
  kind := (scopeB_spec hs).1
  glo := L.glo
  bui := L.bui
  len := by rw [List.length_append, List.length_append, List.length_replicate, L.len]
  ns := ⟨_, (Heap.Ns.new h c).keeps (pushCells_keeps _ _), fun i x v hv hk hi hu =>
    absurd (slot_new L.len hv (own_in ho (List.mem_of_getElem? hv.1) (.inl ((cEnv_kind_of hk).elim id fun q => nomatch q.2))) hi) hu⟩
  cel x hx hk := inner_cel R L S hs hf ho hx hk
  inj x y d hx hy := inner_inj L S hf hx hy
  off := ⟨R.not_own (size_none h (Nat.le_refl _)), R.not_frz (size_none h (Nat.le_refl _))⟩
  cal x d hc := by
    rcases cEnv_cell (freeB_cells L S hf) hc with e | ⟨_, e⟩
    · obtain ⟨⟨o, q, _⟩, _⟩ := inner_ok.empty x d e
      exact ⟨o, q⟩
    · obtain ⟨o, q⟩ := L.cal x d e
      exact ⟨o, pushCells_keeps _ _ _ o (Heap.get?_push_of_some _ q)⟩
theorem newCompEnv {M : Model} {E : Value → Shared → Prop} {s : Shared} {Q : Env → Shared → Prop} {cl : List (Str × Addr)}
    (hQ : Q { scope := inner, locals := s.heap.objs.size, globals := env.globals, cells := cellsFrom (s.heap.objs.size + 1) inner.names cl, qual := env.qual, func := Option.none, code := env.code, frame := env.frame, builtins := env.builtins }
      { s with heap := pushCells (s.heap.push { cls := .type "dict", data := .dict #[] }) inner.names }) :
    wpAny M A (newFunctionEnv inner env.globals cl [] env.qual Option.none .none (some env)) Q E s := by
  simp only [newFunctionEnv, Option.isSome_some, if_true]
  refine wpAny_bind (wpAny_alloc ?_)
  refine wpAny_bind (wpAny_layCells _ (fun name kind cells => by cases hkc : kind == NameKind.cell <;> simp) _ _ _ _ ?_)
  rw [show ({ s with heap := s.heap.push { cls := .type "dict", data := .dict #[] } } : Shared).heap.objs.size = s.heap.objs.size + 1 from Heap.size_push ..]
  exact wpAny_bind (wpAny_pure (wpAny_pure hQ))
end
end Mine
end
section
open PySem PySem.W PyProof.Rows PySem.Calls PySem.SeqAt
namespace Mine
section
variable {g : GG} {F F' F₀ : FM} {ρ ρ' ρ₀ : RM} {σ σ' : St} {h h' h₀ : Heap} {env : Env} {vs : List Str} {m : List V} {X : Addr → Prop} {A : Around} {sc : Scope} {inner : Scope} {xs : List Str} {s : Shared} {E : Value → Shared → Prop}
noncomputable abbrev tests (ifs : List PySem.Expr) (env : Env) : Sem Bool := forIn ifs true fun c r => if r = true then do let ok ← isTrue c env (eval c env); pure (ForInStep.yield ok) else pure (ForInStep.yield r)
noncomputable def BodyQ (g : GG) (A : Around) (env : Env) (ifs : List PySem.Expr) (elt : PySem.Expr) (acc : Value) (K : Shared → Prop) (N : Value → Shared → Prop) : Unit → Shared → Prop := fun _ s₂ =>
  wpAny (model g.prog g.w) A (tests ifs env) (fun ok s₃ => if ok = true then wpAny (model g.prog g.w) A (eval elt env) (fun x s₄ => wpAny (model g.prog g.w) A (call (.builtin "list.append") [acc, x]) (fun _ s₅ => K s₅) N s₄) N s₃ else K s₃) N s₂
noncomputable def TurnQ (it : Value) (g : GG) (A : Around) (env : Env) (target : PySem.Expr) (ifs : List PySem.Expr) (elt : PySem.Expr) (acc : Value) (R₀ K : Shared → Prop) (N : Value → Shared → Prop) : Option Value → Shared → Prop := fun r s₁ => match r with
  | Option.none => R₀ s₁
  | some v => wpAny (model g.prog g.w) A (letOwnedTupleGo target it v) (fun _ s' => wpAny (model g.prog g.w) A (assign target env v) (BodyQ g A env ifs elt acc K N) N s') N s₁
theorem compLoop_gen {R : Result → Shared → Prop} {elt target iter : PySem.Expr} {ifs : List PySem.Expr} {scope : Scope} {pos : Pos} {it acc : Value} {env : Env} (I : Nat → Shared → Prop)
    (turn : ∀ n s N, I n s → wpAny (model g.prog g.w) A (pyNext it) (TurnQ it g A env target ifs elt acc (R (.ok .next)) (fun s₅ => ∃ m, m < n ∧ I m s₅) N) N s)
    (n : Nat) (h : I n s) : codeAny (model g.prog g.w) A (.compLoop (.ListComp elt [⟨target, iter, ifs, 0⟩] scope pos) 0 it acc env) R s := by
  refine codeAny_loop rfl I (fun n s hI => ?_) n h
  show wpAny _ A ((compTurn (.ListComp elt [⟨target, iter, ifs, 0⟩] scope pos) 0 it acc env).onRaise (fun x => do noteFrame x env; theTreesLotGoes x)) _ _ s
  refine wpAny_noted ?_
  rw [compTurn_list]
  refine wpAny_bind (wpAny_standAt (wpAny_bind (wpAny_mono (turn n s _ hI) (fun r s₁ h₁ => ?_) fun _ _ h' => h')))
  cases r with
  | none => exact wpAny_pure h₁
  | some v =>
    refine wpAny_bind (wpAny_mono h₁ (fun _ s' h₁ => ?_) fun _ _ h' => h')
    refine wpAny_bind (wpAny_mono h₁ (fun _ s₂ h₂ => wpAny_bind (wpAny_mono h₂ (fun ok s₃ h₃ => ?_) fun _ _ h' => h')) fun _ _ h' => h')
    cases ok with
    | false => exact wpAny_pure ⟨rfl, h₃⟩
    | true =>
      exact wpAny_bind (wpAny_bind (wpAny_mono h₃ (fun x s₄ h₄ => wpAny_bind (wpAny_mono h₄ (fun _ s₅ h₅ => wpAny_pure (wpAny_pure ⟨rfl, h₅⟩)) fun _ _ h' => h')) fun _ _ h' => h'))
noncomputable def BodyOk (g : GG) (A : Around) (env : Env) (vs : List Str) (ifs : List PySem.Expr) (elt : PySem.Expr) (bodyf : List V → St → Option (List V × St)) : Prop :=
  ∀ F ρ σ s mm ys σ', Rel g F ρ σ s.heap → Loc g F ρ σ s.heap env vs mm → bodyf mm σ = some (ys, σ') → ∀ (Q : Option Value → Shared → Prop) E,
    (∀ r F' ρ' h' tk, Rel g F' ρ' σ' h' → Ev NoX F ρ σ s.heap F' ρ' σ' h' → (match r, ys with | some y, [v] => VR g F' ρ' y v | Option.none, [] => True | _, _ => False) → Q r { s with heap := h', toks := tk }) →
    wpAny (model g.prog g.w) A (tests ifs env) (fun ok s₃ => if ok = true then wpAny (model g.prog g.w) A (eval elt env) (fun x s₄ => Q (some x) s₄) E s₃ else Q Option.none s₃) E s
theorem Rel.frzP (R : Rel g F ρ σ h) {a : Addr} {o : Obj} (ha : h.get? a = some o) (hp : ¬ Own ρ σ a ∧ F a = Option.none) :
    Rel g (fun b => if b = a then some o else F b) ρ σ h ∧ Ext F (fun b => if b = a then some o else F b) := by
  have hx : Ext F (fun b => if b = a then some o else F b) := fun b o' e => by
    have : b ≠ a := fun q => by rw [q, hp.2] at e; cases e
    simp only [this, if_false]; exact e
  refine ⟨⟨fun b o' e => ?_, fun b o' e => hx b o' (R.bas b o' e), R.len, fun k i O p e1 e2 => (R.obj k i O p e1 e2).move hx (.refl _) (fun o e => e) (fun o e => e), fun b q => ?_, R.sep⟩, hx⟩
  · skip
    split at e
    · rename_i q; subst q; cases e; exact ha
    · exact R.frz b o' e
  · have : b ≠ a := fun z => hp.1 (z ▸ q)
    simp only [this, if_false]; exact R.off b q
theorem Ev.frzP (e : Ev NoX F₀ ρ₀ σ h F ρ σ' h') {a : Addr} {o : Obj} (hp : F a = Option.none) (hf : h.get? a = Option.none) : Ev NoX F₀ ρ₀ σ h (fun b => if b = a then some o else F b) ρ σ' h' := by
  have hx : Ext F (fun b => if b = a then some o else F b) := fun b o' e => by
    have : b ≠ a := fun q => by rw [q, hp] at e; cases e
    simp only [this, if_false]; exact e
  refine ⟨fun b o' q => hx b o' (e.ext b o' q), e.pre, e.keep, e.alive, e.own, fun b o' q => ?_⟩
  split at q
  · rename_i z; subst z; exact .inr (.inr hf)
  · exact e.frz b o' q
structure Ext2 (put : V → List V → Option (List V)) (ext : V → Option (List V)) (m : List V) (c : Nat) : Prop where
  put : ∀ z w zs, w.length = c → ext z = some zs → put z (m ++ w) = some (m ++ zs) ∧ zs.length = c
noncomputable def stepG (item : St → Nat → Option V) (ext : V → Option (List V)) (bodyf : List V → St → Option (List V × St)) (m : List V) (j : Nat) (τ : St) : Option (List V × St) := (item τ j).bind fun z => (ext z).bind fun zs => bodyf (m ++ zs) τ
theorem cell_new {H : Heap} {C : Addr} (hn : H.objs.size = C + 1) (hcl : ∀ nk ∈ inner.names, nk.2 = .free → ∃ c, env.cells.lookup nk.1 = some c) {x : Str} {c : Addr} (h : (cEnv inner env C).cells.lookup x = some c) : C < c ∨ ((x, NameKind.free) ∈ inner.names ∧ env.cells.lookup x = some c) := by
  have ok := cellsFrom_ok inner.names H (C + 1) [] ⟨fun _ _ hm => (nomatch hm), List.Pairwise.nil⟩ (Nat.le_of_eq hn.symm)
  rw [hn] at ok
  exact (cEnv_cell hcl h).imp (fun q => (ok.empty x c q).2) id
structure CPl (X : Addr → Prop) (inner : Scope) (env : Env) (xs : List Str) (h₀ : Heap) (C D : Addr) : Prop where
  dn : h₀.get? D = Option.none
  cn : h₀.get? C = Option.none
  xd : ¬ X D
  xc : ¬ X C
  dc : D ≠ C
  cells : ∀ x c, (cEnv inner env C).cells.lookup x = some c → ¬ X c ∧ c ≠ D
  xn : ∀ b, XN (cEnv inner env C) xs b → h₀.get? b = Option.none
theorem cpl_of {H : Heap} {D : Addr} (L : Loc g F ρ σ h₀ env vs m) (S : SameSc sc env) (hs : scopeB inner = true) (hf : freeB sc vs inner = true) (ho : ownB inner vs xs = true) (hX : ∀ b, X b → h₀.get? b = Option.none)
    (old : ∀ b o, h₀.get? b = some o → b < D) (hXs : ∀ b, X b → b < D) (hn : H.objs.size = D + 1 + 1) : CPl X inner env xs h₀ (D + 1) D := by
  have non : ∀ b, D ≤ b → h₀.get? b = Option.none := fun b hb => by
    cases q : h₀.get? b with
    | none => rfl
    | some o => exact absurd (old b o q) (Nat.not_lt.mpr hb)
  have hcl := freeB_cells L S hf
  refine ⟨non D (Nat.le_refl _), non _ (Nat.le_succ _), fun q => Nat.lt_irrefl _ (hXs D q), fun q => Nat.not_succ_lt_self (hXs _ q), (Nat.succ_ne_self D).symm, fun x c hc => ?_, ?_⟩
  · rcases cell_new hn hcl hc with hlo | ⟨_, e⟩
    · exact ⟨fun q => Nat.lt_asymm (Nat.lt_of_succ_lt hlo) (hXs c q), Nat.ne_of_gt (Nat.lt_of_succ_lt hlo)⟩
    · obtain ⟨o, r2⟩ := L.cal x c e
      exact ⟨fun q => ns ((hX c q).symm.trans r2), Nat.ne_of_lt (old c _ r2)⟩
  · rintro b (q | ⟨x, hx, q⟩)
    · exact non b (q ▸ Nat.le_succ _)
    · rcases cell_new hn hcl q with hlo | ⟨e, _⟩
      · exact non b (Nat.le_of_lt (Nat.lt_of_succ_lt hlo))
      · have hxs := own_of ho hx
        rw [lookup_nodup (scopeB_spec hs).2 e] at hxs
        exact hxs.elim (nomatch ·) (nomatch ·)
structure CS (g : GG) (F : FM) (ρ : RM) (σ : St) (H4 : Heap) (env : Env) (vs : List Str) (m : List V) (l : Nat) (I : Nat → Heap → Prop) (X Y : Addr → Prop) (D : Addr) (n : Nat) (gn : Nat → St → Option (List V × St)) (total : List V) (σe : St)
    (c j : Nat) (F' : FM) (ρ' : RM) (σ' : St) (h' : Heap) (w : List V) (ys : List Value) (us rest : List V) (nn : Nat) : Prop where
  rel : Rel g F' ρ' σ' h'
  loc : Loc g F' ρ' σ' h' env vs (m ++ w)
  len : w.length = l
  inv : I j h'
  lst : h'.get? D = some (listO ys nn)
  vsr : VsR g F' ρ' ys us
  xp : ∀ b, X b → ¬ Own ρ' σ' b ∧ F' b = Option.none
  dp : ¬ Own ρ' σ' D ∧ F' D = Option.none
  ev : Ev Y F ρ σ H4 F' ρ' σ' h'
  sum : c + j = n
  few : us.length ≤ j
  got : gather gn c j σ' = some (rest, σe)
  tot : us ++ rest = total
inductive CJ (g : GG) (F : FM) (ρ : RM) (σ : St) (H4 : Heap) (env : Env) (vs : List Str) (m : List V) (l : Nat) (I : Nat → Heap → Prop) (X Y : Addr → Prop) (D : Addr) (n : Nat) (gn : Nat → St → Option (List V × St)) (total : List V) (σe : St) (s : Shared) : Nat → Shared → Prop
  | mk {c j : Nat} {F' : FM} {ρ' : RM} {σ' : St} {h' : Heap} {w : List V} {ys : List Value} {us rest : List V} {nn : Nat} (tk : Nat) (W : CS g F ρ σ H4 env vs m l I X Y D n gn total σe c j F' ρ' σ' h' w ys us rest nn) : CJ g F ρ σ H4 env vs m l I X Y D n gn total σe s (c + 1) { s with heap := h', toks := tk }
section
variable {it : Value} {n : Nat} {item : St → Nat → Option V} {put : V → List V → Option (List V)} {ext : V → Option (List V)} {fin : St → Prop} {I : Nat → Heap → Prop} {elt target iter : PySem.Expr} {ifs : List PySem.Expr} {pos : Pos}
    {bodyf : List V → St → Option (List V × St)} {total : List V} {σe : St} {C D : Addr} {H4 : Heap} {Y : Addr → Prop} {gn : Nat → St → Option (List V × St)} {c j : Nat} {F₂ : FM} {ρ₂ : RM} {σ₁ : St} {h₁ h₂ h₃ : Heap} {w zs : List V} {ys : List Value} {us rest rest' : List V} {nn l : Nat}
noncomputable abbrev CY (X : Addr → Prop) (inner : Scope) (env : Env) (xs : List Str) (C D : Addr) : Addr → Prop := fun b => X b ∨ b = D ∨ XN (cEnv inner env C) xs b
theorem CS.mid (W : CS g F ρ σ H4 (cEnv inner env C) vs m l I X (CY X inner env xs C D) D n gn total σe (c + 1) j F' ρ' σ' h' w ys us rest nn) (P : CPl X inner env xs h₀ C D)
    (frame : ∀ j h h', I j h → (∀ b, X b → ∀ o, h.get? b = some o → h'.get? b = some o) → I j h') (live : ∀ j h, I j h → ∀ b, X b → ∃ o, h.get? b = some o)
    (hzl : zs.length = l) (L₁ : Loc g F' ρ' σ' h₁ (cEnv inner env C) vs (m ++ zs)) (hI : I (j + 1) h₁) (E₁ : Ev (fun b => XN (cEnv inner env C) xs b ∨ X b) F' ρ' σ' h' F' ρ' σ' h₁)
    (R₂ : Rel g F₂ ρ₂ σ₁ h₂) (E₂ : Ev NoX F' ρ' σ' h₁ F₂ ρ₂ σ₁ h₂) (hg : gather gn c (j + 1) σ₁ = some (rest', σe)) :
    CS g F ρ σ H4 (cEnv inner env C) vs m l I X (CY X inner env xs C D) D n gn (us ++ rest') σe c (j + 1) F₂ ρ₂ σ₁ h₂ zs ys us rest' nn := by
  have hD₁ : h₁.get? D = some (listO ys nn) := E₁.keep _ _ W.lst W.dp.1 fun q => q.elim (fun q => q.elim P.dc fun ⟨x, _, q⟩ => (P.cells x D q).2 rfl) P.xd
  have pv : ∀ b, (¬ Own ρ' σ' b ∧ F' b = Option.none) → (∃ o, h₁.get? b = some o) → ¬ Own ρ₂ σ₁ b ∧ F₂ b = Option.none := fun b hb ho =>
    have p := Priv.move (X := NoX) (h := h₁) ⟨hb.1, hb.2, ho⟩ E₂
    ⟨p.1, p.2.1⟩
  exact ⟨R₂, L₁.move E₂, hzl, frame _ _ _ hI fun b hb o e => E₂.keep b o e (W.xp b hb).1 fun f => f, E₂.keep _ _ hD₁ W.dp.1 fun f => f, W.vsr.mono E₂.ext E₂.pre, fun b hb => pv b (W.xp b hb) (live _ _ hI b hb), pv D W.dp ⟨_, hD₁⟩,
    (W.ev.trans (E₁.mono fun b hb => hb.elim (fun q => .inr (.inr q)) .inl)).trans E₂.weaken, (Nat.succ_add_eq_add_succ c j).symm.trans W.sum, Nat.le_succ_of_le W.few, hg, rfl⟩
theorem CS.putY {y : Value} {v : V} {nn' : Nat} (W : CS g F ρ σ H4 (cEnv inner env C) vs m l I X (CY X inner env xs C D) D n gn (us ++ rest) σe c (j + 1) F₂ ρ₂ σ₁ h₂ zs ys us rest nn) (P : CPl X inner env xs h₀ C D)
    (frame : ∀ j h h', I j h → (∀ b, X b → ∀ o, h.get? b = some o → h'.get? b = some o) → I j h') (hr : VR g F₂ ρ₂ y v) (hl : us.length ≤ j) (h3 : h₃.get? D = some (listO (ys ++ [y]) nn')) (hk : ∀ b o, b ≠ D → h₂.get? b = some o → h₃.get? b = some o) :
    CS g F ρ σ H4 (cEnv inner env C) vs m l I X (CY X inner env xs C D) D n gn (us ++ ([v] ++ rest)) σe c (j + 1) F₂ ρ₂ σ₁ h₃ zs (ys ++ [y]) (us ++ [v]) rest nn' := by
  have E₃ : Ev (fun b => b = D) F₂ ρ₂ σ₁ h₂ F₂ ρ₂ σ₁ h₃ := Rel.evP (fun b o hb e => hk b o hb e) (fun b hb => hb ▸ ⟨_, h3⟩)
  exact ⟨W.rel.writeP (X := fun b => b = D) (fun b hb => hb ▸ W.dp) (fun b o hb e => hk b o hb e), W.loc.moveX E₃ (fun q => P.dc q.symm) (fun x c hc q => (P.cells x c hc).2 q), W.len, frame _ _ _ W.inv fun b hb o e => hk b o (fun q => P.xd (q ▸ hb)) e, h3,
    W.vsr.append (.single hr), W.xp, W.dp, W.ev.trans (E₃.mono fun b hb => .inr (.inl hb)), W.sum, by rw [List.length_append]; exact Nat.succ_le_succ hl, W.got, List.append_assoc ..⟩
theorem got_of {r : Option Value} {ys : List V} (h : match r, ys with | some y, [v] => VR g F ρ y v | Option.none, [] => True | _, _ => False) : (r = Option.none ∧ ys = []) ∨ ∃ y v, r = some y ∧ ys = [v] ∧ VR g F ρ y v := by
  cases r with
  | none => cases ys with
    | nil => exact .inl ⟨rfl, rfl⟩
    | cons v t => exact h.elim
  | some y => cases ys with
    | nil => exact h.elim
    | cons v t => cases t with
      | nil => exact .inr ⟨y, v, rfl, rfl, h⟩
      | cons _ _ => exact h.elim
theorem comp_turn {R₀ K : Shared → Prop} {N : Value → Shared → Prop} {tk : Nat} (P : CPl X inner env xs h₀ C D) (H : Head g A it (cEnv inner env C) (vs ++ xs) xs target X n item put fin I F ρ) (hX2 : Ext2 put ext m xs.length)
    (hB : BodyOk g A (cEnv inner env C) (vs ++ xs) ifs elt bodyf) (hn : n ≤ LIM)
    (W : CS g F ρ σ H4 (cEnv inner env C) (vs ++ xs) m xs.length I X (CY X inner env xs C D) D n (stepG item ext bodyf m) total σe (c + 1) j F' ρ' σ' h' w ys us rest nn)
    (hK : ∀ s₅, CJ g F ρ σ H4 (cEnv inner env C) (vs ++ xs) m xs.length I X (CY X inner env xs C D) D n (stepG item ext bodyf m) total σe s (c + 1) s₅ → K s₅) :
    wpAny (model g.prog g.w) A (pyNext it) (TurnQ it g A (cEnv inner env C) target ifs elt (.ref D) R₀ K N) N { s with heap := h', toks := tk } := by
  obtain ⟨got, σ₁, q1, q2⟩ := bind_of W.got
  obtain ⟨z, hz, q3⟩ := Option.bind_eq_some_iff.mp q1
  obtain ⟨zs, hzs, q4⟩ := Option.bind_eq_some_iff.mp q3
  obtain ⟨rest', σ₂, g2, he⟩ := bind_of q2
  cases he
  obtain ⟨hput, hzl⟩ := hX2.put z w zs W.len hzs
  have hjn : j + 1 ≤ n := by rw [← W.sum, Nat.add_right_comm]; exact Nat.succ_le_succ (Nat.le_add_left _ _)
  refine wpAny_mono (H.turn j F' ρ' σ' (m ++ w) (m ++ zs) { s with heap := h', toks := tk } z (BodyQ g A (cEnv inner env C) ifs elt (.ref D) K N) N hjn W.inv W.rel W.ev.ext W.ev.pre W.loc
    (fun b hb => ⟨W.xp b hb, fun q => P.xc ((show b = C from q) ▸ hb), fun x c hc q => (P.cells x c hc).1 (q ▸ hb)⟩) hz hput (fun h₁ tk₁ R₁ L₁ hI₁ E₁ => ?_)) (fun r s₁ hr => ?_) fun _ _ e => e
  · refine hB F' ρ' σ' { s with heap := h₁, toks := tk₁ } (m ++ zs) got σ₁ R₁ L₁ q4 (fun r s₄ => match r with
        | some x => wpAny (model g.prog g.w) A (call (.builtin "list.append") [.ref D, x]) (fun _ s₅ => K s₅) N s₄
        | Option.none => K s₄) N ?_
    intro r F₂ ρ₂ h₂ tk₂ R₂ E₂ hr
    have M := W.mid P H.frame H.live hzl L₁ hI₁ E₁ R₂ E₂ g2
    have ht := W.tot
    rcases got_of hr with ⟨rfl, rfl⟩ | ⟨y, v, rfl, rfl, hv⟩
    · exact hK _ (.mk tk₂ (ht ▸ M))
    · refine wpAny_list_append_plain (s := { s with heap := h₂, toks := tk₂ }) (items := ys.toArray) ⟨nn, M.lst⟩ (fun h₃ hl₃ hs₃ => ?_) (by
        rw [List.size_toArray, W.vsr.length, sizeLine_eq]; exact Nat.le_trans W.few (Nat.le_trans (Nat.le_of_succ_le hjn) (Nat.le_trans hn (by decide))))
      obtain ⟨nn', h3⟩ := hl₃
      exact hK _ (.mk tk₂ (ht ▸ M.putY P H.frame hv W.few (by simpa using h3) fun b o hb e => (hs₃.2 b hb).trans e))
  · cases r with
    | none => exact hr.elim
    | some v => exact hr
theorem comp_done {R₀ K : Shared → Prop} {N : Value → Shared → Prop} {tk : Nat} (P : CPl X inner env xs h₀ C D) (H : Head g A it (cEnv inner env C) (vs ++ xs) xs target X n item put fin I F ρ) (hX : ∀ b, X b → h₀.get? b = Option.none) (E₄ : Ev NoX F ρ σ h₀ F ρ σ H4)
    (hn : n ≤ LIM) (hfin : fin σe) (W : CS g F ρ σ H4 (cEnv inner env C) (vs ++ xs) m xs.length I X (CY X inner env xs C D) D n gn total σe 0 j F' ρ' σ' h' w ys us rest nn)
    (hR : ∀ F' ρ' h' tk mC, Rel g F' ρ' σe h' → Ev NoX F ρ σ h₀ F' ρ' σe h' → VR g F' ρ' (.ref D) (.lst total) → h'.Ns C mC → ¬ Own ρ' σe C → F' C = Option.none → R₀ { s with heap := h', toks := tk }) :
    wpAny (model g.prog g.w) A (pyNext it) (TurnQ it g A (cEnv inner env C) target ifs elt (.ref D) R₀ K N) N { s with heap := h', toks := tk } := by
  obtain rfl : j = n := (Nat.zero_add j).symm.trans W.sum
  cases (show some (([] : List V), σ') = some (rest, σe) from W.got)
  obtain rfl : us = total := (List.append_nil us).symm.trans W.tot
  refine wpAny_mono (H.done F' ρ' σ' { s with heap := h', toks := tk } (fun r s₁ => match r with | Option.none => R₀ s₁ | some _ => False) N W.inv W.rel W.ev.ext W.ev.pre hfin (fun h₁ tk₁ hk₁ => ?_)) (fun r s₁ hr => ?_) fun _ _ e => e
  · obtain ⟨R2, hext⟩ := (W.rel.writeP W.xp hk₁).frzP (hk₁ _ _ P.xd W.lst) W.dp
    have EN : Ev NoX F ρ σ h₀ F' ρ' σ' h' := ((E₄.weaken (X := CY X inner env xs C D)).trans W.ev).fresh fun b q => q.elim (hX b) fun q => q.elim (fun q => q ▸ P.dn) (P.xn b)
    obtain ⟨mC, ⟨oC, es, ep, e1, e2⟩, _⟩ := W.loc.ns
    exact hR _ ρ' h₁ tk₁ mC R2 ((EN.endW (h₂ := h₁) hX hk₁).frzP (o := listO ys nn) W.dp.2 P.dn) (.lst (n := nn) (xs := ys) (if_pos rfl) (W.vsr.mono hext (.refl _)) (Nat.le_trans W.few hn)) ⟨oC, es, ep, hk₁ _ _ P.xc e1, e2⟩ W.loc.off.1 ((if_neg P.dc.symm).trans W.loc.off.2)
  · cases r with
    | none => exact hr
    | some v => exact hr.elim
end
theorem comp_core {it : Value} {n : Nat} {item : St → Nat → Option V} {put : V → List V → Option (List V)} {ext : V → Option (List V)} {fin : St → Prop} {I : Nat → Heap → Prop} {elt target iter : PySem.Expr} {ifs : List PySem.Expr} {pos : Pos}
    {bodyf : List V → St → Option (List V × St)} {total : List V} {σe : St} {RR : Value → Addr → Result → Shared → Prop}
    (R₁ : Rel g F ρ σ h₀) (L₁ : Loc g F ρ σ h₀ env vs m) (S : SameSc sc env) (hs : scopeB inner = true) (hf : freeB sc vs inner = true) (ho : ownB inner vs xs = true)
    (hk₀ : ∀ b o, h₀.get? b = some o → s.heap.get? b = some o) (hX : ∀ b, X b → h₀.get? b = Option.none)
    (H : ∀ C, Head g A it (cEnv inner env C) (vs ++ xs) xs target X n item put fin I F ρ) (hI : I 0 s.heap) (hX2 : Ext2 put ext m xs.length)
    (hB : ∀ C, BodyOk g A (cEnv inner env C) (vs ++ xs) ifs elt bodyf) (hlen : ∀ w τ ys τ', bodyf w τ = some (ys, τ') → ys.length ≤ 1) (hn : n ≤ LIM)
    (hg : gather (stepG item ext bodyf m) n 0 σ = some (total, σe)) (hfin : fin σe)
    (hRR : ∀ D C F' ρ' h' tk mC, Rel g F' ρ' σe h' → Ev NoX F ρ σ h₀ F' ρ' σe h' → VR g F' ρ' (.ref D) (.lst total) → h'.Ns C mC → ¬ Own ρ' σe C → F' C = Option.none → h₀.get? C = Option.none → C ≠ D → RR (.ref D) C (.ok .next) { s with heap := h', toks := tk }) :
    wpAny (model g.prog g.w) A (newList []) (fun acc s₃ => wpAny (model g.prog g.w) A (newFunctionEnv inner env.globals (closL env inner.names []) [] env.qual Option.none .none (some env)) (fun cenv s₄ =>
      codeAny (model g.prog g.w) A (.compStart (.ListComp elt [⟨target, iter, ifs, 0⟩] inner pos) 0 it acc { cenv with scope := relabel inner env }) (RR acc cenv.locals) s₄) E s₃) E s := by
  refine wpAny_newObj_type (newCompEnv ?_)
  dsimp only
  generalize hH2 : s.heap.push { cls := .type "list", data := .seq ([] : List Value).toArray } = H2
  have hC : H2.objs.size = s.heap.objs.size + 1 := by rw [← hH2, Heap.size_push]
  have hD2 : H2.get? s.heap.objs.size = some (listO [] 0) := by rw [← hH2]; exact Heap.get?_push_size _ rfl
  have hk2 : ∀ b o, s.heap.get? b = some o → H2.get? b = some o := fun b o e => by rw [← hH2]; exact Heap.get?_push_of_some _ e
  have hI2 := fun C => (H C).live 0 _ hI
  rw [hC]
  generalize hD : s.heap.objs.size = D at *
  obtain ⟨R₃, E₃⟩ := R₁.grow fun b o e => hk2 b o (hk₀ b o e)
  have Li := Loc.innerEnv (c := .type "dict") R₃ (L₁.move E₃) S hs hf ho
  rw [hC] at Li
  have P : CPl X inner env xs h₀ (D + 1) D := cpl_of L₁ S hs hf ho hX (fun b o e => hD ▸ Heap.lt_size (hk₀ b o e)) (fun b hb => by obtain ⟨o, e⟩ := hI2 0 b hb; exact hD ▸ Heap.lt_size e) (H := H2.push { cls := .type "dict", data := .dict #[] }) (by rw [Heap.size_push, hC])
  have hk3 : ∀ b o, H2.get? b = some o → (pushCells (H2.push { cls := .type "dict", data := .dict #[] }) inner.names).get? b = some o := fun b o e => pushCells_keeps _ _ b o (Heap.get?_push_of_some _ e)
  generalize pushCells (H2.push { cls := .type "dict", data := .dict #[] }) inner.names = H4 at Li hk3
  obtain ⟨R₄, E₄⟩ := R₃.grow hk3
  have hI4 : I 0 H4 := (H D).frame 0 _ _ hI fun b hb o e => hk3 _ _ (hk2 _ _ e)
  have loop : codeAny (model g.prog g.w) A (.compLoop (.ListComp elt [⟨target, iter, ifs, 0⟩] inner pos) 0 it (.ref D) (cEnv inner env (D + 1))) (RR (.ref D) (D + 1)) { s with heap := H4 } :=
    compLoop_gen (CJ g F ρ σ H4 (cEnv inner env (D + 1)) (vs ++ xs) m xs.length I X (CY X inner env xs (D + 1) D) D n (stepG item ext bodyf m) total σe s) (fun k s' N hJ => by
      cases hJ with
      | @mk c j F' ρ' σ' h' w ys us rest nn tk W =>
        cases c with
        | zero => exact comp_done P (H (D + 1)) hX (E₃.trans E₄) hn hfin W fun F' ρ' h' tk mC a b c d e f => hRR D (D + 1) F' ρ' h' tk mC a b c d e f P.cn P.dc.symm
        | succ c => exact comp_turn P (H _) hX2 (hB _) hn W fun s₅ h => ⟨c + 1, Nat.lt_succ_self _, h⟩)
      (n + 1) (.mk s.toks ⟨R₄, Li, List.length_replicate, hI4, hk3 _ _ hD2, .nil, fun b hb => ⟨R₁.not_own (hX b hb), R₁.not_frz (hX b hb)⟩, ⟨R₁.not_own P.dn, R₁.not_frz P.dn⟩, .refl _ _ _ _ _, Nat.add_zero n, Nat.zero_le _, hg, rfl⟩)
  exact codeAny_compStart_list loop ((H (D + 1)).self 0 _ _ _ hI4 loop)
end
end Mine
end
section
open PySem PySem.W PyProof.Rows PySem.Calls PySem.SeqAt
namespace Mine
theorem starEach_ns {e : PySem.Expr} (h : notStar e = true) (r : List PySem.Expr) (env : Env) : starEach (e :: r) env = (false, eval e env) :: starEach r env := by
  cases e <;> first | rfl | cases h
theorem subscripted_ns {sl : PySem.Expr} (h : notSlice sl = true) (o i : Value) : subscripted sl false o i = operate [o, i] (getItem o i) := by
  cases sl <;> first | rfl | cases h
theorem attributeBase_ns {o : PySem.Expr} (h : notSup o = true) (attr : Str) (env : Env) (whole : Sem Value) : attributeBase o attr env whole = whole := by
  cases o <;> first | rfl | cases h
theorem wp_eq {α : Type} {M : Model} {A : Around} {t t' : Sem α} {Q : α → Shared → Prop} {E : Value → Shared → Prop} {s : Shared} (h : t = t') (H : wpAny M A t' Q E s) : wpAny M A t Q E s := h ▸ H
theorem foldedSet_ns {e : PySem.Expr} (h : notSet e = true) (env : Env) (x : Value) : foldedSetIterable e env x = pure x := by
  cases e <;> first | rfl | cases h
theorem fldN_get {k : Kd} {j : Nat} (h : j < (fields k).length) : (fields k)[j]? = some (fldN k j) := by
  unfold fldN
  rw [List.getD_eq_getElem?_getD, List.getElem?_eq_getElem h]; rfl
section
variable {g : GG} {G : Glob} {F F' F₀ F₁ : FM} {ρ ρ' ρ₀ ρ₁ : RM} {σ σ' σ₁ : St} {h h' h₀ h₁ : Heap} {env : Env} {vs : List Str} {m : List V} {X : Addr → Prop} {A : Around} {sc : Scope} {s : Shared} {E : Value → Shared → Prop} {cl : CallF} {d : Nat}
theorem Post.from {v : V} {Q : Value → Shared → Prop} (hQ : Post g F ρ σ s v σ' Q) (e : Ev NoX F ρ σ s.heap F₁ ρ₁ σ₁ h₁) (tk : Nat) : Post g F₁ ρ₁ σ₁ { s with heap := h₁, toks := tk } v σ' Q :=
  fun y F' ρ' h' tk' R E V => hQ y F' ρ' h' tk' R (e.trans E) V
theorem PostB.from {b : Bool} {Q : Bool → Shared → Prop} (hQ : PostB g F ρ σ s b σ' Q) (e : Ev NoX F ρ σ s.heap F₁ ρ₁ σ₁ h₁) (tk : Nat) : PostB g F₁ ρ₁ σ₁ { s with heap := h₁, toks := tk } b σ' Q :=
  fun F' ρ' h' tk' R E => hQ F' ρ' h' tk' R (e.trans E)
theorem PostL.from {v : List V} {Q : List Value → Shared → Prop} (hQ : PostL g F ρ σ s v σ' Q) (e : Ev NoX F ρ σ s.heap F₁ ρ₁ σ₁ h₁) (tk : Nat) : PostL g F₁ ρ₁ σ₁ { s with heap := h₁, toks := tk } v σ' Q :=
  fun y F' ρ' h' tk' R E V => hQ y F' ρ' h' tk' R (e.trans E) V
theorem Post.eq {v w : V} {σ₀ : St} {Q : Value → Shared → Prop} (hQ : Post g F ρ σ s w σ' Q) (h : some (v, σ₀) = some (w, σ')) : Post g F ρ σ s v σ₀ Q := by
  cases h; exact hQ
theorem PostB.eq {v w : Bool} {σ₀ : St} {Q : Bool → Shared → Prop} (hQ : PostB g F ρ σ s w σ' Q) (h : some (v, σ₀) = some (w, σ')) : PostB g F ρ σ s v σ₀ Q := by
  cases h; exact hQ
theorem EvOk.use {a : ME} {α : Type} (ha : EvOk g G cl d a) {e : PySem.Expr} {k : V × St → Option α} {r : α} {Q : Value → Shared → Prop} {E : Value → Shared → Prop} (hr : Room A d) (R : Rel g F ρ σ s.heap) (L : Loc g F ρ σ s.heap env vs m) (S : SameSc sc env) (hc : ok G a sc vs e = true)
    (he : (ev cl a m σ).bind k = some r) (H : ∀ x σ₁ va F₁ ρ₁ h₁ t₁, Rel g F₁ ρ₁ σ₁ h₁ → Loc g F₁ ρ₁ σ₁ h₁ env vs m → Ev NoX F ρ σ s.heap F₁ ρ₁ σ₁ h₁ → VR g F₁ ρ₁ va x → k (x, σ₁) = some r → Q va { s with heap := h₁, toks := t₁ }) :
    wpAny (model g.prog g.w) A (eval (build a vs e) env) Q E s := by
  obtain ⟨x, σ₁, e1, he⟩ := bind_of he
  exact ha A env sc vs m F ρ σ s e x σ₁ hr R L S hc e1 Q E fun va F₁ ρ₁ h₁ t₁ R₁ E₁ V₁ => H x σ₁ va F₁ ρ₁ h₁ t₁ R₁ (L.move E₁) E₁ V₁ he
theorem EvTOk.use {a : ME} {α : Type} (ha : EvTOk g G cl d a) {e : PySem.Expr} {k : Bool × St → Option α} {r : α} {Q : Bool → Shared → Prop} {E : Value → Shared → Prop} (hr : Room A d) (R : Rel g F ρ σ s.heap) (L : Loc g F ρ σ s.heap env vs m) (S : SameSc sc env) (hc : ok G a sc vs e = true)
    (he : (evT cl a m σ).bind k = some r) (H : ∀ x σ₁ F₁ ρ₁ h₁ t₁, Rel g F₁ ρ₁ σ₁ h₁ → Loc g F₁ ρ₁ σ₁ h₁ env vs m → Ev NoX F ρ σ s.heap F₁ ρ₁ σ₁ h₁ → k (x, σ₁) = some r → Q x { s with heap := h₁, toks := t₁ }) :
    wpAny (model g.prog g.w) A (isTrue (build a vs e) env (eval (build a vs e) env)) Q E s := by
  obtain ⟨x, σ₁, e1, he⟩ := bind_of he
  exact ha A env sc vs m F ρ σ s e x σ₁ hr R L S hc e1 Q E fun F₁ ρ₁ h₁ t₁ R₁ E₁ => H x σ₁ F₁ ρ₁ h₁ t₁ R₁ (L.move E₁) E₁ he
theorem ok_con {v : V} : EvOk g G cl d (.con v) := by
  intro A env sc vs m F ρ σ s e w σ' hr R L S hc he Q E hQ
  have hQ := hQ.eq he
  cases v with
  | none => exact wpAny_Constant_none (hQ.same R .none)
  | bool b => exact wpAny_Constant_bool (hQ.same R (.bool _))
  | int i => exact wpAny_Constant_int (hQ.tok R (.int _ _) _)
  | str x => exact wpAny_Constant_str (hQ.tok R (.str _ _) _)
  | _ => cases hc
theorem loc_of {x : Option V} {σ₀ : St} {z : V × St} (h : (match x with | some .undef => Option.none | some v => some (v, σ₀) | Option.none => Option.none) = some z) : ∃ v, x = some v ∧ v ≠ .undef ∧ some (v, σ₀) = some z := by
  cases x with
  | none => cases h
  | some v => cases v with
    | undef => cases h
    | _ => exact ⟨_, rfl, (fun q => by cases q), h⟩
theorem ok_loc {i : Nat} : EvOk g G cl d (.loc i) := by
  intro A env sc vs m F ρ σ s e w σ' hr R L S hc he Q E hQ
  obtain ⟨v, hv, hu, he⟩ := loc_of he
  exact L.load S (visB_spec (b1 hc)) (b2 hc) hv hu fun y hy => (hQ.eq he).same R hy
theorem gloB_spec {x : Str} (h : gloB sc x = true) : (x == ("__debug__" : Str)) = false ∧ sc.names.lookup x = some .globalImplicit := by
  unfold gloB at h
  obtain ⟨h1, h2⟩ := Bool.and_eq_true_iff.mp h
  have h1' : ¬ x ∈ oddNames := by simpa using h1
  have e1 : x ≠ ("__debug__" : Str) := fun e => h1' (by rw [e]; simp [oddNames])
  exact ⟨beq_eq_false_iff_ne.mpr e1, by simpa using h2⟩
theorem glob_kind (S : SameSc sc env) {x : Str} (h : sc.names.lookup x = some .globalImplicit) : env.kindOf x = some .globalImplicit := by
  rcases S x _ h with q | ⟨q, _⟩
  · exact q
  · cases q
theorem load_glob {x : Str} {pos : Pos} {y : Value} {Q : Value → Shared → Prop} (R : Rel g F ρ σ s.heap) (L : Loc g F ρ σ s.heap env vs m) (S : SameSc sc env) (hb : gloB sc x = true) (e : nsIn g.K mainGlobals x = some (some y)) (hQ : Q y s) :
    wpAny (model g.prog g.w) A (eval (.Name x pos) env) Q E s := by
  obtain ⟨h1, h2⟩ := gloB_spec hb
  exact Name_function_global L.kind (glob_kind S h2) (loadGlobal_global (by rw [L.glo]; exact R.ns_mg) (mg_of g.X g.T.g e) hQ) h1
theorem load_bi {x : Str} {pos : Pos} {y : Value} {Q : Value → Shared → Prop} (R : Rel g F ρ σ s.heap) (L : Loc g F ρ σ s.heap env vs m) (S : SameSc sc env) (hb : gloB sc x = true) (e : nsIn g.K mainGlobals x = some Option.none) (hv : bootBuiltins x = some y) (hn : x ≠ "__name__") (hQ : Q y s) :
    wpAny (model g.prog g.w) A (eval (.Name x pos) env) Q E s := by
  obtain ⟨h1, h2⟩ := gloB_spec hb
  exact Name_function_global L.kind (glob_kind S h2) (loadGlobal_builtin (by rw [L.glo]; exact R.ns_mg) (mg_none_of g.X g.T.g e) (by rw [L.bui]; exact R.ns_mb) ((g.T.builtins x hn).trans hv) hQ) h1
theorem glob_of {x : Option V} {v : V} (h : (match x with | some u => sameV u v | Option.none => false) = true) : x = some v := by
  cases x with
  | some u => exact congrArg some (sameV_eq h)
  | none => cases h
theorem ok_glob (GO : GOk g G) {x : Str} {v : V} : EvOk g G cl d (.glob x v) := by
  intro A env sc vs m F ρ σ s e w σ' hr R L S hc he Q E hQ
  obtain ⟨y', e1, e2⟩ := GO.val _ _ (glob_of (b2 hc))
  exact load_glob R L S (b1 hc) e1 ((hQ.eq he).same R (e2 _ _))
theorem ok_bin {op : Operator} {a b : ME} (ha : EvOk g G cl d a) (hb : EvOk g G cl d b) : EvOk g G cl d (.bin op a b) := by
  intro A env sc vs m F ρ σ s e w σ' hr R L S hc he Q E hQ
  refine wpAny_BinOp (ha.use hr R L S (b1 hc) he fun x σ₁ va F₁ ρ₁ h₁ t₁ R₁ L₁ E₁ V₁ he => ?_)
  refine hb.use hr R₁ L₁ S (b2 hc) he fun y σ₂ vb F₂ ρ₂ h₂ t₂ R₂ L₂ E₂ V₂ he => ?_
  obtain ⟨z, e3, he⟩ := Option.bind_eq_some_iff.mp he
  exact binop_ok (s := { s with heap := h₂, toks := t₂ }) R₂ (deref_ok R₂ (V₁.mono E₂.ext E₂.pre)) (deref_ok R₂ V₂) e3 _ _ ((hQ.from (E₁.trans E₂) t₂).eq he)
theorem ok_neg {a : ME} (ha : EvOk g G cl d a) : EvOk g G cl d (.neg a) := by
  intro A env sc vs m F ρ σ s e w σ' hr R L S hc he Q E hQ
  refine wpAny_UnaryOp (ha.use hr R L S hc he fun x σ₁ va F₁ ρ₁ h₁ t₁ R₁ L₁ E₁ V₁ he => ?_)
  obtain ⟨i, rfl, he⟩ := int_of (f := fun i => some (V.int (-i), σ₁)) he
  obtain ⟨t, rfl⟩ := V₁.int_inv
  exact PyProof.Rows.neg_int (((hQ.from E₁ t₁).eq he).tok R₁ (.int _ _) _)
theorem ok_not {a : ME} (ha : EvOk g G cl d a) : EvOk g G cl d (.not a) := by
  intro A env sc vs m F ρ σ s e w σ' hr R L S hc he Q E hQ
  refine wpAny_UnaryOp (ha.use hr R L S hc he fun x σ₁ va F₁ ρ₁ h₁ t₁ R₁ L₁ E₁ V₁ he => ?_)
  obtain ⟨i, rfl, he⟩ := bool_of (f := fun i => some (V.bool (!i), σ₁)) he
  have := V₁.bool_inv; subst this
  exact not_of (wpAny_truthy_bool (((hQ.from E₁ t₁).eq he).same R₁ (.bool _)))
theorem Room.eq {A : Around} {d : Nat} (r : Room A d) : A.units + 64 < cLine := by have := r.units; lia
theorem ok_cmp (C : ∀ k, isInstKd k = true → ClsOk g k) {op : CmpOp} {a b : ME} (ha : EvOk g G cl d a) (hb : EvOk g G cl d b) : EvOk g G cl d (.cmp op a b) := by
  intro A env sc vs m F ρ σ s e w σ' hr R L S hc he Q E hQ
  refine wpAny_Compare1 (ha.use hr R L S (b1 (b2 hc)) he fun x σ₁ va F₁ ρ₁ h₁ t₁ R₁ L₁ E₁ V₁ he => ?_) ((Bool.not_eq_true' _).mp (b1 hc))
  refine hb.use hr R₁ L₁ S (b2 (b2 hc)) he fun y σ₂ vb F₂ ρ₂ h₂ t₂ R₂ L₂ E₂ V₂ he => ?_
  obtain ⟨z, e3, he⟩ := Option.bind_eq_some_iff.mp he
  exact cmpop_ok (s := { s with heap := h₂, toks := t₂ }) C hr.eq R₂ (deref_ok R₂ (V₁.mono E₂.ext E₂.pre)) (deref_ok R₂ V₂) e3 _ _ ((hQ.from (E₁.trans E₂) t₂).eq he)
theorem okT_cmp (C : ∀ k, isInstKd k = true → ClsOk g k) {op : CmpOp} {a b : ME} (ha : EvOk g G cl d a) (hb : EvOk g G cl d b) : EvTOk g G cl d (.cmp op a b) := by
  intro A env sc vs m F ρ σ s e w σ' hr R L S hc he Q E hQ
  refine wpAny_isTrue_Compare1 (ha.use hr R L S (b1 (b2 hc)) he fun x σ₁ va F₁ ρ₁ h₁ t₁ R₁ L₁ E₁ V₁ he => ?_) ((Bool.not_eq_true' _).mp (b1 hc))
  refine hb.use hr R₁ L₁ S (b2 (b2 hc)) he fun y σ₂ vb F₂ ρ₂ h₂ t₂ R₂ L₂ E₂ V₂ he => ?_
  obtain ⟨z, e3, he⟩ := Option.bind_eq_some_iff.mp he
  refine cmpop_ok (s := { s with heap := h₂, toks := t₂ }) C hr.eq R₂ (deref_ok R₂ (V₁.mono E₂.ext E₂.pre)) (deref_ok R₂ V₂) e3 _ _ fun y F₃ ρ₃ h₃ t₃ R₃ E₃ V₃ => ?_
  have := V₃.bool_inv; subst this
  exact wpAny_truthy_bool (hQ.eq he F₃ ρ₃ h₃ t₃ R₃ ((E₁.trans E₂).trans E₃))
theorem ok_ite {t a b : ME} (ht : EvTOk g G cl d t) (ha : EvOk g G cl d a) (hb : EvOk g G cl d b) : EvOk g G cl d (.ite t a b) := by
  intro A env sc vs m F ρ σ s e w σ' hr R L S hc he Q E hQ
  refine wpAny_IfExp (ht.use hr R L S (b1 hc) he fun c σ₁ F₁ ρ₁ h₁ t₁ R₁ L₁ E₁ he => ?_)
  cases c with
  | true => exact ha A env sc vs m F₁ ρ₁ σ₁ _ _ w σ' hr R₁ L₁ S (b1 (b2 hc)) he _ _ (hQ.from E₁ t₁)
  | false => exact hb A env sc vs m F₁ ρ₁ σ₁ _ _ w σ' hr R₁ L₁ S (b2 (b2 hc)) he _ _ (hQ.from E₁ t₁)
theorem okT_ite {t a b : ME} (ht : EvTOk g G cl d t) (ha : EvTOk g G cl d a) (hb : EvTOk g G cl d b) : EvTOk g G cl d (.ite t a b) := by
  intro A env sc vs m F ρ σ s e w σ' hr R L S hc he Q E hQ
  refine isTrue_IfExp (ht.use hr R L S (b1 hc) he fun c σ₁ F₁ ρ₁ h₁ t₁ R₁ L₁ E₁ he => ?_)
  cases c with
  | true => exact ha A env sc vs m F₁ ρ₁ σ₁ _ _ w σ' hr R₁ L₁ S (b1 (b2 hc)) he _ _ (hQ.from E₁ t₁)
  | false => exact hb A env sc vs m F₁ ρ₁ σ₁ _ _ w σ' hr R₁ L₁ S (b2 (b2 hc)) he _ _ (hQ.from E₁ t₁)
theorem okT_not {a : ME} (ha : EvTOk g G cl d a) : EvTOk g G cl d (.not a) := by
  intro A env sc vs m F ρ σ s e w σ' hr R L S hc he Q E hQ
  exact isTrue_not (ha.use hr R L S hc he fun c σ₁ F₁ ρ₁ h₁ t₁ R₁ L₁ E₁ he => hQ.eq he F₁ ρ₁ h₁ t₁ R₁ E₁)
theorem okT_plain {a : ME} (ha : EvOk g G cl d a) (hp : ∀ vs e, ∀ env whole, PySem.isTrue (build a vs e) env whole = (do let v ← whole; standAt (build a vs e).pos; holding [v] (truthy v)))
    (hv : ∀ m σ b σ', evT cl a m σ = some (b, σ') → ev cl a m σ = some (.bool b, σ')) : EvTOk g G cl d a := by
  intro A env sc vs m F ρ σ s e w σ' hr R L S hc he Q E hQ
  refine isTrue_plain (ha A env sc vs m F ρ σ s _ _ _ hr R L S hc (hv _ _ _ _ he) _ _ fun y F₁ ρ₁ h₁ t₁ R₁ E₁ V₁ => ?_) (hp vs e env _)
  have := V₁.bool_inv; subst this
  exact wpAny_truthy_bool (hQ F₁ ρ₁ h₁ t₁ R₁ E₁)
theorem oks_nil : EvsOk g G cl d [] := by
  intro A env sc vs m F ρ σ s es w σ' hr R L S hc he pos Q E hQ
  cases he
  exact Calls.spliced_nil (hQ [] F ρ s.heap s.toks R (.refl _ _ _ _ _) .nil)
theorem EvsOk.use {as : List ME} {α : Type} (ha : EvsOk g G cl d as) {es : List PySem.Expr} {k : List V × St → Option α} {r : α} {Q : List Value → Shared → Prop} {pos : Pos} {E : Value → Shared → Prop} (hr : Room A d) (R : Rel g F ρ σ s.heap) (L : Loc g F ρ σ s.heap env vs m) (S : SameSc sc env) (hc : oks G as sc vs es = true)
    (he : (evs cl as m σ).bind k = some r) (H : ∀ x σ₁ va F₁ ρ₁ h₁ t₁, evs cl as m σ = some (x, σ₁) → Rel g F₁ ρ₁ σ₁ h₁ → Ev NoX F ρ σ s.heap F₁ ρ₁ σ₁ h₁ → VsR g F₁ ρ₁ va x → k (x, σ₁) = some r → Q va { s with heap := h₁, toks := t₁ }) :
    wpAny (model g.prog g.w) A (spliced (backTo pos (starEach (builds as vs es) env))) Q E s := by
  obtain ⟨x, σ₁, e1, he⟩ := bind_of he
  exact ha A env sc vs m F ρ σ s es x σ₁ hr R L S hc e1 pos Q E fun va F₁ ρ₁ h₁ t₁ R₁ E₁ V₁ => H x σ₁ va F₁ ρ₁ h₁ t₁ e1 R₁ E₁ V₁ he
theorem PostL.eq {v w : List V} {σ₀ : St} {Q : List Value → Shared → Prop} (hQ : PostL g F ρ σ s w σ' Q) (h : some (v, σ₀) = some (w, σ')) : PostL g F ρ σ s v σ₀ Q := by
  cases h; exact hQ
theorem oks_cons {a : ME} {r : List ME} (ha : EvOk g G cl d a) (hr' : EvsOk g G cl d r) : EvsOk g G cl d (a :: r) := by
  intro A env sc vs m F ρ σ s es w σ' hr R L S hc he pos Q E hQ
  obtain ⟨x, σ₁, e1, he⟩ := bind_of he
  refine wp_eq (congrArg (fun z => spliced (backTo pos z)) (starEach_ns (b1 hc) (builds r vs es.tail) env)) ?_
  refine Calls.spliced_cons (ha A env sc vs m F ρ σ s _ x σ₁ hr R L S (b1 (b2 hc)) e1 _ _ fun va F₁ ρ₁ h₁ t₁ R₁ E₁ V₁ => ?_)
  refine hr'.use hr R₁ (L.move E₁) S (b2 (b2 hc)) he fun xs σ₂ vb F₂ ρ₂ h₂ t₂ _ R₂ E₂ V₂ he => ?_
  exact hQ.eq he (va :: vb) F₂ ρ₂ h₂ t₂ R₂ (E₁.trans E₂) (.cons (V₁.mono E₂.ext E₂.pre) V₂)
theorem evs_length {es : List ME} : ∀ {m : List V} {σ : St} {xs : List V} {σ' : St}, evs cl es m σ = some (xs, σ') → xs.length = es.length := by
  induction es with
  | nil => intro m σ xs σ' h; cases h; rfl
  | cons e r ih =>
    intro m σ xs σ' h
    obtain ⟨x, σ₁, e1, h⟩ := bind_of h
    obtain ⟨ys, σ₂, e2, h⟩ := bind_of h
    cases h
    exact congrArg (· + 1) (ih e2)
theorem size30 {n k : Nat} (h : n = k) {m : Nat} (h' : k = m) (q : decide (m ≤ 30) = true) : n ≤ sizeLine ∧ k ≤ LIM := by
  have := of_decide_eq_true q
  rw [sizeLine_eq, LIM]; lia
theorem ok_tup {es : List ME} (hs : EvsOk g G cl d es) : EvOk g G cl d (.tup es) := by
  intro A env sc vs m F ρ σ s e w σ' hr R L S hc he Q E hQ
  refine wpAny_Tuple_spliced (hs.use hr R L S (b2 hc) he fun xs σ₁ ys F₁ ρ₁ h₁ t₁ e1 R₁ E₁ V₁ he => ?_)
  have hl := size30 V₁.length (evs_length e1) (b1 hc)
  exact ⟨hl.1, ((hQ.from E₁ t₁).eq he).newTup R₁ V₁ hl.2 t₁⟩
theorem ok_lst {es : List ME} (hs : EvsOk g G cl d es) : EvOk g G cl d (.lst es) := by
  intro A env sc vs m F ρ σ s e w σ' hr R L S hc he Q E hQ
  refine wpAny_List_spliced (hs.use hr R L S (b2 hc) he fun xs σ₁ ys F₁ ρ₁ h₁ t₁ e1 R₁ E₁ V₁ he => ?_)
  have hl := size30 V₁.length (evs_length e1) (b1 hc)
  exact ⟨hl.1, ((hQ.from E₁ t₁).eq he).newLst R₁ V₁ hl.2 t₁⟩
theorem ok_newl {k : Kd} {es : List ME} (hs : EvsOk g G cl d es) : EvOk g G cl d (.newl k es) := by
  intro A env sc vs m F ρ σ s e w σ' hr R L S hc he Q E hQ
  refine wpAny_List_spliced (hs.use hr R L S (b2 hc) he fun xs σ₁ ys F₁ ρ₁ h₁ t₁ e1 R₁ E₁ V₁ he => ?_)
  have hl := size30 V₁.length (evs_length e1) (b1 hc)
  refine ⟨hl.1, ?_⟩
  obtain ⟨R', E', hv⟩ := R₁.newO (k := k) (O := .list xs) (h' := h₁.push { cls := .type "list", data := .seq ys.toArray }) (fun b o e => Heap.get?_push_of_some _ e) (Heap.none_size h₁) (Heap.none_size h₁)
    ⟨rfl, ys, 0, Heap.get?_push_size _ rfl, V₁.mono (.refl _) (pre_push _ _ _), hl.2⟩
  exact hQ.eq he _ F₁ _ _ t₁ R' (E₁.trans E') hv
theorem get2_of {α : Type} {o : Option (List V)} {j : Nat} {f : V → Option α} {z : α} (h : (o.bind fun vs => (vs[j]?).bind f) = some z) : ∃ us u, o = some us ∧ us[j]? = some u ∧ f u = some z := by
  obtain ⟨us, e, h⟩ := Option.bind_eq_some_iff.mp h
  obtain ⟨u, e', h⟩ := Option.bind_eq_some_iff.mp h
  exact ⟨us, u, e, e', h⟩
theorem ok_attr (C : ∀ k, isInstKd k = true → ClsOk g k) {a : ME} {k : Kd} {j : Nat} (ha : EvOk g G cl d a) : EvOk g G cl d (.attr a k j) := by
  intro A env sc vs m F ρ σ s e w σ' hr R L S hc he Q E hQ
  have hc' := b2 hc
  refine wp_eq (arm_eval_Attribute _ _ _ _) (wpAny_bind (wp_eq (attributeBase_ns (b1 hc') _ _ _) ?_))
  refine ha.use hr R L S (b2 (b2 hc')) he fun x σ₁ va F₁ ρ₁ h₁ t₁ R₁ L₁ E₁ V₁ he => ?_
  obtain ⟨i, rfl, hf⟩ := ref_inv (f := fun k i => (σ₁.ins k i).bind fun vs => (vs[j]?).bind fun z => some (z, σ₁)) he
  obtain ⟨us, z, e2, e3, hf⟩ := get2_of hf
  refine wpAny_bind (wpAny_standAt (wpAny_bind (wpAny_holding (attr_ok (s := { s with heap := h₁, toks := t₁ }) C R₁ V₁ (b1 hc) e2 (fldN_get (of_decide_eq_true (b1 (b2 hc')))) e3 _ _ fun r F₂ ρ₂ h₂ t₂ R₂ E₂ V₂ => ?_))))
  exact wpAny_bind (wpAny_letTemporaryGo (wpAny_pure (hQ.eq hf r F₂ ρ₂ h₂ t₂ R₂ (E₁.trans E₂) V₂)))
theorem typeIs_items {y : Value} {x : V} {us : List V} (R : Rel g F ρ σ s.heap) (hy : VR g F ρ y x) (e : items σ x = some us) : s.TypeIs y "list" ∨ s.TypeIs y "tuple" := by
  obtain ⟨a, xs, k, rfl, q1, q2, q3⟩ := R.items hy e
  rcases q3 with q3 | q3
  · exact .inl ⟨_, q3, rfl⟩
  · exact .inr ⟨_, q3, rfl⟩
theorem ok_idx {a i : ME} (ha : EvOk g G cl d a) (hi : EvOk g G cl d i) : EvOk g G cl d (.idx a i) := by
  intro A env sc vs m F ρ σ s e w σ' hr R L S hc he Q E hQ
  refine Subscript_ (ha.use hr R L S (b1 (b2 hc)) he fun x σ₁ va F₁ ρ₁ h₁ t₁ R₁ L₁ E₁ V₁ he => ?_)
  refine hi.use hr R₁ L₁ S (b2 (b2 hc)) he fun y σ₂ vb F₂ ρ₂ h₂ t₂ R₂ L₂ E₂ V₂ he => ?_
  obtain ⟨n, rfl, he⟩ := int_of (f := fun n => (items σ₂ x).bind fun vs => (place vs.length n).bind fun j => (vs[j]?).bind fun z => some (z, σ₂)) he
  obtain ⟨us, e3, he⟩ := Option.bind_eq_some_iff.mp he
  obtain ⟨j, e4, he⟩ := Option.bind_eq_some_iff.mp he
  obtain ⟨z, e5, he⟩ := Option.bind_eq_some_iff.mp he
  obtain ⟨t, rfl⟩ := V₂.int_inv
  have V₁' := V₁.mono E₂.ext E₂.pre
  have fin := idx_ok (g := g) (A := A) (s := { s with heap := h₂, toks := t₂ }) (t := t) R₂ V₁' e3 e4 e5 Q E ((hQ.from (E₁.trans E₂) t₂).eq he)
  rcases typeIs_items (s := { s with heap := h₂, toks := t₂ }) R₂ V₁' e3 with q | q
  · exact tail_any q slot_list_getitem.lookup fin (subscripted_ns (b1 hc) _ _)
  · exact tail_any q slot_tuple_getitem.lookup fin (subscripted_ns (b1 hc) _ _)
theorem typeIs_dict {y : Value} {k : Kd} {i : Nat} {us : List V} (R : Rel g F ρ σ s.heap) (hy : VR g F ρ y (.ref k i)) (e : σ.dct k i = some us) : s.TypeIs y "dict" := by
  obtain ⟨p, rfl, q⟩ := hy.ref_inv
  obtain ⟨_, kvs, D, _⟩ := R.dict e q
  exact D.typeIs
theorem ok_key {a : ME} {k : Kd} {j : Nat} (ha : EvOk g G cl d a) : EvOk g G cl d (.key a k j) := by
  intro A env sc vs m F ρ σ s e w σ' hr R L S hc he Q E hQ
  refine Subscript_ (ha.use hr R L S (b2 hc) he fun x σ₁ va F₁ ρ₁ h₁ t₁ R₁ L₁ E₁ V₁ he => ?_)
  obtain ⟨i, rfl, hf⟩ := ref_inv (f := fun k i => (σ₁.dct k i).bind fun vs => (vs[j]?).bind fun z => some (z, σ₁)) he
  obtain ⟨us, z, e2, e3, hf⟩ := get2_of hf
  refine wpAny_Constant_str ?_
  exact tail_any (typeIs_dict (s := { s with heap := h₁, toks := t₁ + 1 }) R₁ V₁ e2) slot_dict_getitem.lookup (key_ok (g := g) (A := A) (s := { s with heap := h₁, toks := t₁ + 1 }) R₁ V₁ e2 (fldN_get (of_decide_eq_true (b1 hc))) e3 Q E ((hQ.from E₁ (t₁ + 1)).eq hf)) rfl
end
end Mine
end
section
open PySem PySem.W PyProof.Rows PySem.Calls PySem.SeqAt
namespace Mine
theorem backTo_plain {es : List PySem.Expr} (h : es.all notStar = true) (env : Env) (pos : Pos) : (backTo pos (starEach es env)).any (·.1) = false := by
  induction es with
  | nil => rfl
  | cons e r ih =>
    rw [starEach_ns (b1 h)]
    exact ih (b2 h)
theorem backTo_all {es : List PySem.Expr} (h : es.all notStar = true) (env : Env) (pos : Pos) : (backTo pos (starEach es env)).all (fun x => !x.1) = true := by
  induction es with
  | nil => rfl
  | cons e r ih =>
    rw [starEach_ns (b1 h)]
    exact ih (b2 h)
theorem evalArgs_any {M : Model} {A : Around} {E : Value → Shared → Prop} {s : Shared} {f : Value} {trees : List (Bool × Sem Value)} {Q : Args → Shared → Prop} (hp : trees.any (·.1) = false)
    (h : wpAny M A (spliced trees) (fun vs s' => Q { pos := vs } s') E s) : wpAny M A (evalArgs f true trees []) Q E s := by
  cases trees with
  | nil =>
    unfold evalArgs
    show wpAny M A (spliced [] >>= _) Q E s
    exact wpAny_bind (wpAny_mono h (fun vs s' h' => wpAny_bind (wpAny_pure (wpAny_holding (wpAny_bind (wpAny_pure (wpAny_bind (wpAny_pure (wpAny_pure h')))))))) fun _ _ e => e)
  | cons t r =>
    obtain ⟨b, x⟩ := t
    have : b = false := by
      simp only [List.any_cons, Bool.or_eq_false_iff] at hp
      exact hp.1
    subst this
    exact evalArgs_plain h
theorem oks_plain {G : Glob} {sc : Scope} {vs : List Str} : ∀ {ms : List ME} {es : List PySem.Expr}, oks G ms sc vs es = true → (builds ms vs es).all notStar = true ∧ (builds ms vs es).length = ms.length
  | [], _, _ => ⟨rfl, rfl⟩
  | _ :: _, _, h => ⟨Bool.and_eq_true_iff.mpr ⟨b1 h, (oks_plain (b2 (b2 h))).1⟩, congrArg (· + 1) (oks_plain (b2 (b2 h))).2⟩
theorem call_meth {prog : Program} {w : World} {A : Around} {E : Value → Shared → Prop} {s : Shared} {env : Env} {o : PySem.Expr} {name : Str} {apos pos : Pos} {args : List PySem.Expr} {Q : Value → Shared → Prop}
    (ho : notSup o = true) (hline : (apos.endLine == pos.line) = true) (hst : args.all notStar = true) (hlen : args.length ≤ 20)
    (h : wpAny (model prog w) A (eval o env) (fun ov s₁ => ∀ pl, wpAny (model prog w) A (getMethod ov name pl) (fun fv s₂ => wpAny (model prog w) A (callWith pos fv.1 fv.2 (backTo pos (starEach args env)) []) Q E s₂) E s₁) E s) :
    wpAny (model prog w) A (eval (.Call (.Attribute o name apos) args [] pos) env) Q E s := by
  rw [arm_eval_Call, attributeBase_ns ho]
  refine wpAny_bind (wpAny_mono h (fun ov s₁ h₁ => ?_) fun _ _ e => e)
  refine wpAny_bind (wpAny_standAt ?_)
  have hform : methodCallForm (args.length + ([] : List Keyword).length) (backTo pos (starEach args env)) (backToKw pos (keywordEach [] env)) = true := by
    unfold methodCallForm
    have e0 : backToKw pos (keywordEach [] env) = [] := rfl
    rw [backTo_all hst, e0]
    simp; lia
  have hpos : methodCallPos true o env apos pos = pure pos := by unfold methodCallPos; simp [hline]
  unfold methodCall
  rw [hform]
  refine wpAny_bind (wpAny_holding ?_)
  show wpAny _ _ (getMethod ov name _) _ _ _
  refine wpAny_mono (h₁ _) (fun fv s₂ h₂ => ?_) fun _ _ e => e
  obtain ⟨f, first⟩ := fv
  exact wpAny_bind (wpAny_of_eq hpos h₂)
section
variable {g : GG} {G : Glob} {F F' F₀ F₁ : FM} {ρ ρ' ρ₀ ρ₁ : RM} {σ σ' σ₁ : St} {h h' h₀ h₁ : Heap} {env : Env} {vs : List Str} {m : List V} {X : Addr → Prop} {A : Around} {sc : Scope} {s : Shared} {E : Value → Shared → Prop} {cl : CallF} {d : Nat}
theorem callArgs {f : Value} {first : List Value} {es : List PySem.Expr} {pos : Pos} {Q : Value → Shared → Prop} (hst : es.all notStar = true)
    (h : wpAny (model g.prog g.w) A (spliced (backTo pos (starEach es env))) (fun vs s₁ => (g.K.In s₁.heap ∧ keepIn g.K f = true) ∧ wpAny (model g.prog g.w) A (call f (first ++ vs)) Q E s₁) E s) :
    wpAny (model g.prog g.w) A (callWith pos f first (backTo pos (starEach es env)) []) Q E s :=
  callWith_of (P := fun h => g.K.In h ∧ keepIn g.K f = true) (by rw [backTo_plain hst]; rfl) (fun h q => keeps_K q.2 h q.1) (evalArgs_any (backTo_plain hst env pos) h)
theorem Name_of {e : PySem.Expr} (h : isName e = true) : ∃ x p, e = .Name x p := by
  cases e with
  | Name x p => exact ⟨x, p, rfl⟩
  | _ => cases h
theorem ok_call (CO : CallOk g cl d) {f : ME} {args : List ME} (hf : EvOk g G cl d f) (hs : EvsOk g G cl d args) : EvOk g G cl d (.call f args) := by
  intro A env sc vs m F ρ σ s e w σ' hr R L S hc he Q E hQ
  have hc' := b2 hc
  have h4 := b2 (b2 hc')
  obtain ⟨nx, px, hn⟩ := Name_of (b1 hc)
  have H : wpAny (model g.prog g.w) A (eval (build f vs (kid 0 e)) env) (fun fv s₁ => wpAny (model g.prog g.w) A (callWith (posE e) fv [] (backTo (posE e) (starEach (builds args vs (kidsE e).tail) env)) []) Q E s₁) E s := by
    refine hf.use hr R L S (b1 hc') he fun x σ₁ va F₁ ρ₁ h₁ t₁ R₁ L₁ E₁ V₁ he => ?_
    refine callArgs (oks_plain h4).1 (hs.use hr R₁ L₁ S h4 he fun xs σ₂ vb F₂ ρ₂ h₂ t₂ _ R₂ E₂ V₂ he => ?_)
    obtain ⟨q1, q2⟩ := CO A F₂ ρ₂ σ₂ { s with heap := h₂, toks := t₂ } va vb x xs w σ' hr R₂ (V₁.mono E₂.ext E₂.pre) V₂ he
    exact ⟨⟨R₂.K, q1⟩, q2 Q E (hQ.from (E₁.trans E₂) t₂)⟩
  show wpAny _ _ (eval (.Call (build f vs (kid 0 e)) _ _ _) env) _ _ _
  rw [hn] at H ⊢
  exact wpAny_Call_NameR H
end
end Mine
end
section
open PySem PySem.W PyProof.Rows PySem.Calls PySem.SeqAt
namespace Mine
section
variable {g : GG} {G : Glob} {F F' F₀ F₁ : FM} {ρ ρ' ρ₀ ρ₁ : RM} {σ σ' σ₁ : St} {h h' h₀ h₁ : Heap} {env : Env} {vs : List Str} {m : List V} {X : Addr → Prop} {A : Around} {sc : Scope} {s : Shared} {E : Value → Shared → Prop} {cl : CallF} {d : Nat}
theorem meth_inst {k : Kd} {nm : Str} {f : Nat} (h : meths.contains (k, nm, f) = true) : (k, nm, f) ∈ meths ∧ isInstKd k = true := by
  have h := List.contains_iff_mem.mp h
  refine ⟨h, ?_⟩
  cases h with
  | head => rfl
  | tail _ h => cases h with
    | head => rfl
    | tail _ h => cases h with
      | head => rfl
      | tail _ h => cases h
theorem len20 {n k : Nat} (h : n = k) (q : decide (k ≤ 20) = true) : n ≤ 20 := h ▸ of_decide_eq_true q
theorem ok_meth (C : ∀ k, isInstKd k = true → ClsOk g k) (CO : CallOk g cl d) {a : ME} {k : Kd} {f : Nat} {args : List ME} (ha : EvOk g G cl d a) (hs : EvsOk g G cl d args) : EvOk g G cl d (.meth a k f args) := by
  intro A env sc vs m F ρ σ s e w σ' hr R L S hc he Q E hQ
  have hc2 := b2 (b2 hc)
  have h6 := b2 (b2 (b2 hc2))
  obtain ⟨hmem, hik⟩ := meth_inst (b1 hc2)
  refine call_meth (b1 hc) (b1 (b2 hc)) (oks_plain h6).1 (len20 (oks_plain h6).2 (b1 (b2 (b2 hc2)))) (ha.use hr R L S (b1 (b2 hc2)) he fun x σ₁ va F₁ ρ₁ h₁ t₁ R₁ L₁ E₁ V₁ he => fun pl => ?_)
  obtain ⟨k', i, rfl, he⟩ := refl_of (f := fun k' i => if k' = k ∧ (σ₁.ins k i).isSome then (evs cl args m σ₁).bind fun (xs, σ₂) => cl (.fn f) (x :: xs) σ₂ else Option.none) he
  obtain ⟨⟨rfl, hkk⟩, hf⟩ := if_of he
  obtain ⟨us, e3⟩ := Option.isSome_iff_exists.mp hkk
  refine getM_ok (s := { s with heap := h₁, toks := t₁ }) C R₁ V₁ hik e3 hmem ?_
  refine callArgs (oks_plain h6).1 (hs.use hr R₁ L₁ S h6 hf fun xs σ₂ vb F₂ ρ₂ h₂ t₂ _ R₂ E₂ V₂ he => ?_)
  obtain ⟨q1, q2⟩ := CO A F₂ ρ₂ σ₂ { s with heap := h₂, toks := t₂ } (.ref (g.fa f)) (va :: vb) (.fn f) (_ :: xs) w σ' hr R₂ (.fn f) (.cons (V₁.mono E₂.ext E₂.pre) V₂) he
  exact ⟨⟨R₂.K, q1⟩, q2 Q E (hQ.from (E₁.trans E₂) t₂)⟩
theorem ok_cmeth (GO : GOk g G) (CO : CallOk g cl d) {f : Nat} {args : List ME} (hs : EvsOk g G cl d args) : EvOk g G cl d (.cmeth f args) := by
  intro A env sc vs m F ρ σ s e w σ' hr R L S hc he Q E hQ
  have hc2 := b2 (b2 hc)
  have h8 := b2 (b2 (b2 hc2))
  obtain ⟨hC, q1, q2⟩ := GO.hob
  refine call_meth rfl (b1 hc) (oks_plain h8).1 (len20 (oks_plain h8).2 (b1 (b2 hc2))) (load_glob R L S (b1 hc2) q1 fun pl => q2 A s pl _ E R.K fun tk => ?_)
  refine callArgs (oks_plain h8).1 (hs.use (s := { s with toks := tk }) hr R L S h8 he fun xs σ₂ vb F₂ ρ₂ h₂ t₂ _ R₂ E₂ V₂ he => ?_)
  have hf := beq_iff_eq.mp (b1 (b2 hc)); subst hf
  obtain ⟨q1, q2⟩ := CO A F₂ ρ₂ σ₂ { s with heap := h₂, toks := t₂ } (.ref (g.fa 15)) vb (.fn 15) xs w σ' hr R₂ (.fn 15) V₂ he
  exact ⟨⟨R₂.K, q1⟩, q2 Q E (hQ.from E₂ t₂)⟩
theorem bi1 (GO : GOk g G) {x : Str} {id : String} {a : PySem.Expr} {p pos : Pos} {Q : Value → Shared → Prop} (R : Rel g F ρ σ s.heap) (L : Loc g F ρ σ s.heap env vs m) (S : SameSc sc env) (hg : gloB sc x = true) (hx : x ∈ (["len", "min", "max", "range", "enumerate", "list"] : List Str))
    (hv : bootBuiltins x = some (.builtin id)) (hn : x ≠ "__name__") (hst : notStar a = true)
    (h : wpAny (model g.prog g.w) A (eval a env) (fun v s₁ => wpAny (model g.prog g.w) A (call (.builtin id) [v]) Q E s₁) E s) : wpAny (model g.prog g.w) A (eval (.Call (.Name x p) [a] [] pos) env) Q E s := by
  refine wpAny_Call_NameR (load_bi R L S hg (GO.bis x hx) hv hn ?_)
  rw [starEach_ns hst]
  exact callWith_builtin1 h
theorem bi2 (GO : GOk g G) {x : Str} {id : String} {a b : PySem.Expr} {p pos : Pos} {Q : Value → Shared → Prop} (R : Rel g F ρ σ s.heap) (L : Loc g F ρ σ s.heap env vs m) (S : SameSc sc env) (hg : gloB sc x = true) (hx : x ∈ (["len", "min", "max", "range", "enumerate", "list"] : List Str))
    (hv : bootBuiltins x = some (.builtin id)) (hn : x ≠ "__name__") (hst : notStar a = true) (hst' : notStar b = true)
    (h : wpAny (model g.prog g.w) A (eval a env) (fun v s₁ => wpAny (model g.prog g.w) A (eval b env) (fun u s₂ => wpAny (model g.prog g.w) A (call (.builtin id) [v, u]) Q E s₂) E s₁) E s) : wpAny (model g.prog g.w) A (eval (.Call (.Name x p) [a, b] [] pos) env) Q E s := by
  refine wpAny_Call_NameR (load_bi R L S hg (GO.bis x hx) hv hn ?_)
  rw [starEach_ns hst, starEach_ns hst']
  exact Calls.callWith_builtin rfl (Calls.evalArgs_plain (Calls.spliced_cons (wpAny_mono h (fun _ _ h₁ => Calls.spliced_cons (wpAny_mono h₁ (fun _ _ h₂ => Calls.spliced_nil h₂) fun _ _ e => e)) fun _ _ e => e)))
theorem bt1 (GO : GOk g G) {x : Str} {T : String} {a : PySem.Expr} {p pos : Pos} {Q : Value → Shared → Prop} (R : Rel g F ρ σ s.heap) (L : Loc g F ρ σ s.heap env vs m) (S : SameSc sc env) (hg : gloB sc x = true) (hx : x ∈ (["len", "min", "max", "range", "enumerate", "list"] : List Str))
    (hv : bootBuiltins x = some (.type T)) (hn : x ≠ "__name__") (hst : notStar a = true)
    (h : wpAny (model g.prog g.w) A (eval a env) (fun v s₁ => wpAny (model g.prog g.w) A (call (.type T) [v]) Q E s₁) E s) : wpAny (model g.prog g.w) A (eval (.Call (.Name x p) [a] [] pos) env) Q E s := by
  refine wpAny_Call_NameR (load_bi R L S hg (GO.bis x hx) hv hn ?_)
  rw [starEach_ns hst]
  exact PySem.callWith_type1 h
theorem bt2 (GO : GOk g G) {x : Str} {T : String} {a b : PySem.Expr} {p pos : Pos} {Q : Value → Shared → Prop} (R : Rel g F ρ σ s.heap) (L : Loc g F ρ σ s.heap env vs m) (S : SameSc sc env) (hg : gloB sc x = true) (hx : x ∈ (["len", "min", "max", "range", "enumerate", "list"] : List Str))
    (hv : bootBuiltins x = some (.type T)) (hn : x ≠ "__name__") (hst : notStar a = true) (hst' : notStar b = true)
    (h : wpAny (model g.prog g.w) A (eval a env) (fun v s₁ => wpAny (model g.prog g.w) A (eval b env) (fun u s₂ => wpAny (model g.prog g.w) A (call (.type T) [v, u]) Q E s₂) E s₁) E s) : wpAny (model g.prog g.w) A (eval (.Call (.Name x p) [a, b] [] pos) env) Q E s := by
  refine wpAny_Call_NameR (load_bi R L S hg (GO.bis x hx) hv hn ?_)
  rw [starEach_ns hst, starEach_ns hst']
  exact PySem.callWith_type rfl (Calls.evalArgs_plain (Calls.spliced_cons (wpAny_mono h (fun _ _ h₁ => Calls.spliced_cons (wpAny_mono h₁ (fun _ _ h₂ => Calls.spliced_nil h₂) fun _ _ e => e)) fun _ _ e => e)))
set_option maxRecDepth 100000 in
theorem bb_len : bootBuiltins "len" = some (.builtin "len") := by first | rfl | decide +kernel
set_option maxRecDepth 100000 in
theorem bb_min : bootBuiltins "min" = some (.builtin "min") := by first | rfl | decide +kernel
set_option maxRecDepth 100000 in
theorem bb_max : bootBuiltins "max" = some (.builtin "max") := by first | rfl | decide +kernel
set_option maxRecDepth 100000 in
theorem bb_range : bootBuiltins "range" = some (.type "range") := by first | rfl | decide +kernel
set_option maxRecDepth 100000 in
theorem bb_enum : bootBuiltins "enumerate" = some (.type "enumerate") := by first | rfl | decide +kernel
set_option maxRecDepth 100000 in
theorem bb_list : bootBuiltins "list" = some (.type "list") := by first | rfl | decide +kernel
theorem ok_len (GO : GOk g G) {a : ME} (ha : EvOk g G cl d a) : EvOk g G cl d (.len a) := by
  intro A env sc vs m F ρ σ s e w σ' hr R L S hc he Q E hQ
  refine bi1 GO R L S (b1 hc) (.head _) bb_len (by decide) (b1 (b2 hc)) (ha.use hr R L S (b2 (b2 hc)) he fun x σ₁ va F₁ ρ₁ h₁ t₁ R₁ L₁ E₁ V₁ he => ?_)
  obtain ⟨us, e2, he⟩ := Option.bind_eq_some_iff.mp he
  exact len_ok (s := { s with heap := h₁, toks := t₁ }) R₁ V₁ e2 _ _ ((hQ.from E₁ t₁).eq he)
theorem ok_min (GO : GOk g G) {a b : ME} (ha : EvOk g G cl d a) (hb : EvOk g G cl d b) : EvOk g G cl d (.min a b) := by
  intro A env sc vs m F ρ σ s e w σ' hr R L S hc he Q E hQ
  have hc2 := b2 (b2 hc)
  refine bi2 GO R L S (b1 hc) (.tail _ (.head _)) bb_min (by decide) (b1 (b2 hc)) (b1 hc2) (ha.use hr R L S (b1 (b2 hc2)) he fun x σ₁ va F₁ ρ₁ h₁ t₁ R₁ L₁ E₁ V₁ he => ?_)
  refine hb.use hr R₁ L₁ S (b2 (b2 hc2)) he fun y σ₂ vb F₂ ρ₂ h₂ t₂ R₂ L₂ E₂ V₂ he => ?_
  obtain ⟨p, q, rfl, rfl, he⟩ := int2_of (f := fun p q => some (V.int (if q < p then q else p), σ₂)) he
  exact min_ok (s := { s with heap := h₂, toks := t₂ }) hr.handled R₂ (V₁.mono E₂.ext E₂.pre) V₂ _ _ ((hQ.from (E₁.trans E₂) t₂).eq he)
theorem ok_max (GO : GOk g G) {a b : ME} (ha : EvOk g G cl d a) (hb : EvOk g G cl d b) : EvOk g G cl d (.max a b) := by
  intro A env sc vs m F ρ σ s e w σ' hr R L S hc he Q E hQ
  have hc2 := b2 (b2 hc)
  refine bi2 GO R L S (b1 hc) (.tail _ (.tail _ (.head _))) bb_max (by decide) (b1 (b2 hc)) (b1 hc2) (ha.use hr R L S (b1 (b2 hc2)) he fun x σ₁ va F₁ ρ₁ h₁ t₁ R₁ L₁ E₁ V₁ he => ?_)
  refine hb.use hr R₁ L₁ S (b2 (b2 hc2)) he fun y σ₂ vb F₂ ρ₂ h₂ t₂ R₂ L₂ E₂ V₂ he => ?_
  obtain ⟨p, q, rfl, rfl, he⟩ := int2_of (f := fun p q => some (V.int (if q > p then q else p), σ₂)) he
  exact max_ok (s := { s with heap := h₂, toks := t₂ }) hr.handled R₂ (V₁.mono E₂.ext E₂.pre) V₂ _ _ ((hQ.from (E₁.trans E₂) t₂).eq he)
theorem ok_listOf (GO : GOk g G) {a : ME} {k : Kd} (ha : EvOk g G cl d a) : EvOk g G cl d (.listOf k a) := by
  intro A env sc vs m F ρ σ s e w σ' hr R L S hc he Q E hQ
  refine bt1 GO R L S (b1 hc) (.tail _ (.tail _ (.tail _ (.tail _ (.tail _ (.head _)))))) bb_list (by decide) (b1 (b2 hc)) (ha.use hr R L S (b2 (b2 hc)) he fun x σ₁ va F₁ ρ₁ h₁ t₁ R₁ L₁ E₁ V₁ he => ?_)
  obtain ⟨us, rfl, he⟩ := lst_of (f := fun us => some (V.ref k (σ₁ k).length, σ₁.push k (.list us))) he
  exact listOf_ok (s := { s with heap := h₁, toks := t₁ }) R₁ V₁ _ _ ((hQ.from E₁ t₁).eq he)
theorem list_meth {a : Value} {k : Kd} {i : Nat} {us : List V} {name : Str} {id : String} {pl : Sem Bool} {Q : Value × List Value → Shared → Prop} (R : Rel g F ρ σ s.heap) (ha : VR g F ρ a (.ref k i)) (e : σ.lst k i = some us)
    (slot : Slot "list" name id) (hty : typeOf (.builtin id) = pure (.type "method_descriptor")) (hQ : Q (.builtin id, [a]) s) : wpAny (model g.prog g.w) A (getMethod a name pl) Q E s := by
  obtain ⟨p, xs, n, rfl, q, q1, q2, q3⟩ := R.lst ha e
  exact getMethod_builtin ⟨_, q1, rfl⟩ PySem.F.plainAttrs_list slot hty (fun a ea => by cases ea; exact ⟨_, q1, rfl⟩) hQ
end
end Mine
end
section
open PySem PySem.W PyProof.Rows PySem.Calls PySem.SeqAt
namespace Mine
section
variable {g : GG} {G : Glob} {F F' F₀ F₁ : FM} {ρ ρ' ρ₀ ρ₁ : RM} {σ σ' σ₁ : St} {h h' h₀ h₁ : Heap} {env : Env} {vs : List Str} {m : List V} {X : Addr → Prop} {A : Around} {sc : Scope} {s : Shared} {E : Value → Shared → Prop} {cl : CallF} {d : Nat}
theorem all1 {a : PySem.Expr} (h : notStar a = true) : [a].all notStar = true := Bool.and_eq_true_iff.mpr ⟨h, rfl⟩
theorem all2 {a b : PySem.Expr} (h : notStar a = true) (h' : notStar b = true) : [a, b].all notStar = true := Bool.and_eq_true_iff.mpr ⟨h, all1 h'⟩
theorem has_of {α : Type} {k : Kd} {i : Nat} {σ₁ : St} {f : Option α} {z : α} (h : (if (σ₁.lst k i).isSome then f else Option.none) = some z) : ∃ us, σ₁.lst k i = some us ∧ f = some z := by
  obtain ⟨q, h⟩ := if_of h
  obtain ⟨us, e⟩ := Option.isSome_iff_exists.mp q
  exact ⟨us, e, h⟩
theorem ok_append {a x : ME} (ha : EvOk g G cl d a) (hx : EvOk g G cl d x) : EvOk g G cl d (.append a x) := by
  intro A env sc vs m F ρ σ s e w σ' hr R L S hc he Q E hQ
  have hc2 := b2 (b2 hc)
  refine call_meth (b1 hc) (b1 (b2 hc)) (all1 (b1 hc2)) (Nat.le_of_ble_eq_true rfl) (ha.use hr R L S (b1 (b2 hc2)) he fun l σ₁ va F₁ ρ₁ h₁ t₁ R₁ L₁ E₁ V₁ he => fun pl => ?_)
  obtain ⟨v, σ₂, e2, he⟩ := bind_of he
  obtain ⟨k, i, rfl, hf⟩ := refl_of (f := fun k i => if (σ₁.lst k i).isSome then (σ₂.lst k i).bind fun vs => if okLen (vs.length + 1) then some (V.none, σ₂.setO k i (.list (vs ++ [v]))) else Option.none else Option.none) he
  obtain ⟨us₁, e4, hf⟩ := has_of hf
  obtain ⟨us, e3, hf⟩ := Option.bind_eq_some_iff.mp hf
  obtain ⟨hl, hf⟩ := if_of hf
  refine list_meth (s := { s with heap := h₁, toks := t₁ }) R₁ V₁ e4 PySem.F.slot_list_append PySem.F.type_list_append ?_
  rw [starEach_ns (b1 hc2)]
  exact appendC_ok (s := { s with heap := h₁, toks := t₁ }) R₁ V₁ (fun Q E hQ => hx A env sc vs m F₁ ρ₁ σ₁ _ _ v σ₂ hr R₁ L₁ S (b2 (b2 hc2)) e2 Q E hQ) e3 (okLen_spec hl) _ _ ((hQ.from E₁ t₁).eq hf)
theorem ok_extend {a x : ME} (ha : EvOk g G cl d a) (hx : EvOk g G cl d x) : EvOk g G cl d (.extend a x) := by
  intro A env sc vs m F ρ σ s e w σ' hr R L S hc he Q E hQ
  have hc2 := b2 (b2 hc)
  refine call_meth (b1 hc) (b1 (b2 hc)) (all1 (b1 hc2)) (Nat.le_of_ble_eq_true rfl) (ha.use hr R L S (b1 (b2 hc2)) he fun l σ₁ va F₁ ρ₁ h₁ t₁ R₁ L₁ E₁ V₁ he => fun pl => ?_)
  obtain ⟨v, σ₂, e2, he⟩ := bind_of he
  obtain ⟨k, i, rfl, hf⟩ := refl_of (f := fun k i => (v.lst?).bind fun ys => if (σ₁.lst k i).isSome then (σ₂.lst k i).bind fun vs => if okLen (vs.length + ys.length) then some (V.none, σ₂.setO k i (.list (vs ++ ys))) else Option.none else Option.none) he
  obtain ⟨ys, rfl, hg⟩ := lst1_of hf
  obtain ⟨us₁, e4, hg⟩ := has_of hg
  obtain ⟨us, e3, hg⟩ := Option.bind_eq_some_iff.mp hg
  obtain ⟨hl, hg⟩ := if_of hg
  refine list_meth (s := { s with heap := h₁, toks := t₁ }) R₁ V₁ e4 PySem.F.slot_list_extend PySem.F.type_list_extend ?_
  rw [starEach_ns (b1 hc2)]
  exact extendC_ok (s := { s with heap := h₁, toks := t₁ }) R₁ V₁ (fun Q E hQ => hx A env sc vs m F₁ ρ₁ σ₁ _ _ _ σ₂ hr R₁ L₁ S (b2 (b2 hc2)) e2 Q E hQ) e3 (okLen_spec hl) _ _ ((hQ.from E₁ t₁).eq hg)
theorem ok_pop {a : ME} (ha : EvOk g G cl d a) : EvOk g G cl d (.pop a) := by
  intro A env sc vs m F ρ σ s e w σ' hr R L S hc he Q E hQ
  refine call_meth (b1 hc) (b1 (b2 hc)) rfl (Nat.zero_le _) (ha.use hr R L S (b2 (b2 hc)) he fun l σ₁ va F₁ ρ₁ h₁ t₁ R₁ L₁ E₁ V₁ he => fun pl => ?_)
  obtain ⟨k, i, rfl, hf⟩ := refl_of (f := fun k i => (σ₁.lst k i).bind fun vs => (vs.getLast?).bind fun y => some (y, σ₁.setO k i (.list vs.dropLast))) he
  obtain ⟨us, e3, hf⟩ := Option.bind_eq_some_iff.mp hf
  obtain ⟨y, e4, hf⟩ := Option.bind_eq_some_iff.mp hf
  refine list_meth (s := { s with heap := h₁, toks := t₁ }) R₁ V₁ e3 PySem.F.slot_list_pop PySem.F.type_list_pop ?_
  exact popC_ok (s := { s with heap := h₁, toks := t₁ }) R₁ V₁ e3 e4 _ _ ((hQ.from E₁ t₁).eq hf)
theorem cons_of {α : Type} {l : List V} {f : V → List V → Option α} {z : α} (h : (match l with | y :: r => f y r | [] => Option.none) = some z) : ∃ y r, l = y :: r ∧ f y r = some z := by
  cases l with
  | nil => cases h
  | cons y r => exact ⟨y, r, rfl, h⟩
theorem ok_pop0 {a : ME} (ha : EvOk g G cl d a) : EvOk g G cl d (.pop0 a) := by
  intro A env sc vs m F ρ σ s e w σ' hr R L S hc he Q E hQ
  refine call_meth (b1 hc) (b1 (b2 hc)) rfl (Nat.le_of_ble_eq_true rfl) (ha.use hr R L S (b2 (b2 hc)) he fun l σ₁ va F₁ ρ₁ h₁ t₁ R₁ L₁ E₁ V₁ he => fun pl => ?_)
  obtain ⟨k, i, rfl, hf⟩ := refl_of (f := fun k i => (σ₁.lst k i).bind fun vs => (match vs with | y :: r => some (y, σ₁.setO k i (.list r)) | [] => Option.none)) he
  obtain ⟨us, e3, hf⟩ := Option.bind_eq_some_iff.mp hf
  obtain ⟨y, r, rfl, hg⟩ := cons_of (f := fun y r => some (y, σ₁.setO k i (.list r))) hf
  refine list_meth (s := { s with heap := h₁, toks := t₁ }) R₁ V₁ e3 PySem.F.slot_list_pop PySem.F.type_list_pop ?_
  exact pop0C_ok (x := eval (.Constant (.int 0) (kindE (kid 1 e)) (posE (kid 1 e))) env) (s := { s with heap := h₁, toks := t₁ }) R₁ V₁ (fun Q E hQ => wpAny_Constant_int (hQ.tok R₁ (.int _ _) _)) e3 _ _ ((hQ.from E₁ t₁).eq hg)
theorem ok_insert {a p x : ME} (ha : EvOk g G cl d a) (hp : EvOk g G cl d p) (hx : EvOk g G cl d x) : EvOk g G cl d (.insert a p x) := by
  intro A env sc vs m F ρ σ s e w σ' hr R L S hc he Q E hQ
  have hc2 := b2 (b2 hc)
  have hc4 := b2 (b2 hc2)
  refine call_meth (b1 hc) (b1 (b2 hc)) (all2 (b1 hc2) (b1 (b2 hc2))) (Nat.le_of_ble_eq_true rfl) (ha.use hr R L S (b1 hc4) he fun l σ₁ va F₁ ρ₁ h₁ t₁ R₁ L₁ E₁ V₁ he => fun pl => ?_)
  obtain ⟨n, σ₂, e2, he⟩ := bind_of he
  obtain ⟨v, σ₃, e3, he⟩ := bind_of he
  obtain ⟨k, i, rfl, hf⟩ := refl_of (f := fun k i => (n.int?).bind fun j => if (σ₁.lst k i).isSome then (σ₃.lst k i).bind fun vs => if 0 ≤ j ∧ j ≤ vs.length ∧ okLen (vs.length + 1) then some (V.none, σ₃.setO k i (.list (vs.take j.toNat ++ v :: vs.drop j.toNat))) else Option.none else Option.none) he
  obtain ⟨j, rfl, hg⟩ := int1_of hf
  obtain ⟨us₁, e5, hg⟩ := has_of hg
  obtain ⟨us, e4, hg⟩ := Option.bind_eq_some_iff.mp hg
  obtain ⟨hl, hg⟩ := if_of hg
  refine list_meth (s := { s with heap := h₁, toks := t₁ }) R₁ V₁ e5 PySem.F.slot_list_insert PySem.F.type_list_insert ?_
  rw [starEach_ns (b1 hc2), starEach_ns (b1 (b2 hc2))]
  exact insertC_ok (s := { s with heap := h₁, toks := t₁ }) R₁ V₁ (fun Q E hQ => hp A env sc vs m F₁ ρ₁ σ₁ _ _ _ σ₂ hr R₁ L₁ S (b1 (b2 hc4)) e2 Q E hQ)
    (fun F₂ ρ₂ h₂ t₂ R₂ E₂ Q E hQ => hx A env sc vs m F₂ ρ₂ σ₂ _ _ _ σ₃ hr R₂ (L₁.move E₂) S (b2 (b2 hc4)) e3 Q E hQ) e4 hl.1 hl.2.1 (okLen_spec hl.2.2) _ _ ((hQ.from E₁ t₁).eq hg)
theorem ok_freeze {a : ME} (ha : EvOk g G cl d a) : EvOk g G cl d (.freeze a) := by
  intro A env sc vs m F ρ σ s e w σ' hr R L S hc he Q E hQ
  refine ha.use hr R L S hc he fun l σ₁ va F₁ ρ₁ h₁ t₁ R₁ L₁ E₁ V₁ he => ?_
  obtain ⟨k, i, rfl, hf⟩ := refl_of (f := fun k i => (σ₁.lst k i).bind fun vs => some (V.lst vs, σ₁.setO k i .gone)) he
  obtain ⟨us, e3, hf⟩ := Option.bind_eq_some_iff.mp hf
  obtain ⟨p, rfl, q⟩ := V₁.ref_inv
  obtain ⟨F₂, R₂, E₂, V₂⟩ := R₁.freeze (lst_get e3) q
  exact hQ.eq hf _ F₂ ρ₁ h₁ t₁ R₂ (E₁.trans E₂) V₂
noncomputable def EvBOk (g : GG) (G : Glob) (cl : CallF) (d : Nat) (isAnd : Bool) (mes : List ME) : Prop := ∀ A env sc vs m F ρ σ s es v σ' pos, Room A d → Rel g F ρ σ s.heap → Loc g F ρ σ s.heap env vs m → SameSc sc env → oks G mes sc vs es = true → evB cl isAnd mes m σ = some (v, σ') →
  Gives g A (boolOp pos (if isAnd then .And else .Or) (evalEach (builds mes vs es) env)) F ρ σ s v σ'
noncomputable def EvAOk (g : GG) (G : Glob) (cl : CallF) (d : Nat) (isAnd : Bool) (mes : List ME) : Prop := ∀ A env sc vs m F ρ σ s es v σ', Room A d → Rel g F ρ σ s.heap → Loc g F ρ σ s.heap env vs m → SameSc sc env → oks G mes sc vs es = true → evA cl isAnd mes m σ = some (v, σ') →
  GivesB g A (allTrue (if isAnd then .And else .Or) (builds mes vs es) env) F ρ σ s v σ'
theorem okB_nil {b : Bool} : EvBOk g G cl d b [] := by
  intro A env sc vs m F ρ σ s es v σ' pos hr R L S hc he
  cases he
theorem okB_one {b : Bool} {e : ME} (h : EvOk g G cl d e) : EvBOk g G cl d b [e] :=
  fun A env sc vs m F ρ σ s es v σ' pos hr R L S hc he => h A env sc vs m F ρ σ s _ v σ' hr R L S (b1 (b2 hc)) he
theorem okB_cons {b : Bool} {e e' : ME} {r : List ME} (h : EvOk g G cl d e) (hr' : EvBOk g G cl d b (e' :: r)) : EvBOk g G cl d b (e :: e' :: r) := by
  intro A env sc vs m F ρ σ s es v σ' pos hr R L S hc he Q E hQ
  show wpAny _ _ (boolOp pos _ (eval (build e vs (es.headD noE)) env :: eval (build e' vs (es.tail.headD noE)) env :: evalEach (builds r vs es.tail.tail) env)) _ _ _
  unfold boolOp
  refine wpAny_bind (h.use hr R L S (b1 (b2 hc)) he fun y σ₁ va F₁ ρ₁ h₁ t₁ R₁ L₁ E₁ V₁ he => ?_)
  obtain ⟨t, rfl, q1⟩ := bool_of (f := fun t => if t == b then evB cl b (e' :: r) m σ₁ else some (V.bool t, σ₁)) he
  have := V₁.bool_inv; subst this
  refine wpAny_bind (wpAny_standAt (wpAny_bind (wpAny_holding (wpAny_truthy_bool ?_))))
  have fin := fun q => hr' A env sc vs m F₁ ρ₁ σ₁ { s with heap := h₁, toks := t₁ } _ v σ' pos hr R₁ L₁ S (b2 (b2 hc)) q Q E (hQ.from E₁ t₁)
  have stop := fun q => ((hQ.from E₁ t₁).eq (σ₀ := σ₁) (v := .bool t) q).same (y := .bool t) R₁ (.bool _)
  cases b <;> cases t <;> first | exact fin q1 | exact wpAny_pure (stop q1)
theorem okA_nil {b : Bool} : EvAOk g G cl d b [] := by
  intro A env sc vs m F ρ σ s es v σ' hr R L S hc he Q E hQ
  have := hQ.eq he F ρ s.heap s.toks R (.refl _ _ _ _ _)
  cases b <;> exact wpAny_pure this
theorem okA_cons {b : Bool} {e : ME} {r : List ME} (h : EvTOk g G cl d e) (hr' : EvAOk g G cl d b r) : EvAOk g G cl d b (e :: r) := by
  intro A env sc vs m F ρ σ s es v σ' hr R L S hc he Q E hQ
  show wpAny _ _ (PySem.isTrue (build e vs (es.headD noE)) env (eval (build e vs (es.headD noE)) env) >>= _) _ _ _
  refine wpAny_bind (h.use hr R L S (b1 (b2 hc)) he fun t σ₁ F₁ ρ₁ h₁ t₁ R₁ L₁ E₁ q1 => ?_)
  have fin := fun q => hr' A env sc vs m F₁ ρ₁ σ₁ { s with heap := h₁, toks := t₁ } _ v σ' hr R₁ L₁ S (b2 (b2 hc)) q Q E (hQ.from E₁ t₁)
  have stop := fun q => hQ.eq (σ₀ := σ₁) (v := t) q F₁ ρ₁ h₁ t₁ R₁ E₁
  cases b <;> cases t <;> first | exact fin q1 | exact wpAny_pure (stop q1)
theorem ok_bop {b : Bool} {es : List ME} (h : EvBOk g G cl d b es) : EvOk g G cl d (.bop b es) := by
  intro A env sc vs m F ρ σ s e w σ' hr R L S hc he Q E hQ
  exact wp_eq (arm_eval_BoolOp _ _ _ _) (h A env sc vs m F ρ σ s _ w σ' _ hr R L S (b2 hc) he Q E hQ)
theorem okT_bop {b : Bool} {es : List ME} (h : EvAOk g G cl d b es) : EvTOk g G cl d (.bop b es) := by
  intro A env sc vs m F ρ σ s e w σ' hr R L S hc he Q E hQ
  show wpAny _ _ (allTrue _ _ env) _ _ _
  exact h A env sc vs m F ρ σ s _ w σ' hr R L S (b2 hc) he Q E hQ
theorem bool1_of {o : Option V} {σ₀ : St} {b : Bool × St} (h : (match o with | some (.bool b) => some (b, σ₀) | _ => Option.none) = some b) : ∃ c, o = some (.bool c) ∧ some (V.bool c, σ₀) = some (V.bool b.1, b.2) := by
  cases o with
  | none => cases h
  | some v =>
    cases v with
    | bool c => cases h; exact ⟨c, rfl, rfl⟩
    | _ => cases h
theorem okT_con {v : V} : EvTOk g G cl d (.con v) := by
  refine okT_plain ok_con (fun vs e env whole => rfl) (fun m σ b σ' he => ?_)
  cases v with
  | bool c => cases he; rfl
  | _ => exact ns he
theorem okT_loc {i : Nat} : EvTOk g G cl d (.loc i) := by
  refine okT_plain ok_loc (fun vs e env whole => rfl) (fun m σ b σ' he => ?_)
  obtain ⟨c, e1, e2⟩ := bool1_of he
  show (match m[i]? with | some .undef => Option.none | some v => some (v, σ) | Option.none => Option.none) = _
  rw [e1]; exact e2
theorem bind_eq {α β : Type} {x : Option α} {a : α} {f : α → Option β} {z : Option β} (e : x = some a) (h : f a = z) : x.bind f = z := by
  rw [e]; exact h
theorem if_eq {α : Type} {c : Prop} [Decidable c] {a b z : α} (q : c) (h : a = z) : (if c then a else b) = z := by rw [if_pos q]; exact h
theorem okT_key {a : ME} {k : Kd} {j : Nat} (ha : EvOk g G cl d a) : EvTOk g G cl d (.key a k j) := by
  refine okT_plain (ok_key ha) (fun vs e env whole => rfl) (fun m σ b σ' he => ?_)
  obtain ⟨x, σ₁, e1, q1⟩ := bind_of he
  obtain ⟨i, rfl, q2⟩ := ref_inv (f := fun k i => (σ₁.dct k i).bind fun vs => (match vs[j]? with | some (.bool b) => some (b, σ₁) | _ => Option.none)) q1
  obtain ⟨us, e2, q2⟩ := Option.bind_eq_some_iff.mp q2
  obtain ⟨c, e3, e4⟩ := bool1_of (b := (b, σ')) q2
  exact bind_eq e1 (if_eq rfl (bind_eq e2 (bind_eq e3 e4)))
theorem okT_idx {a i : ME} (ha : EvOk g G cl d a) (hi : EvOk g G cl d i) : EvTOk g G cl d (.idx a i) := by
  refine okT_plain (ok_idx ha hi) (fun vs e env whole => rfl) (fun m σ b σ' he => ?_)
  obtain ⟨x, σ₁, e1, q1⟩ := bind_of he
  obtain ⟨y, σ₂, e2, q2⟩ := bind_of q1
  obtain ⟨n, rfl, q3⟩ := int_of (f := fun n => (items σ₂ x).bind fun vs => (place vs.length n).bind fun j => (match vs[j]? with | some (.bool b) => some (b, σ₂) | _ => Option.none)) q2
  obtain ⟨us, e3, q3⟩ := Option.bind_eq_some_iff.mp q3
  obtain ⟨j, e4, q4⟩ := Option.bind_eq_some_iff.mp q3
  obtain ⟨c, e5, e6⟩ := bool1_of (b := (b, σ')) q4
  exact bind_eq e1 (bind_eq e2 (bind_eq e3 (bind_eq e4 (bind_eq e5 e6))))
theorem okT_call (CO : CallOk g cl d) {f : ME} {args : List ME} (hf : EvOk g G cl d f) (hs : EvsOk g G cl d args) : EvTOk g G cl d (.call f args) := by
  refine okT_plain (ok_call CO hf hs) (fun vs e env whole => rfl) (fun m σ b σ' he => ?_)
  obtain ⟨x, σ₁, e1, q1⟩ := bind_of he
  obtain ⟨y, σ₂, e2, q2⟩ := bind_of q1
  obtain ⟨v, σ₃, e3, q3⟩ := bind_of q2
  refine bind_eq e1 (bind_eq e2 (e3.trans ?_))
  obtain ⟨c, rfl, q4⟩ := bool_of (f := fun c => some (c, σ₃)) q3
  cases q4; rfl
theorem slcTail {value : PySem.Expr} {lo hi : Option PySem.Expr} {p : Pos} {y : Value} {x z : V} {vl vu : Value} {ll hh : Option Int} (R : Rel g F ρ σ s.heap) (hy : VR g F ρ y x) (pl : IsPart vl ll) (pu : IsPart vu hh) (e : sliced σ x ll hh = some z) {Q : Value → Shared → Prop} (hQ : Post g F ρ σ s z σ Q) :
    wpAny (model g.prog g.w) A (subscriptTail value (.Slice lo hi Option.none p) y (.ref s.heap.objs.size)) Q E { s with heap := s.heap.push { cls := .type "slice", data := .fields #[vl, vu, .none] } } := by
  obtain ⟨R₁, E₁⟩ := R.grow (h' := s.heap.push { cls := .type "slice", data := .fields #[vl, vu, .none] }) (fun _ _ e => Heap.get?_push_of_some _ e)
  have fin := slc_ok (g := g) (A := A) (s := { s with heap := s.heap.push { cls := .type "slice", data := .fields #[vl, vu, .none] } }) R₁ hy (Heap.IsSliceOf.new ..) pl pu e Q E (hQ.from E₁ s.toks)
  have hit : ∃ us, items σ x = some us := by
    unfold sliced at e
    split at e
    · exact ⟨_, rfl⟩
    · exact ⟨_, rfl⟩
    · rename_i k i
      cases q : σ.lst k i with
      | none => rw [q] at e; cases e
      | some us => exact ⟨us, q⟩
    · cases e
  obtain ⟨us, e3⟩ := hit
  rcases typeIs_items (s := { s with heap := s.heap.push { cls := .type "slice", data := .fields #[vl, vu, .none] } }) R₁ hy e3 with q | q
  · exact tail_any (ops := [.ref s.heap.objs.size, y]) q slot_list_getitem.lookup fin rfl
  · exact tail_any (ops := [.ref s.heap.objs.size, y]) q slot_tuple_getitem.lookup fin rfl
theorem ok_slcAB {a lo hi : ME} (ha : EvOk g G cl d a) (hl : EvOk g G cl d lo) (hh : EvOk g G cl d hi) : EvOk g G cl d (.slcAB a lo hi) := by
  intro A env sc vs m F ρ σ s e w σ' hr R L S hc he Q E hQ
  refine Subscript_ (ha.use hr R L S (b1 hc) he fun x σ₁ va F₁ ρ₁ h₁ t₁ R₁ L₁ E₁ V₁ he => wpAny_Slice ?_)
  refine hl.use hr R₁ L₁ S (b1 (b2 hc)) he fun y σ₂ vb F₂ ρ₂ h₂ t₂ R₂ L₂ E₂ V₂ he => ?_
  refine hh.use hr R₂ L₂ S (b2 (b2 hc)) he fun u σ₃ vc F₃ ρ₃ h₃ t₃ R₃ L₃ E₃ V₃ he => ?_
  obtain ⟨p, q, rfl, rfl, hf⟩ := int2_of (f := fun p q => (sliced σ₃ x (some p) (some q)).bind fun z => some (z, σ₃)) he
  obtain ⟨z, e4, hf⟩ := Option.bind_eq_some_iff.mp hf
  obtain ⟨t, rfl⟩ := V₂.int_inv
  obtain ⟨t', rfl⟩ := V₃.int_inv
  exact wp_eq (evalPart_none _) (wpAny_pure (slcTail (s := { s with heap := h₃, toks := t₃ }) R₃ ((V₁.mono E₂.ext E₂.pre).mono E₃.ext E₃.pre) (.int _ _) (.int _ _) e4 ((hQ.from ((E₁.trans E₂).trans E₃) t₃).eq hf)))
theorem ok_slcA {a lo : ME} (ha : EvOk g G cl d a) (hl : EvOk g G cl d lo) : EvOk g G cl d (.slcA a lo) := by
  intro A env sc vs m F ρ σ s e w σ' hr R L S hc he Q E hQ
  refine Subscript_ (ha.use hr R L S (b1 hc) he fun x σ₁ va F₁ ρ₁ h₁ t₁ R₁ L₁ E₁ V₁ he => wpAny_Slice ?_)
  refine hl.use hr R₁ L₁ S (b2 hc) he fun y σ₂ vb F₂ ρ₂ h₂ t₂ R₂ L₂ E₂ V₂ he => ?_
  obtain ⟨p, rfl, he⟩ := int_of (f := fun p => (sliced σ₂ x (some p) Option.none).bind fun z => some (z, σ₂)) he
  obtain ⟨z, e4, he⟩ := Option.bind_eq_some_iff.mp he
  obtain ⟨t, rfl⟩ := V₂.int_inv
  rw [evalPart_none]
  exact wpAny_pure (wpAny_pure (slcTail (s := { s with heap := h₂, toks := t₂ }) R₂ (V₁.mono E₂.ext E₂.pre) (.int _ _) .none e4 ((hQ.from (E₁.trans E₂) t₂).eq he)))
theorem ok_slcB {a hi : ME} (ha : EvOk g G cl d a) (hh : EvOk g G cl d hi) : EvOk g G cl d (.slcB a hi) := by
  intro A env sc vs m F ρ σ s e w σ' hr R L S hc he Q E hQ
  refine Subscript_ (ha.use hr R L S (b1 hc) he fun x σ₁ va F₁ ρ₁ h₁ t₁ R₁ L₁ E₁ V₁ he => wpAny_Slice ?_)
  rw [evalPart_none]
  refine wpAny_pure (hh.use hr R₁ L₁ S (b2 hc) he fun y σ₂ vb F₂ ρ₂ h₂ t₂ R₂ L₂ E₂ V₂ he => ?_)
  obtain ⟨p, rfl, he⟩ := int_of (f := fun p => (sliced σ₂ x Option.none (some p)).bind fun z => some (z, σ₂)) he
  obtain ⟨z, e4, he⟩ := Option.bind_eq_some_iff.mp he
  obtain ⟨t, rfl⟩ := V₂.int_inv
  exact wpAny_pure (slcTail (s := { s with heap := h₂, toks := t₂ }) R₂ (V₁.mono E₂.ext E₂.pre) .none (.int _ _) e4 ((hQ.from (E₁.trans E₂) t₂).eq he))
end
end Mine
end
section
open PySem PySem.W PyProof.Rows PySem.Calls PySem.SeqAt
namespace Mine
section
variable {g : GG} {G : Glob} {F F' F₀ F₁ : FM} {ρ ρ' ρ₀ ρ₁ : RM} {σ σ' σ₁ : St} {h h' h₀ h₁ : Heap} {env : Env} {vs : List Str} {m : List V} {X : Addr → Prop} {A : Around} {sc : Scope} {s : Shared} {E : Value → Shared → Prop} {cl : CallF} {d : Nat} {inner : Scope}
theorem no_vis {xs : List Str} {x : Str} {i : Nat} (hi : vs.length + xs.length ≤ i) : (vs ++ xs)[i]? ≠ some x := fun e => by
  rw [List.getElem?_eq_none (by rw [List.length_append]; exact hi)] at e; cases e
theorem vis_at {xs : List Str} {i : Nat} : (vs ++ xs)[vs.length + i]? = xs[i]? := by
  rw [List.getElem?_append_right (Nat.le_add_right _ _), Nat.add_sub_cancel_left]
theorem vis_last {x : Str} : Vis (vs ++ [x]) vs.length x := ⟨vis_at (i := 0), fun _ hj => no_vis hj⟩
theorem vis_last2 {x y : Str} (h : x ≠ y) : Vis (vs ++ [x, y]) vs.length x ∧ Vis (vs ++ [x, y]) (vs.length + 1) y := by
  refine ⟨⟨vis_at (i := 0), fun j hj => ?_⟩, ⟨vis_at (i := 1), fun _ hj => no_vis hj⟩⟩
  rcases Nat.eq_or_lt_of_le (show vs.length + 1 ≤ j from hj) with q | q
  · rw [← q, vis_at (i := 1)]
    exact fun e => h (Option.some.inj e).symm
  · exact no_vis q
theorem lt_two {w : List V} {c i : Nat} (hm : m.length = vs.length) (hw : w.length = c) (hi : i < c) : vs.length + i < (m ++ w).length := by
  rw [List.length_append, hm, hw]; exact Nat.add_lt_add_left hi _
theorem set_at {w : List V} {i : Nat} {a : V} (hm : m.length = vs.length) : (m ++ w).set (vs.length + i) a = m ++ w.set i a := by
  rw [← hm, List.set_append_right _ _ (Nat.le_add_right _ _), Nat.add_sub_cancel_left]
theorem ext2_N (hm : m.length = vs.length) : Ext2 (putNm vs.length) (fun z => some [z]) m 1 := ⟨fun z w zs hw hz => by
  cases hz
  obtain ⟨a, rfl⟩ := List.length_eq_one_iff.mp hw
  exact ⟨(if_pos (lt_two (i := 0) hm hw Nat.one_pos)).trans (congrArg some (set_at (i := 0) hm)), rfl⟩⟩
noncomputable def extP (z : V) : Option (List V) := (z.tup?).bind fun l => (pairOf l).bind fun (a, b) => some [a, b]
theorem ext2_P (hm : m.length = vs.length) : Ext2 (putPr vs.length (vs.length + 1)) extP m 2 := ⟨fun z w zs hw hz => by
  obtain ⟨l, e, hz⟩ := Option.bind_eq_some_iff.mp hz
  obtain ⟨a, b, e2, hz⟩ := bind_of hz
  cases hz
  rw [tup?_of e, pair_of e2]
  refine ⟨(if_pos ⟨lt_two (i := 0) hm hw Nat.two_pos, lt_two hm hw (Nat.lt_succ_self 1)⟩).trans (congrArg some ?_), rfl⟩
  match w, hw with
  | [u, v], _ =>
    rw [show (m ++ [u, v]).set vs.length _ = _ from set_at (i := 0) hm, set_at hm]
    rfl⟩
noncomputable def CompQ (g : GG) (F : FM) (ρ : RM) (σ : St) (h₀ : Heap) (σe : St) (ys : List V) (RR : Value → Addr → Result → Shared → Prop) (s : Shared) : Prop := ∀ D C F' ρ' h' tk mC, Rel g F' ρ' σe h' → Ev NoX F ρ σ h₀ F' ρ' σe h' → VR g F' ρ' (.ref D) (.lst ys) → h'.Ns C mC → ¬ Own ρ' σe C → F' C = Option.none → h₀.get? C = Option.none → C ≠ D → RR (.ref D) C (.ok .next) { s with heap := h', toks := tk }
theorem comp_fin {acc : Value} {C : Addr} {mC : Str → Option Value} {v : V} {σe : St} {tk : Nat} {Q : Value → Shared → Prop} (R : Rel g F' ρ' σe h') (e : Ev NoX F ρ σ h₀ F' ρ' σe h') (hv : VR g F' ρ' acc v) (hn : h'.Ns C mC) (h1 : ¬ Own ρ' σe C) (h2 : F' C = Option.none) (hC : h₀.get? C = Option.none)
    (hQ : ∀ tk0, Post g F ρ σ { s with heap := h₀, toks := tk0 } v σe Q) : compPost (model g.prog g.w) A E Option.none Q acc C (.ok .next) { s with heap := h', toks := tk } := by
  refine ⟨mC, hn, fun h'' hs => ?_⟩
  have hk : ∀ b o, ¬ (b = C) → h'.get? b = some o → h''.get? b = some o := fun b o hb q => (hs.2 b hb).trans q
  exact hQ tk acc F' ρ' h'' tk (R.writeP (X := fun b => b = C) (fun b hb => hb ▸ ⟨h1, h2⟩) hk) (e.endW (X := fun b => b = C) (fun b hb => hb ▸ hC) hk) hv
theorem body_plain {el : PySem.Expr} {elt : ME} {xs : List Str} (hr : Room A d) (he : EvOk g G cl d elt) (hc : ok G elt inner (vs ++ xs) el = true) (C : Addr) :
    BodyOk g A (cEnv inner env C) (vs ++ xs) [] (build elt (vs ++ xs) el) (fun mm τ => (ev cl elt mm τ).bind fun (y, τ₁) => some ([y], τ₁)) := by
  intro F ρ σ s mm ys σ' R L hb Q E hQ
  obtain ⟨y, τ₁, e1, e2⟩ := bind_of hb
  cases e2
  show wpAny _ _ (pure true) _ _ _
  refine wpAny_pure ?_
  rw [if_pos rfl]
  exact he A _ inner _ mm F ρ σ s el y _ hr R L cEnv_same hc e1 _ _ fun v F₁ ρ₁ h₁ t₁ R₁ E₁ V₁ => hQ (some v) F₁ ρ₁ h₁ t₁ R₁ E₁ V₁
theorem body_cond {el ce : PySem.Expr} {elt cond : ME} {xs : List Str} (hr : Room A d) (he : EvOk g G cl d elt) (ht : EvTOk g G cl d cond) (hc : ok G elt inner (vs ++ xs) el = true) (hc' : ok G cond inner (vs ++ xs) ce = true) (C : Addr) :
    BodyOk g A (cEnv inner env C) (vs ++ xs) [build cond (vs ++ xs) ce] (build elt (vs ++ xs) el) (fun mm τ => (evT cl cond mm τ).bind fun (b, τ₀) => if b then (ev cl elt mm τ₀).bind fun (y, τ₁) => some ([y], τ₁) else some ([], τ₀)) := by
  intro F ρ σ s mm ys σ' R L hb Q E hQ
  obtain ⟨b, τ₀, e1, e2⟩ := bind_of hb
  show wpAny _ _ (tests [build cond (vs ++ xs) ce] (cEnv inner env C)) _ _ _
  unfold tests
  rw [List.forIn_cons]
  refine wpAny_bind ?_
  rw [if_pos rfl]
  refine wpAny_bind (ht A _ inner _ mm F ρ σ s ce b τ₀ hr R L cEnv_same hc' e1 _ _ fun F₁ ρ₁ h₁ t₁ R₁ E₁ => ?_)
  refine wpAny_pure ?_
  show wpAny _ _ (forIn [] b _) _ _ _
  rw [List.forIn_nil]
  refine wpAny_pure ?_
  cases b with
  | true =>
    obtain ⟨y, τ₁, e3, e4⟩ := bind_of e2
    cases e4
    exact he A _ inner _ mm F₁ ρ₁ τ₀ _ el y _ hr R₁ (L.move E₁) cEnv_same hc e3 _ _ fun v F₂ ρ₂ h₂ t₂ R₂ E₂ V₂ => hQ (some v) F₂ ρ₂ h₂ t₂ R₂ (E₁.trans E₂) V₂
  | false =>
    cases e2
    exact hQ Option.none F₁ ρ₁ h₁ t₁ R₁ E₁ trivial
theorem names_of (hs : scopeB inner = true) : ∀ x ∈ inner.names, x.2 = .local → inner.names.lookup x.1 = some .local := fun x hx hl => by
  obtain ⟨n, k⟩ := x
  have hl' : k = .local := hl
  subst hl'
  exact lookup_nodup (scopeB_spec hs).2 hx
theorem len_plain {elt : ME} (w : List V) (τ : St) (ys : List V) (τ' : St) (h : ((ev cl elt w τ).bind fun (y, τ₁) => some ([y], τ₁)) = some (ys, τ')) : ys.length ≤ 1 := by
  obtain ⟨y, τ₁, e1, e2⟩ := bind_of h
  cases e2; exact Nat.le_refl _
theorem len_cond {elt cond : ME} (w : List V) (τ : St) (ys : List V) (τ' : St) (h : ((evT cl cond w τ).bind fun (b, τ₀) => if b then (ev cl elt w τ₀).bind fun (y, τ₁) => some ([y], τ₁) else some ([], τ₀)) = some (ys, τ')) : ys.length ≤ 1 := by
  obtain ⟨b, τ₁, e1, e2⟩ := bind_of h
  cases b with
  | true => exact len_plain _ _ _ _ e2
  | false => cases e2; exact Nat.zero_le _
theorem compR_core {RR : Value → Addr → Result → Shared → Prop} {el y : PySem.Expr} {x : Str} {px pc pos : Pos} {fe : PySem.Expr} {elt : ME} {c : Int} {tc : Tok} {ys : List V} {σe : St} (hr : Room A d) (he : EvOk g G cl d elt)
    (R₁ : Rel g F ρ σ h₀) (L₁ : Loc g F ρ σ h₀ env vs m) (S : SameSc sc env) (hs : scopeB inner = true) (hf : freeB sc vs inner = true) (ho : ownB inner vs [x] = true) (hst : stoB inner x = true) (hc : ok G elt inner (vs ++ [x]) el = true)
    (hl : okLen c.toNat = true) (hsm : small c = true)
    (hg : gather (fun j τ => (ev cl elt (m ++ [.int j]) τ).bind fun (y, τ₁) => some ([y], τ₁)) c.toNat 0 σ = some (ys, σe))
    (hRR : CompQ g F ρ σ h₀ σe ys RR s) :
    wpAny (model g.prog g.w) A (call (.type "range") [.int c tc]) (fun xv s₁ => wpAny (model g.prog g.w) A (pyIter xv) (fun it s₂ => wpAny (model g.prog g.w) A (newList []) (fun acc s₃ => wpAny (model g.prog g.w) A (newFunctionEnv inner env.globals (closL env inner.names []) [] env.qual Option.none .none (some env)) (fun cenv s₄ =>
      codeAny (model g.prog g.w) A (.compStart (.ListComp (build elt (vs ++ [x]) el) [⟨.Name x px, .Call fe [y] [] pc, [], 0⟩] inner pos) 0 it acc { cenv with scope := relabel inner env }) (RR acc cenv.locals) s₄) E s₃) E s₂) E s₁) E { s with heap := h₀ } := by
  have hsm' := small_spec hsm
  refine call_range_1 ?_
  have hsz : Builtin.Range.rangeSize 0 c 1 = (c.toNat : Int) := by rw [rangeSize_one]; split <;> lia
  refine wpAny_pyIter_range (Heap.get?_push_size _ rfl) (by simp [Builtin.Range.small, Builtin.Range.rangeFitsLong, hsz]; lia) ?_
  dsimp only
  rw [Heap.size_push, hsz]
  generalize hIt : h₀.objs.size + 1 = I
  have hk : ∀ b o, h₀.get? b = some o → ((h₀.push { cls := .type "range", data := .fields #[.int 0 s.toks, .int c tc, .int 1 (s.toks + 1)] }).push { cls := .type "range_iterator", data := .fields #[rawInt 0, rawInt (c.toNat : Int), rawInt 1] }).get? b = some o :=
    fun b o e => Heap.get?_push_of_some _ (Heap.get?_push_of_some _ e)
  have hI : IsRangeIter ((h₀.push { cls := .type "range", data := .fields #[.int 0 s.toks, .int c tc, .int 1 (s.toks + 1)] }).push { cls := .type "range_iterator", data := .fields #[rawInt 0, rawInt (c.toNat : Int), rawInt 1] }) I (0 + ((0 : Nat) : Int)) ((c.toNat : Int) - ((0 : Nat) : Int)) 1 := by
    have := Heap.get?_push_size (h₀.push { cls := .type "range", data := .fields #[.int 0 s.toks, .int c tc, .int 1 (s.toks + 1)] }) (o := { cls := .type "range_iterator", data := .fields #[rawInt 0, rawInt (c.toNat : Int), rawInt 1] }) rfl
    rw [Heap.size_push, hIt] at this
    simpa using this
  refine comp_core (X := fun b => b = I) (xs := [x]) (put := putNm vs.length) (ext := fun z => some [z]) (item := fun _ j => some (.int (0 + (j : Int)))) (fin := fun _ => True) (I := fun j h => IsRangeIter h I (0 + (j : Int)) ((c.toNat : Int) - j) 1)
    (bodyf := fun mm τ => (ev cl elt mm τ).bind fun (y, τ₁) => some ([y], τ₁)) R₁ L₁ S hs hf ho hk (fun b hb => by rw [hb, ← hIt]; exact size_none _ (Nat.le_succ _))
    (fun C => Head.name (Src.range hr.handled 0 c.toNat) cEnv_same vis_last hst) hI (ext2_N L₁.len) (body_plain hr he hc) len_plain (okLen_spec hl) ?_ trivial hRR
  have e : stepG (fun _ j => some (.int (0 + (j : Int)))) (fun z => some [z]) (fun mm τ => (ev cl elt mm τ).bind fun (y, τ₁) => some ([y], τ₁)) m = fun (j : Nat) (τ : St) => (ev cl elt (m ++ [.int (j : Int)]) τ).bind fun (y, τ₁) => some ([y], τ₁) := by
    funext j τ
    show (ev cl elt (m ++ [.int (0 + (j : Int))]) τ).bind _ = _
    rw [Int.zero_add]
  rw [e]; exact hg
theorem compS_core {RR : Value → Addr → Result → Shared → Prop} {el it0 : PySem.Expr} {ifs : List PySem.Expr} {x : Str} {px pos : Pos} {xv : Value} {z : V} {n : Nat} {bodyf : List V → St → Option (List V × St)} {ys : List V} {σe : St} (hr : Room A d)
    (R₁ : Rel g F ρ σ h₀) (L₁ : Loc g F ρ σ h₀ env vs m) (S : SameSc sc env) (hs : scopeB inner = true) (hf : freeB sc vs inner = true) (ho : ownB inner vs [x] = true) (hst : stoB inner x = true)
    (hB : ∀ C, BodyOk g A (cEnv inner env C) (vs ++ [x]) ifs el bodyf) (hlen : ∀ w τ ys τ', bodyf w τ = some (ys, τ') → ys.length ≤ 1)
    (hy : VR g F ρ xv z) (hn : turns σ z = some n) (hg : gather (fun j τ => (turnItem τ z n j).bind fun z => bodyf (m ++ [z]) τ) n 0 σ = some (ys, σe)) (hfin : turns σe z = some n)
    (hRR : CompQ g F ρ σ h₀ σe ys RR s) :
    wpAny (model g.prog g.w) A (pyIter xv) (fun it s₂ => wpAny (model g.prog g.w) A (newList []) (fun acc s₃ => wpAny (model g.prog g.w) A (newFunctionEnv inner env.globals (closL env inner.names []) [] env.qual Option.none .none (some env)) (fun cenv s₄ =>
      codeAny (model g.prog g.w) A (.compStart (.ListComp el [⟨.Name x px, it0, ifs, 0⟩] inner pos) 0 it acc { cenv with scope := relabel inner env }) (RR acc cenv.locals) s₄) E s₃) E s₂) E { s with heap := h₀ } := by
  have hz : ∀ us, z ≠ .tup us := fun us e => by subst e; cases hn
  obtain ⟨us, e1, e2⟩ := turns_items hz hn
  obtain ⟨l, xs, k, rfl, q1, q2, q3⟩ := R₁.isL₀ hz hy e1
  refine wpAny_pyIter_list (items := xs.toArray) ⟨_, q1, rfl, _, rfl⟩ ?_
  dsimp only
  generalize hIt : h₀.objs.size = I
  have hk : ∀ b o, h₀.get? b = some o → (h₀.push { cls := .type "list_iterator", data := .fields #[.ref l, .int 0 0] }).get? b = some o := fun b o e => Heap.get?_push_of_some _ e
  have hI : (h₀.push { cls := .type "list_iterator", data := .fields #[.ref l, .int 0 0] }).IsListIter I l 0 := ⟨_, by rw [← hIt]; exact Heap.get?_push_size _ rfl, rfl, rfl⟩
  exact comp_core (X := fun b => b = I) (xs := [x]) (put := putNm vs.length) (ext := fun z => some [z]) (item := fun σ j => turnItem σ z n j) (fin := fun σ => turns σ z = some n) (I := fun j h => h.IsListIter I l j)
    (bodyf := bodyf) R₁ L₁ S hs hf ho hk (fun b hb => by rw [hb, ← hIt]; exact Heap.none_size _)
    (fun C => Head.name (Src.list hr.handled hz hy) cEnv_same vis_last hst) hI (ext2_N L₁.len) hB hlen (by rw [← e2]; exact q3) hg hfin hRR
theorem compE_core {RR : Value → Addr → Result → Shared → Prop} {el it0 fe : PySem.Expr} {ifs : List PySem.Expr} {x y : Str} {px py pt pc pos : Pos} {kk : Nat} {xv : Value} {z : V} {n : Nat} {bodyf : List V → St → Option (List V × St)} {ys : List V} {σe : St} (hr : Room A d)
    (R₁ : Rel g F ρ σ h₀) (L₁ : Loc g F ρ σ h₀ env vs m) (S : SameSc sc env) (hs : scopeB inner = true) (hf : freeB sc vs inner = true) (ho : ownB inner vs [x, y] = true) (hst : stoB inner x = true) (hst' : stoB inner y = true) (hxy : x ≠ y)
    (hB : ∀ C, BodyOk g A (cEnv inner env C) (vs ++ [x, y]) ifs el bodyf) (hlen : ∀ w τ ys τ', bodyf w τ = some (ys, τ') → ys.length ≤ 1)
    (hy : VR g F ρ xv z) (hn : turns σ z = some n) (hg : gather (fun j τ => (turnItem τ z n j).bind fun z => bodyf (m ++ [.int j, z]) τ) n 0 σ = some (ys, σe)) (hfin : turns σe z = some n)
    (hRR : CompQ g F ρ σ h₀ σe ys RR s) :
    wpAny (model g.prog g.w) A (call (.type "enumerate") [xv]) (fun ev s₁ => wpAny (model g.prog g.w) A (pyIter ev) (fun it s₂ => wpAny (model g.prog g.w) A (newList []) (fun acc s₃ => wpAny (model g.prog g.w) A (newFunctionEnv inner env.globals (closL env inner.names []) [] env.qual Option.none .none (some env)) (fun cenv s₄ =>
      codeAny (model g.prog g.w) A (.compStart (.ListComp el [⟨.Tuple [.Name x px, .Name y py] kk pt, .Call fe [it0] [] pc, ifs, 0⟩] inner pos) 0 it acc { cenv with scope := relabel inner env }) (RR acc cenv.locals) s₄) E s₃) E s₂) E s₁) E { s with heap := h₀ } := by
  have hz : ∀ us, z ≠ .tup us := fun us e => by subst e; cases hn
  obtain ⟨us, e1, e2⟩ := turns_items hz hn
  obtain ⟨l, xs, k, rfl, q1, q2, q3⟩ := R₁.isL₀ hz hy e1
  refine call_enumerate_1 (items := xs.toArray) q1 fun h₁ he hit hsz hk => ?_
  refine wpAny_pyIter_enum (s := { s with heap := h₁ }) he ?_
  dsimp only at he hit hk ⊢
  generalize hIe : h₀.objs.size + 1 = e at he ⊢
  generalize hIt : h₀.objs.size = I at he hit
  refine comp_core (s := { s with heap := h₁ }) (X := fun b => b = e ∨ b = I) (xs := [x, y]) (put := putPr vs.length (vs.length + 1)) (ext := extP) (item := fun σ j => (turnItem σ z n j).map fun z => .tup [.int j, z]) (fin := fun σ => turns σ z = some n)
    (I := fun j h => (∃ old, IsEnum h e I j old) ∧ h.IsListIter I l j)
    (bodyf := bodyf) R₁ L₁ S hs hf ho hk (fun b hb => by
      rcases hb with hb | hb
      · rw [hb, ← hIe]; exact size_none _ (Nat.le_succ _)
      · rw [hb, ← hIt]; exact Heap.none_size _)
    (fun C => Head.enum hr.handled (by rw [← hIe, ← hIt]; exact Nat.ne_of_gt (Nat.lt_succ_self _)) hz hy cEnv_same (vis_last2 hxy).1 (vis_last2 hxy).2 hst hst') ⟨⟨_, he⟩, hit⟩ (ext2_P L₁.len) hB hlen (by rw [← e2]; exact q3) ?_ hfin hRR
  have e : stepG (fun σ j => (turnItem σ z n j).map fun z => V.tup [.int j, z]) extP bodyf m = fun j τ => (turnItem τ z n j).bind fun z => bodyf (m ++ [.int j, z]) τ := by
    funext j τ
    show ((turnItem τ z n j).map _).bind _ = _
    cases turnItem τ z n j <;> rfl
  rw [e]; exact hg
end
end Mine
end
section
open PySem PySem.W PyProof.Rows PySem.Calls PySem.SeqAt
namespace Mine
section
variable {g : GG} {G : Glob} {F F' F₀ F₁ : FM} {ρ ρ' ρ₀ ρ₁ : RM} {σ σ' σ₁ : St} {h h' h₀ h₁ : Heap} {env : Env} {vs : List Str} {m : List V} {X : Addr → Prop} {A : Around} {sc : Scope} {s : Shared} {E : Value → Shared → Prop} {cl : CallF} {d : Nat} {inner : Scope}
noncomputable def CompH (g : GG) (A : Around) (E : Value → Shared → Prop) (use : Option (Value → Sem Unit)) (Q : Value → Shared → Prop) (F : FM) (ρ : RM) (σ : St) (s : Shared) (v : V) (σ' : St) : Prop :=
  ∀ acc C mC F' ρ' h' tk, Rel g F' ρ' σ' h' → Ev NoX F ρ σ s.heap F' ρ' σ' h' → VR g F' ρ' acc v → h'.Ns C mC → ¬ Own ρ' σ' C → F' C = Option.none → s.heap.get? C = Option.none → compPost (model g.prog g.w) A E use Q acc C (.ok .next) { s with heap := h', toks := tk }
noncomputable def CompOk (g : GG) (G : Glob) (cl : CallF) (d : Nat) (me : ME) : Prop := ∀ A env sc vs m F ρ σ s e v σ' (use : Option (Value → Sem Unit)) (Q : Value → Shared → Prop) E, Room A d → Rel g F ρ σ s.heap → Loc g F ρ σ s.heap env vs m → SameSc sc env → ok G me sc vs e = true → ev cl me m σ = some (v, σ') →
  CompH g A E use Q F ρ σ s v σ' →
  ∃ el gens inner pos, build me vs e = .ListComp el gens inner pos ∧ wpAny (model g.prog g.w) A (comprehension (.ListComp el gens inner pos) inner env (firstIterPos gens pos) (newList []) (firstAsync gens) (firstIter gens env) use) Q E s
theorem comp_of (h : CompOk g G cl d me) : EvOk g G cl d me := by
  intro A env sc vs m F ρ σ s e v σ' hr R L S hc he Q E hQ
  obtain ⟨el, gens, inner, pos, hb, hh⟩ := h A env sc vs m F ρ σ s e v σ' Option.none Q E hr R L S hc he (fun acc C mC F' ρ' h' tk R' E' V' hn h1 h2 h3 => comp_fin (s := s) R' E' V' hn h1 h2 h3 fun _ => hQ)
  rw [hb, eval_ListComp]
  exact hh
theorem CompH.from {use : Option (Value → Sem Unit)} {Q : Value → Shared → Prop} {v : V} {ys : List V} {σe : St} (hQ : CompH g A E use Q F ρ σ s v σ') (he : some (V.lst ys, σe) = some (v, σ')) (E₁ : Ev NoX F ρ σ s.heap F₁ ρ₁ σ₁ h₁) (t₁ : Nat) :
    CompQ g F₁ ρ₁ σ₁ h₁ σe ys (fun acc C => compPost (model g.prog g.w) A E use Q acc C) { s with heap := h₁, toks := t₁ } := by
  cases he
  exact fun D C F' ρ' h' tk mC R' E' V' hns a1 a2 a3 _ => hQ _ C mC F' ρ' h' tk R' (E₁.trans E') V' hns a1 a2 (none_of_alive E₁.alive a3)
theorem compR_ok (GO : GOk g G) {elt n : ME} (he : EvOk g G cl d elt) (hn : EvOk g G cl d n) : CompOk g G cl d (.compR elt n) := by
  intro A env sc vs m F ρ σ s e v σ' use Q E hr R L S hc hev hQ
  have hc2 := b2 (b2 hc)
  have hc3 := b2 hc2
  have hc5 := b2 (b2 hc3)
  refine ⟨_, _, _, _, rfl, ?_⟩
  refine wpAny_comprehension_free rfl (fun _ => rfl) (closureFor_of (freeB_cells L S (b1 (b2 hc3)))) (scopeB_spec (b1 hc3)).1 (names_of (b1 hc3)) ?_
  show wpAny _ _ (eval (.Call (.Name _ _) [build n vs (kid 1 (kid 2 e))] [] _) env) _ _ _
  refine bt1 GO R L S (b1 hc) (.tail _ (.tail _ (.tail _ (.head _)))) bb_range (by decide) (b1 (b2 hc)) (hn.use hr R L S (b1 hc2) hev fun z σ₁ va F₁ ρ₁ h₁ t₁ R₁ L₁ E₁ V₁ q1 => ?_)
  obtain ⟨c, rfl, q1⟩ := int_of (f := fun c => if okLen c.toNat ∧ small c then (gather (fun j τ => (ev cl elt (m ++ [.int j]) τ).bind fun (y, τ₁) => some ([y], τ₁)) c.toNat 0 σ₁).bind fun (ys, σ₂) => some (V.lst ys, σ₂) else Option.none) q1
  obtain ⟨hl, q1⟩ := if_of q1
  obtain ⟨ys, σ₂, e2, q2⟩ := bind_of q1
  obtain ⟨tc, rfl⟩ := V₁.int_inv
  exact compR_core (s := { s with heap := h₁, toks := t₁ }) hr he R₁ L₁ S (b1 hc3) (b1 (b2 hc3)) (b1 hc5) (b1 (b2 hc5)) (b2 (b2 hc5)) hl.1 hl.2 e2 (hQ.from q2 E₁ t₁)
theorem compS_ok {elt src : ME} (he : EvOk g G cl d elt) (hn : EvOk g G cl d src) : CompOk g G cl d (.compS elt src) := by
  intro A env sc vs m F ρ σ s e v σ' use Q E hr R L S hc hev hQ
  have hc2 := b2 (b2 hc)
  have hc4 := b2 (b2 hc2)
  refine ⟨_, _, _, _, rfl, ?_⟩
  refine wpAny_comprehension_free rfl (fun x => foldedSet_ns (b1 (b2 hc)) env x) (closureFor_of (freeB_cells L S (b1 (b2 hc2)))) (scopeB_spec (b1 hc2)).1 (names_of (b1 hc2)) ?_
  show wpAny _ _ (eval (build src vs (kid 2 e)) env) _ _ _
  refine hn.use hr R L S (b1 hc) hev fun z σ₁ va F₁ ρ₁ h₁ t₁ R₁ L₁ E₁ V₁ q1 => ?_
  obtain ⟨c, e2, q2⟩ := Option.bind_eq_some_iff.mp q1
  obtain ⟨ys, σ₂, e3, q3⟩ := bind_of q2
  obtain ⟨hfin, q3⟩ := if_of q3
  exact compS_core (s := { s with heap := h₁, toks := t₁ }) hr R₁ L₁ S (b1 hc2) (b1 (b2 hc2)) (b1 hc4) (b1 (b2 hc4)) (body_plain hr he (b2 (b2 hc4))) len_plain V₁ e2 e3 hfin (hQ.from q3 E₁ t₁)
theorem compSC_ok {elt src cond : ME} (he : EvOk g G cl d elt) (hn : EvOk g G cl d src) (ht : EvTOk g G cl d cond) : CompOk g G cl d (.compSC elt src cond) := by
  intro A env sc vs m F ρ σ s e v σ' use Q E hr R L S hc hev hQ
  have hc2 := b2 (b2 hc)
  have hc4 := b2 (b2 hc2)
  refine ⟨_, _, _, _, rfl, ?_⟩
  refine wpAny_comprehension_free rfl (fun x => foldedSet_ns (b1 (b2 hc)) env x) (closureFor_of (freeB_cells L S (b1 (b2 hc2)))) (scopeB_spec (b1 hc2)).1 (names_of (b1 hc2)) ?_
  show wpAny _ _ (eval (build src vs (kid 2 e)) env) _ _ _
  refine hn.use hr R L S (b1 hc) hev fun z σ₁ va F₁ ρ₁ h₁ t₁ R₁ L₁ E₁ V₁ q1 => ?_
  obtain ⟨c, e2, q2⟩ := Option.bind_eq_some_iff.mp q1
  obtain ⟨ys, σ₂, e3, q3⟩ := bind_of q2
  obtain ⟨hfin, q3⟩ := if_of q3
  exact compS_core (s := { s with heap := h₁, toks := t₁ }) hr R₁ L₁ S (b1 hc2) (b1 (b2 hc2)) (b1 hc4) (b1 (b2 hc4)) (body_cond hr he ht (b2 (b2 (b2 hc4))) (b1 (b2 (b2 hc4)))) len_cond V₁ e2 e3 hfin (hQ.from q3 E₁ t₁)
theorem compEC_ok (GO : GOk g G) {elt src cond : ME} (he : EvOk g G cl d elt) (hn : EvOk g G cl d src) (ht : EvTOk g G cl d cond) : CompOk g G cl d (.compEC elt src cond) := by
  intro A env sc vs m F ρ σ s e v σ' use Q E hr R L S hc hev hQ
  have hc2 := b2 (b2 hc)
  have hc3 := b2 hc2
  have hc5 := b2 (b2 hc3)
  have hc7 := b2 (b2 hc5)
  refine ⟨_, _, _, _, rfl, ?_⟩
  refine wpAny_comprehension_free rfl (fun _ => rfl) (closureFor_of (freeB_cells L S (b1 (b2 hc3)))) (scopeB_spec (b1 hc3)).1 (names_of (b1 hc3)) ?_
  show wpAny _ _ (eval (.Call (.Name _ _) [build src vs (kid 1 (kid 2 e))] [] _) env) _ _ _
  refine bt1 GO R L S (b1 hc) (.tail _ (.tail _ (.tail _ (.tail _ (.head _))))) bb_enum (by decide) (b1 (b2 hc)) (hn.use hr R L S (b1 hc2) hev fun z σ₁ va F₁ ρ₁ h₁ t₁ R₁ L₁ E₁ V₁ q1 => ?_)
  obtain ⟨c, e2, q2⟩ := Option.bind_eq_some_iff.mp q1
  obtain ⟨ys, σ₂, e3, q3⟩ := bind_of q2
  obtain ⟨hfin, q3⟩ := if_of q3
  exact compE_core (s := { s with heap := h₁, toks := t₁ }) hr R₁ L₁ S (b1 hc3) (b1 (b2 hc3)) (b1 hc5) (b1 (b2 hc5)) (b1 hc7) (bne_iff_ne.mp (b1 (b2 hc7))) (body_cond hr he ht (b2 (b2 (b2 hc7))) (b1 (b2 (b2 hc7)))) len_cond V₁ e2 e3 hfin (hQ.from q3 E₁ t₁)
theorem Rel.adopt {k : Kd} {a : Addr} {O : MObj} (R : Rel g F ρ σ h) (hk : ∀ b o, b ≠ a → h.get? b = some o → h'.get? b = some o) (ha : ¬ Own ρ σ a ∧ F a = Option.none)
    (ho : ObjR g F (ρ.push k (a, a)) h' k a a O) : Rel g F (ρ.push k (a, a)) (σ.push k O) h' ∧ VR g F (ρ.push k (a, a)) (.ref a) (.ref k (σ k).length) ∧ (∀ b, Own (ρ.push k (a, a)) (σ.push k O) b → Own ρ σ b ∨ b = a) := by
  have hp := pre_push ρ k (a, a)
  have hown : ∀ b, Own (ρ.push k (a, a)) (σ.push k O) b → Own ρ σ b ∨ b = a := fun b ⟨k', i, q⟩ => by
    rcases push_at R.len q with q | ⟨_, _, q⟩
    · exact .inl ⟨k', i, q⟩
    · exact .inr (q.elim id id)
  have mv : ∀ (k' : Kd) (i : Nat) (O' : MObj) (p' : Addr × Addr), (σ k')[i]? = some O' → (ρ k')[i]? = some p' → ObjR g F (ρ.push k (a, a)) h' k' p'.1 p'.2 O' := fun k' i O' p' e1 e2 => by
    by_cases hl : O'.live = true
    · exact (R.obj k' i O' p' e1 e2).move (.refl _) hp (fun o e => hk _ o (fun z => ha.1 ⟨k', i, O', p', e1, hl, e2, .inl z.symm⟩) e) (fun o e => hk _ o (fun z => ha.1 ⟨k', i, O', p', e1, hl, e2, .inr z.symm⟩) e)
    · cases O' <;> first | trivial | exact absurd rfl hl
  refine ⟨⟨fun b o e => hk b o (fun z => by rw [z, ha.2] at e; cases e) (R.frz b o e), R.bas, fun k' => ?_, fun k' i O' p' e1 e2 => ?_, fun b q => ?_, fun k₁ i₁ k₂ i₂ b q1 q2 => ?_⟩, ?_, hown⟩
  · unfold RM.push St.push St.put
    split
    · rename_i q; subst q; simp [R.len]
    · exact R.len k'
  · unfold St.push St.put at e1
    unfold RM.push at e2
    by_cases hk' : k' = k
    · subst hk'
      simp only [if_true] at e1 e2
      rcases Nat.lt_trichotomy i (σ k').length with q | q | q
      · rw [List.getElem?_append_left q] at e1
        rw [List.getElem?_append_left (by rw [R.len]; exact q)] at e2
        exact mv k' i O' p' e1 e2
      · subst q
        simp at e1
        rw [← R.len] at e2
        simp at e2
        subst e1 e2
        exact ho
      · rw [List.getElem?_eq_none (by simp; lia)] at e1; cases e1
    · simp only [hk', if_false] at e1 e2
      exact mv k' i O' p' e1 e2
  · rcases hown b q with q | q
    · exact R.off b q
    · rw [q]; exact ha.2
  · rcases push_at R.len q1 with q1 | ⟨e1, e2, q1⟩ <;> rcases push_at R.len q2 with q2 | ⟨e3, e4, q2⟩
    · exact R.sep _ _ _ _ b q1 q2
    · exact absurd (show Own ρ σ b from ⟨k₁, i₁, q1⟩) (fun z => ha.1 (by have : b = a := q2.elim id id; rw [← this]; exact z))
    · exact absurd (show Own ρ σ b from ⟨k₂, i₂, q2⟩) (fun z => ha.1 (by have : b = a := q1.elim id id; rw [← this]; exact z))
    · exact ⟨e1.trans e3.symm, e2.trans e4.symm⟩
  · have : (ρ.push k (a, a) k)[(σ k).length]? = some (a, a) := by
      unfold RM.push; rw [if_pos rfl, ← R.len]; simp
    exact VR.ref (p := (a, a)) this
theorem pairs_ok (es : List ME) (hes : ∀ e ∈ es, EvOk g G cl d e) : ∀ (xs : List Str) (ks : List (Option PySem.Expr)) (vals : List PySem.Expr) (A : Around) (env : Env) (sc : Scope) (vs : List Str) (m : List V) (F : FM) (ρ : RM) (σ : St) (s : Shared) (us : List V) (σ' : St) (pos : Pos),
    Room A d → Rel g F ρ σ s.heap → Loc g F ρ σ s.heap env vs m → SameSc sc env → oks G es sc vs vals = true → es.length = xs.length → evs cl es m σ = some (us, σ') → ∀ (Q : List (Value × Value) → Shared → Prop) E,
    (∀ ps kvs F' ρ' h' tk, Rel g F' ρ' σ' h' → Ev NoX F ρ σ s.heap F' ρ' σ' h' → Carries (strKind g.prog g.w) ps kvs → kvs.map (·.1) = xs → VsR g F' ρ' (kvs.map (·.2)) us → Q ps { s with heap := h', toks := tk }) → wpAny (model g.prog g.w) A (evalPairs (pairTrees (keysOf xs ks) (builds es vs vals) env pos)) Q E s := by
  induction es with
  | nil =>
    intro xs ks vals A env sc vs m F ρ σ s us σ' pos hr R L S hc hl he Q E hQ
    cases he
    cases xs with
    | nil => exact pairTrees_nil_walk (hQ [] [] F ρ s.heap s.toks R (.refl _ _ _ _ _) trivial rfl .nil)
    | cons y ys => cases hl
  | cons e r ih =>
    intro xs ks vals A env sc vs m F ρ σ s us σ' pos hr R L S hc hl he Q E hQ
    obtain ⟨v, σ₁, e1, q1⟩ := bind_of he
    obtain ⟨ws, σ₂, e2, q2⟩ := bind_of q1
    cases q2
    cases xs with
    | nil => cases hl
    | cons y ys =>
      refine pairTrees_cons_walk (wpAny_Constant_str ?_)
      refine hes e List.mem_cons_self A env sc vs m F ρ σ { s with toks := s.toks + 1 } _ v σ₁ hr R L S (b1 (b2 hc)) e1 _ _ fun va F₁ ρ₁ h₁ t₁ R₁ E₁ V₁ => ?_
      refine ih (fun e he => hes e (List.mem_cons_of_mem _ he)) ys ks.tail vals.tail A env sc vs m F₁ ρ₁ σ₁ { s with heap := h₁, toks := t₁ } ws _ pos hr R₁ (L.move E₁) S (b2 (b2 hc)) (Nat.succ.inj hl) e2 _ _ fun ps kvs F₂ ρ₂ h₂ t₂ R₂ E₂ cc c1 c2 => ?_
      exact hQ ((.str y s.toks, va) :: ps) ((y, va) :: kvs) F₂ ρ₂ h₂ t₂ R₂ (E₁.trans E₂) ⟨strKind_is _ _ _ _, rfl, cc⟩ (congrArg (y :: ·) c1) (.cons (V₁.mono E₂.ext E₂.pre) c2)
theorem keysOf_spec (xs : List Str) : ∀ ks : List (Option PySem.Expr), (keysOf xs ks).length = xs.length ∧ (keysOf xs ks).all (·.isSome) = true := by
  induction xs with
  | nil => exact fun _ => ⟨rfl, rfl⟩
  | cons x xs ih => exact fun ks => ⟨congrArg (· + 1) (ih ks.tail).1, (ih ks.tail).2⟩
theorem ok_newd {k : Kd} {es : List ME} (hes : ∀ e ∈ es, EvOk g G cl d e) : EvOk g G cl d (.newd k es) := by
  intro A env sc vs m F ρ σ s e w σ' hr R L S hc he Q E hQ
  have h2 := of_decide_eq_true (b1 (b2 hc))
  have h4 := b2 (b2 (b2 hc))
  obtain ⟨us, σ₁, e1, q1⟩ := bind_of he
  cases q1
  obtain ⟨k1, k2⟩ := keysOf_spec (fields k) (keysE e)
  obtain ⟨c1, c2⟩ := oks_plain h4
  have h3 := b1 (b2 (b2 hc))
  refine wpAny_Dict_walk (knd := strKind g.prog g.w) k2 (by have := of_decide_eq_true h3; lia) (by intro q; rw [q] at k1; have h0 := b1 hc; rw [List.isEmpty_iff.mpr (List.eq_nil_of_length_eq_zero k1.symm)] at h0; cases h0) (by have := of_decide_eq_true h3; lia) ?_
  obtain ⟨R₀, E₀⟩ := R.grow (h' := s.heap.push { cls := .type "dict", data := .dict #[] }) (fun _ _ e => Heap.get?_push_of_some _ e)
  have hDn := Heap.none_size s.heap
  generalize hD : s.heap.objs.size = D at hDn ⊢
  have hD0 : (s.heap.push { cls := .type "dict", data := .dict #[] }).DictOf (strKind g.prog g.w) D [] := by rw [← hD]; exact Heap.DictOf.new _
  have hp0 : ¬ Own ρ σ D ∧ F D = Option.none := ⟨R.not_own hDn, R.not_frz hDn⟩
  refine pairs_ok es hes (fields k) _ _ A env sc vs m F ρ σ { s with heap := s.heap.push { cls := .type "dict", data := .dict #[] } } us σ₁ _ hr R₀ (L.move E₀) S h4 h2 e1 _ _ fun ps kvs F₁ ρ₁ h₁ t₁ R₁ E₁ cc c1 c2 => ?_
  obtain ⟨oD, es', ep, hoD, rD⟩ := hD0
  have pD : Priv F₁ ρ₁ σ₁ h₁ D := Priv.move (X := NoX) ⟨hp0.1, hp0.2, oD, hoD⟩ E₁
  refine ⟨kvs, cc, ⟨oD, es', ep, E₁.keep _ _ hoD hp0.1 (fun f => f), rD⟩, fun h' hd hs => ?_⟩
  rw [merged_nil_of_nodup kvs (by rw [c1]; exact fields_nodup k)] at hd
  have hk : ∀ b o, b ≠ D → h₁.get? b = some o → h'.get? b = some o := fun b o hb q => (hs.2 b hb).trans q
  obtain ⟨R₂, V₂, hown⟩ := R₁.adopt (k := k) (a := D) (O := .dict us) (h' := h') hk ⟨pD.1, pD.2.1⟩ ⟨rfl, kvs, hd, c1, c2.mono (.refl _) (pre_push _ _ _)⟩
  have e01 := E₀.trans E₁
  have hbD : ∀ b o, s.heap.get? b = some o → b ≠ D := fun b o q z => by rw [z, hDn] at q; cases q
  refine hQ _ F₁ _ h' _ R₂ ⟨e01.ext, fun k' i p q => pre_push _ _ _ k' i p (e01.pre k' i p q), fun b o q hn hx => hk b o (hbD b o q) (e01.keep b o q hn hx), fun b o q => ?_, fun b q => ?_, e01.frz⟩ V₂
  · obtain ⟨o', q'⟩ := e01.alive b o q
    exact ⟨o', hk b o' (hbD b o q) q'⟩
  · rcases hown b q with q | q
    · exact e01.own b q
    · rw [q]; exact .inr hDn
end
end Mine
end
section
open PySem PySem.W PyProof.Rows PySem.Calls PySem.SeqAt
namespace Mine
section
variable {g : GG} {G : Glob} {cl : CallF} {d : Nat}
theorem evsOk_of : ∀ {es : List ME}, (∀ e ∈ es, EvOk g G cl d e) → EvsOk g G cl d es
  | [], _ => oks_nil
  | e :: r, h => oks_cons (h e List.mem_cons_self) (evsOk_of fun e he => h e (List.mem_cons_of_mem _ he))
theorem evBOk_of {b : Bool} : ∀ {es : List ME}, (∀ e ∈ es, EvOk g G cl d e) → EvBOk g G cl d b es
  | [], _ => okB_nil
  | [e], h => okB_one (h e List.mem_cons_self)
  | e :: e' :: r, h => okB_cons (h e List.mem_cons_self) (evBOk_of fun e he => h e (List.mem_cons_of_mem _ he))
theorem evAOk_of {b : Bool} : ∀ {es : List ME}, (∀ e ∈ es, EvTOk g G cl d e) → EvAOk g G cl d b es
  | [], _ => okA_nil
  | e :: r, h => okA_cons (h e List.mem_cons_self) (evAOk_of fun e he => h e (List.mem_cons_of_mem _ he))
theorem okT_none {me : ME} (h : ∀ m σ, evT cl me m σ = Option.none) : EvTOk g G cl d me := by
  intro A env sc vs m F ρ σ s e w σ' hr R L S hc he
  rw [h] at he; cases he
theorem evAll (GO : GOk g G) (C : ∀ k, isInstKd k = true → ClsOk g k) (CO : CallOk g cl d) (me : ME) : EvOk g G cl d me ∧ EvTOk g G cl d me := by
  refine ME.rec (motive_1 := fun me => EvOk g G cl d me ∧ EvTOk g G cl d me) (motive_2 := fun mes => ∀ e ∈ mes, EvOk g G cl d e ∧ EvTOk g G cl d e)
    ?con ?loc ?glob ?bin ?neg ?not ?cmp ?bop ?ite ?tup ?lst ?newl ?newd ?idx ?key ?attr ?slcAB ?slcA ?slcB ?call ?meth ?cmeth ?len ?min ?max ?listOf ?append ?extend ?pop ?pop0 ?insert ?freeze ?compR ?compS ?compSC ?compEC ?nil ?cons me
  case con => exact fun v => ⟨ok_con, okT_con⟩
  case loc => exact fun i => ⟨ok_loc, okT_loc⟩
  case glob => exact fun x v => ⟨ok_glob GO, okT_none fun _ _ => rfl⟩
  case bin => exact fun op a b ha hb => ⟨ok_bin ha.1 hb.1, okT_none fun _ _ => rfl⟩
  case neg => exact fun a ha => ⟨ok_neg ha.1, okT_none fun _ _ => rfl⟩
  case not => exact fun a ha => ⟨ok_not ha.1, okT_not ha.2⟩
  case cmp => exact fun op a b ha hb => ⟨ok_cmp C ha.1 hb.1, okT_cmp C ha.1 hb.1⟩
  case bop => exact fun b es h => ⟨ok_bop (evBOk_of fun e he => (h e he).1), okT_bop (evAOk_of fun e he => (h e he).2)⟩
  case ite => exact fun t a b ht ha hb => ⟨ok_ite ht.2 ha.1 hb.1, okT_ite ht.2 ha.2 hb.2⟩
  case tup => exact fun es h => ⟨ok_tup (evsOk_of fun e he => (h e he).1), okT_none fun _ _ => rfl⟩
  case lst => exact fun es h => ⟨ok_lst (evsOk_of fun e he => (h e he).1), okT_none fun _ _ => rfl⟩
  case newl => exact fun k es h => ⟨ok_newl (evsOk_of fun e he => (h e he).1), okT_none fun _ _ => rfl⟩
  case newd => exact fun k es h => ⟨ok_newd (fun e he => (h e he).1), okT_none fun _ _ => rfl⟩
  case idx => exact fun a i ha hi => ⟨ok_idx ha.1 hi.1, okT_idx ha.1 hi.1⟩
  case key => exact fun a k j ha => ⟨ok_key ha.1, okT_key ha.1⟩
  case attr => exact fun a k j ha => ⟨ok_attr C ha.1, okT_none fun _ _ => rfl⟩
  case slcAB => exact fun a b c ha hb hc => ⟨ok_slcAB ha.1 hb.1 hc.1, okT_none fun _ _ => rfl⟩
  case slcA => exact fun a b ha hb => ⟨ok_slcA ha.1 hb.1, okT_none fun _ _ => rfl⟩
  case slcB => exact fun a b ha hb => ⟨ok_slcB ha.1 hb.1, okT_none fun _ _ => rfl⟩
  case call => exact fun f as hf h => ⟨ok_call CO hf.1 (evsOk_of fun e he => (h e he).1), okT_call CO hf.1 (evsOk_of fun e he => (h e he).1)⟩
  case meth => exact fun a k f as ha h => ⟨ok_meth C CO ha.1 (evsOk_of fun e he => (h e he).1), okT_none fun _ _ => rfl⟩
  case cmeth => exact fun f as h => ⟨ok_cmeth GO CO (evsOk_of fun e he => (h e he).1), okT_none fun _ _ => rfl⟩
  case len => exact fun a ha => ⟨ok_len GO ha.1, okT_none fun _ _ => rfl⟩
  case min => exact fun a b ha hb => ⟨ok_min GO ha.1 hb.1, okT_none fun _ _ => rfl⟩
  case max => exact fun a b ha hb => ⟨ok_max GO ha.1 hb.1, okT_none fun _ _ => rfl⟩
  case listOf => exact fun k a ha => ⟨ok_listOf GO ha.1, okT_none fun _ _ => rfl⟩
  case append => exact fun a b ha hb => ⟨ok_append ha.1 hb.1, okT_none fun _ _ => rfl⟩
  case extend => exact fun a b ha hb => ⟨ok_extend ha.1 hb.1, okT_none fun _ _ => rfl⟩
  case pop => exact fun a ha => ⟨ok_pop ha.1, okT_none fun _ _ => rfl⟩
  case pop0 => exact fun a ha => ⟨ok_pop0 ha.1, okT_none fun _ _ => rfl⟩
  case insert => exact fun a b c ha hb hc => ⟨ok_insert ha.1 hb.1 hc.1, okT_none fun _ _ => rfl⟩
  case freeze => exact fun a ha => ⟨ok_freeze ha.1, okT_none fun _ _ => rfl⟩
  case compR => exact fun a b ha hb => ⟨comp_of (compR_ok GO ha.1 hb.1), okT_none fun _ _ => rfl⟩
  case compS => exact fun a b ha hb => ⟨comp_of (compS_ok ha.1 hb.1), okT_none fun _ _ => rfl⟩
  case compSC => exact fun a b c ha hb hc => ⟨comp_of (compSC_ok ha.1 hb.1 hc.2), okT_none fun _ _ => rfl⟩
  case compEC => exact fun a b c ha hb hc => ⟨comp_of (compEC_ok GO ha.1 hb.1 hc.2), okT_none fun _ _ => rfl⟩
  case nil => exact fun e he => (nomatch he)
  case cons => exact fun e r he hr x hx => (List.mem_cons.mp hx).elim (fun q => q ▸ he) (hr x)
theorem evOk (GO : GOk g G) (C : ∀ k, isInstKd k = true → ClsOk g k) (CO : CallOk g cl d) (me : ME) : EvOk g G cl d me := (evAll GO C CO me).1
theorem evTOk (GO : GOk g G) (C : ∀ k, isInstKd k = true → ClsOk g k) (CO : CallOk g cl d) (me : ME) : EvTOk g G cl d me := (evAll GO C CO me).2
end
end Mine
end
section
open PySem PySem.W PyProof.Rows PySem.Calls PySem.SeqAt
namespace Mine
section
variable {g : GG} {G : Glob} {F F' F₀ F₁ F₂ : FM} {ρ ρ' ρ₀ ρ₁ ρ₂ : RM} {σ σ' σ₁ σ₂ : St} {h h' h₀ h₁ h₂ : Heap} {env : Env} {vs : List Str} {m : List V} {X Y : Addr → Prop} {A : Around} {sc : Scope} {s : Shared} {E : Value → Shared → Prop} {cl : CallF} {d : Nat}
noncomputable def PostU (g : GG) (F : FM) (ρ : RM) (σ : St) (s : Shared) (env : Env) (vs : List Str) (m' : List V) (σ' : St) (Q : Unit → Shared → Prop) : Prop :=
  ∀ F' ρ' h' tk, Rel g F' ρ' σ' h' → Loc g F' ρ' σ' h' env vs m' → Ev (XE env) F ρ σ s.heap F' ρ' σ' h' → Q () { s with heap := h', toks := tk }
theorem Ev.freshX (e : Ev (fun b => Y b ∨ X b) F ρ σ h F' ρ' σ' h') (hx : ∀ b, X b → h.get? b = Option.none) : Ev Y F ρ σ h F' ρ' σ' h' :=
  ⟨e.ext, e.pre, fun b o q hn hy => e.keep b o q hn (fun x => x.elim hy fun x => by rw [hx b x] at q; cases q), e.alive, e.own, e.frz⟩
theorem Loc.lt (L : Loc g F ρ σ h env vs m) {i : Nat} {x : Str} (hv : Vis vs i x) : i < m.length := by
  rw [L.len]
  rcases Nat.lt_or_ge i vs.length with q | q
  · exact q
  · have := hv.1; rw [List.getElem?_eq_none q] at this; cases this
theorem PostU.eq {m₀ m' : List V} {σ₀ : St} {Q : Unit → Shared → Prop} (hQ : PostU g F ρ σ s env vs m' σ' Q) (h : some (m₀, σ₀) = some (m', σ')) : PostU g F ρ σ s env vs m₀ σ₀ Q := by
  cases h; exact hQ
noncomputable def SetOk (g : GG) (G : Glob) (cl : CallF) (d : Nat) (t : MT) : Prop := ∀ A env sc vs m F ρ σ s x y v m' σ' E (Q : Unit → Shared → Prop), Room A d → Rel g F ρ σ s.heap → Loc g F ρ σ s.heap env vs m → SameSc sc env → okT G sc vs t x = true → setTo cl t v m σ = some (m', σ') → VR g F ρ y v → PostU g F ρ σ s env vs m' σ' Q →
  wpAny (model g.prog g.w) A (assign (buildT vs t x) env y) Q E s
theorem set_loc {i : Nat} : SetOk g G cl d (.loc i) := by
  intro A env sc vs m F ρ σ s x y v m' σ' E Q hr R L S hc he hy hQ
  obtain ⟨hi, he⟩ := if_of he
  exact wpAny_assign_Name (Loc.store R L S (visB_spec (b1 hc)) (b2 hc) hi hy fun h' tk R' L' E' => hQ.eq he F ρ h' tk R' L' (E'.mono XN.xe))
theorem set_key {a : ME} {k : Kd} {j : Nat} (ha : EvOk g G cl d a) : SetOk g G cl d (.key a k j) := by
  intro A env sc vs m F ρ σ s x y v m' σ' E Q hr R L S hc he hy hQ
  refine wp_eq (assign_Subscript _ _ _ _) (wpAny_bind (wpAny_holding (ha.use hr R L S (b2 hc) he fun ov σ₁ va F₁ ρ₁ h₁ t₁ R₁ L₁ E₁ V₁ he => ?_)))
  obtain ⟨i, rfl, q⟩ := ref_inv (f := fun k i => (σ₁.dct k i).bind fun vs => if j < vs.length then some (m, σ₁.setO k i (.dict (vs.set j v))) else Option.none) he
  obtain ⟨us, e2, q⟩ := Option.bind_eq_some_iff.mp q
  obtain ⟨hj, q⟩ := if_of q
  refine wpAny_bind (wpAny_holding (wpAny_Constant_str (wpAny_bind (wpAny_standAt (wpAny_bind (wpAny_holding ?_))))))
  refine setK_ok (s := { s with heap := h₁, toks := t₁ + 1 }) R₁ V₁ e2 (fldN_get (of_decide_eq_true (b1 hc))) (hy.mono E₁.ext E₁.pre) _ _ fun F₂ ρ₂ h₂ t₂ R₂ E₂ => ?_
  exact wpAny_release (hQ.eq q F₂ ρ₂ h₂ t₂ R₂ (L₁.move E₂) (E₁.weaken.trans E₂.weaken))
theorem ins_of {α : Type} {us : List V} {j : Nat} {v : V} {f : List V → α} {z : α} (h : (if j < us.length then some (f (us.set j v)) else if j = us.length then some (f (us ++ [v])) else Option.none) = some z) : ∃ us', ((j < us.length ∧ us' = us.set j v) ∨ (j = us.length ∧ us' = us ++ [v])) ∧ some (f us') = some z := by
  by_cases hj : j < us.length
  · exact ⟨_, .inl ⟨hj, rfl⟩, (if_pos hj).symm.trans h⟩
  · obtain ⟨hj, h⟩ := if_of ((if_neg hj).symm.trans h)
    exact ⟨_, .inr ⟨hj, rfl⟩, h⟩
theorem set_attr (C : ∀ k, isInstKd k = true → ClsOk g k) {a : ME} {k : Kd} {j : Nat} (ha : EvOk g G cl d a) : SetOk g G cl d (.attr a k j) := by
  intro A env sc vs m F ρ σ s x y v m' σ' E Q hr R L S hc he hy hQ
  refine wp_eq (assign_Attribute _ _ _ _) (wpAny_bind (wpAny_holding (ha.use hr R L S (b2 (b2 hc)) he fun ov σ₁ va F₁ ρ₁ h₁ t₁ R₁ L₁ E₁ V₁ he => ?_)))
  obtain ⟨i, rfl, q⟩ := ref_inv (f := fun k i => (σ₁.ins k i).bind fun vs => if j < vs.length then some (m, σ₁.setO k i (.inst (vs.set j v))) else if j = vs.length then some (m, σ₁.setO k i (.inst (vs ++ [v]))) else Option.none) he
  obtain ⟨us, e2, q⟩ := Option.bind_eq_some_iff.mp q
  obtain ⟨us', hu, q⟩ := ins_of (f := fun us' => (m, σ₁.setO k i (.inst us'))) q
  refine wpAny_bind (wpAny_standAt (wpAny_bind (wpAny_holding ?_)))
  refine setA_ok (s := { s with heap := h₁, toks := t₁ }) C R₁ V₁ (b1 hc) e2 (fldN_get (of_decide_eq_true (b1 (b2 hc)))) (hy.mono E₁.ext E₁.pre) hu _ _ fun F₂ ρ₂ h₂ t₂ R₂ E₂ => ?_
  exact wpAny_release (hQ.eq q F₂ ρ₂ h₂ t₂ R₂ (L₁.move E₂) (E₁.weaken.trans E₂.weaken))
theorem set_idx {a i : ME} (ha : EvOk g G cl d a) (hi : EvOk g G cl d i) : SetOk g G cl d (.idx a i) := by
  intro A env sc vs m F ρ σ s x y v m' σ' E Q hr R L S hc he hy hQ
  refine wp_eq (assign_Subscript _ _ _ _) (wpAny_bind (wpAny_holding (ha.use hr R L S (b1 (b2 hc)) he fun ov σ₁ va F₁ ρ₁ h₁ t₁ R₁ L₁ E₁ V₁ he => ?_)))
  refine wpAny_bind (wpAny_holding (hi.use hr R₁ L₁ S (b2 (b2 hc)) he fun iv σ₂ vi F₂ ρ₂ h₂ t₂ R₂ L₂ E₂ V₂ he => ?_))
  obtain ⟨k, i, rfl, q0⟩ := refl_of (f := fun k i => (iv.int?).bind fun n => (σ₂.lst k i).bind fun vs => if 0 ≤ n ∧ n < vs.length then some (m, σ₂.setO k i (.list (vs.set n.toNat v))) else Option.none) he
  obtain ⟨n, rfl, q⟩ := int1_of q0
  obtain ⟨us, e3, q⟩ := Option.bind_eq_some_iff.mp q
  obtain ⟨hn, q⟩ := if_of q
  obtain ⟨t, rfl⟩ := V₂.int_inv
  refine wpAny_bind (wpAny_standAt (wpAny_bind (wpAny_holding ?_)))
  refine setI_ok (s := { s with heap := h₂, toks := t₂ }) R₂ (V₁.mono E₂.ext E₂.pre) e3 hn.1 hn.2 ((hy.mono E₁.ext E₁.pre).mono E₂.ext E₂.pre) _ _ fun F₃ ρ₃ h₃ t₃ R₃ E₃ => ?_
  exact wpAny_release (hQ.eq q F₃ ρ₃ h₃ t₃ R₃ (L₂.move E₃) (E₁.weaken.trans (E₂.weaken.trans E₃.weaken)))
theorem set_slc {a lo hi : ME} (ha : EvOk g G cl d a) (hl : EvOk g G cl d lo) (hh : EvOk g G cl d hi) : SetOk g G cl d (.slc a lo hi) := by
  intro A env sc vs m F ρ σ s x y v m' σ' E Q hr R L S hc he hy hQ
  refine wp_eq (assign_Subscript _ _ _ _) (wpAny_bind (wpAny_holding (ha.use hr R L S (b1 hc) he fun ov σ₁ va F₁ ρ₁ h₁ t₁ R₁ L₁ E₁ V₁ he => ?_)))
  refine wpAny_bind (wpAny_holding (wpAny_Slice ?_))
  refine hl.use hr R₁ L₁ S (b1 (b2 hc)) he fun lv σ₂ vl F₂ ρ₂ h₂ t₂ R₂ L₂ E₂ V₂ he => ?_
  refine hh.use hr R₂ L₂ S (b2 (b2 hc)) he fun hv σ₃ vu F₃ ρ₃ h₃ t₃ R₃ L₃ E₃ V₃ he => ?_
  obtain ⟨k, i, rfl, q0⟩ := refl_of (f := fun k i => (lv.int?).bind fun p => (hv.int?).bind fun q => (v.lst?).bind fun ys => (σ₃.lst k i).bind fun vs => if 0 ≤ p ∧ p + ys.length = q ∧ q ≤ vs.length then some (m, σ₃.setO k i (.list (vs.take p.toNat ++ ys ++ vs.drop q.toNat))) else Option.none) he
  obtain ⟨n, q, rfl, rfl, q1⟩ := int2_of q0
  obtain ⟨ys, rfl, q4⟩ := lst1_of q1
  obtain ⟨us, e4, q4⟩ := Option.bind_eq_some_iff.mp q4
  obtain ⟨hn, q4⟩ := if_of q4
  obtain ⟨t, rfl⟩ := V₂.int_inv
  obtain ⟨t', rfl⟩ := V₃.int_inv
  refine wp_eq (evalPart_none _) (wpAny_pure (wpAny_bind (wpAny_standAt (wpAny_bind (wpAny_holding ?_)))))
  obtain ⟨R₄, E₄⟩ := R₃.grow (h' := h₃.push { cls := .type "slice", data := .fields #[.int n t, .int q t', .none] }) (fun _ _ e => Heap.get?_push_of_some _ e)
  have e123 := (E₁.trans (E₂.trans E₃))
  refine setSl_ok (s := { s with heap := h₃.push { cls := .type "slice", data := .fields #[.int n t, .int q t', .none] }, toks := t₃ }) R₄ ((V₁.mono E₂.ext E₂.pre).mono E₃.ext E₃.pre) e4 (hy.mono e123.ext e123.pre) (Heap.IsSliceOf.new ..) hn.1 hn.2.1 hn.2.2 _ _ fun F₅ ρ₅ h₅ t₅ R₅ E₅ => ?_
  exact wpAny_release (hQ.eq q4 F₅ ρ₅ h₅ t₅ R₅ ((L₃.move E₄).move E₅) (e123.weaken.trans (E₄.weaken.trans E₅.weaken)))
theorem setOk (GO : GOk g G) (C : ∀ k, isInstKd k = true → ClsOk g k) (CO : CallOk g cl d) : ∀ t, SetOk g G cl d t
  | .loc _ => set_loc
  | .key a _ _ => set_key (evOk GO C CO a)
  | .attr a _ _ => set_attr C (evOk GO C CO a)
  | .idx a i => set_idx (evOk GO C CO a) (evOk GO C CO i)
  | .slc a lo hi => set_slc (evOk GO C CO a) (evOk GO C CO lo) (evOk GO C CO hi)
theorem assignEach_T {t : MT} {x : PySem.Expr} {r : List PySem.Expr} : assignEach (buildT vs t x :: r) env = (false, assign (buildT vs t x) env) :: assignEach r env := by
  cases t <;> rfl
theorem setAll_ok (SO : ∀ t, SetOk g G cl d t) (hr : Room A d) (S : SameSc sc env) : ∀ {ts : List MT} {xs : List PySem.Expr} {ys : List Value} {us : List V} {m : List V} {F : FM} {ρ : RM} {σ : St} {s : Shared} {m' : List V} {σ' : St} {Q : Unit → Shared → Prop},
    Rel g F ρ σ s.heap → Loc g F ρ σ s.heap env vs m → okTs G sc vs ts xs = true → setAll cl ts us m σ = some (m', σ') → VsR g F ρ ys us → PostU g F ρ σ s env vs m' σ' Q →
    wpAny (model g.prog g.w) A (assignInOrder ((assignEach (buildTs vs ts xs) env).map (·.2)) ys) Q E s
  | [], xs, ys, us, m, F, ρ, σ, s, m', σ', Q, R, L, hc, he, hy, hQ => by
    cases us with
    | nil =>
      cases hy
      exact wpAny_assignInOrder_none (hQ.eq he F ρ s.heap s.toks R L (.refl _ _ _ _ _))
    | cons u r => cases he
  | t :: ts, xs, ys, us, m, F, ρ, σ, s, m', σ', Q, R, L, hc, he, hy, hQ => by
    cases us with
    | nil => cases he
    | cons u ur =>
      cases hy with
      | cons hy hys =>
        obtain ⟨m₁, σ₁, e1, e2⟩ := bind_of he
        show wpAny _ _ (assignInOrder ((assignEach (buildT vs t (xs.headD noE) :: buildTs vs ts xs.tail) env).map (·.2)) _) _ _ _
        rw [assignEach_T]
        refine wpAny_assignInOrder_more (SO t A env sc vs m F ρ σ s _ _ u m₁ σ₁ _ _ hr R L S (b1 hc) e1 hy fun F₁ ρ₁ h₁ t₁ R₁ L₁ E₁ => ?_)
        exact setAll_ok SO hr S (s := { s with heap := h₁, toks := t₁ }) R₁ L₁ (b2 hc) e2 (hys.mono E₁.ext E₁.pre) fun F₂ ρ₂ h₂ t₂ R₂ L₂ E₂ => hQ F₂ ρ₂ h₂ t₂ R₂ L₂ (E₁.trans E₂)
end
end Mine
end
section
open PySem PySem.W PyProof.Rows PySem.Calls PySem.SeqAt
namespace Mine
section
variable {g : GG} {G : Glob} {F F' F₀ F₁ F₂ : FM} {ρ ρ' ρ₀ ρ₁ ρ₂ : RM} {σ σ' σ₁ σ₂ : St} {h h' h₀ h₁ h₂ : Heap} {env : Env} {vs : List Str} {m : List V} {X Y : Addr → Prop} {A : Around} {sc : Scope} {s : Shared} {E : Value → Shared → Prop} {cl : CallF} {d : Nat}
inductive FlR (g : GG) (F : FM) (ρ : RM) : Flow → Fl → Prop
  | next : FlR g F ρ .next .next
  | cont : FlR g F ρ .cont .cont
  | ret {y : Value} {v : V} : VR g F ρ y v → FlR g F ρ (.ret y) (.ret v)
noncomputable def PostS (g : GG) (F : FM) (ρ : RM) (σ : St) (s : Shared) (env : Env) (vs : List Str) (f : Fl) (m' : List V) (σ' : St) (Q : Flow → Shared → Prop) : Prop :=
  ∀ fl F' ρ' h' tk, Rel g F' ρ' σ' h' → Loc g F' ρ' σ' h' env vs m' → Ev (XE env) F ρ σ s.heap F' ρ' σ' h' → FlR g F' ρ' fl f → Q fl { s with heap := h', toks := tk }
theorem PostS.from {f : Fl} {m' : List V} {Q : Flow → Shared → Prop} (hQ : PostS g F ρ σ s env vs f m' σ' Q) (e : Ev (XE env) F ρ σ s.heap F₁ ρ₁ σ₁ h₁) (tk : Nat) : PostS g F₁ ρ₁ σ₁ { s with heap := h₁, toks := tk } env vs f m' σ' Q :=
  fun fl F' ρ' h' tk' R L E W => hQ fl F' ρ' h' tk' R L (e.trans E) W
theorem PostS.eq {f₀ f : Fl} {m₀ m' : List V} {σ₀ : St} {Q : Flow → Shared → Prop} (hQ : PostS g F ρ σ s env vs f m' σ' Q) (h : some (f₀, m₀, σ₀) = some (f, m', σ')) : PostS g F ρ σ s env vs f₀ m₀ σ₀ Q := by
  cases h; exact hQ
theorem bind3_of {α β γ δ : Type} {x : Option (α × β × γ)} {f : α × β × γ → Option δ} {z : δ} (h : x.bind f = some z) : ∃ a b c, x = some (a, b, c) ∧ f (a, b, c) = some z := by
  obtain ⟨⟨a, b, c⟩, e, h⟩ := Option.bind_eq_some_iff.mp h
  exact ⟨a, b, c, e, h⟩
noncomputable def ExOk (g : GG) (G : Glob) (cl : CallF) (d : Nat) (ms : MS) : Prop := ∀ A env sc vs m F ρ σ s st f m' σ', Room A d → Rel g F ρ σ s.heap → Loc g F ρ σ s.heap env vs m → SameSc sc env → okS G sc vs ms st = true → ex cl ms m σ = some (f, m', σ') →
  ∀ (Q : Flow → Shared → Prop) E, PostS g F ρ σ s env vs f m' σ' Q → wpAny (model g.prog g.w) A (exec (buildS vs ms st) env) Q E s
noncomputable def ExsOk (g : GG) (G : Glob) (cl : CallF) (d : Nat) (ms : List MS) : Prop := ∀ A env sc vs m F ρ σ s st f m' σ', Room A d → Rel g F ρ σ s.heap → Loc g F ρ σ s.heap env vs m → SameSc sc env → okSs G sc vs ms st = true → exs cl ms m σ = some (f, m', σ') →
  ∀ (Q : Flow → Shared → Prop) E, PostS g F ρ σ s env vs f m' σ' Q → wpAny (model g.prog g.w) A (execs (buildSs vs ms st) env) Q E s
theorem exs_nil : ExsOk g G cl d [] := by
  intro A env sc vs m F ρ σ s st f m' σ' hr R L S hc he Q E hQ
  exact wpAny_execs_nil (hQ.eq he .next F ρ s.heap s.toks R L (.refl _ _ _ _ _) .next)
theorem exs_cons {a : MS} {r : List MS} (ha : ExOk g G cl d a) (hr' : ExsOk g G cl d r) : ExsOk g G cl d (a :: r) := by
  intro A env sc vs m F ρ σ s st f m' σ' hr R L S hc he Q E hQ
  obtain ⟨f₁, m₁, σ₁, e1, q1⟩ := bind3_of he
  refine wpAny_execs_cons (ha A env sc vs m F ρ σ s _ f₁ m₁ σ₁ hr R L S (b1 hc) e1 _ _ fun fl F₁ ρ₁ h₁ t₁ R₁ L₁ E₁ W₁ => ?_)
  cases W₁ with
  | next => exact hr' A env sc vs m₁ F₁ ρ₁ σ₁ { s with heap := h₁, toks := t₁ } _ f m' σ' hr R₁ L₁ S (b2 hc) q1 Q E (hQ.from E₁ t₁)
  | cont => exact hQ.eq q1 .cont F₁ ρ₁ h₁ t₁ R₁ L₁ E₁ .cont
  | ret V₁ => exact hQ.eq q1 _ F₁ ρ₁ h₁ t₁ R₁ L₁ E₁ (.ret V₁)
theorem swaps_nc {y : PySem.Expr} (h : (!isComp y) = true) (t : Option PySem.Expr) (l : Nat) (env : Env) : swapsWith y t l env = pure false := by
  cases y <;> first | rfl | cases h
theorem Loc.inter (L : Loc g F ρ σ h env vs m) : interactive env = false := by
  unfold interactive; rw [L.kind]; rfl
theorem x_expr (GO : GOk g G) (C : ∀ k, isInstKd k = true → ClsOk g k) (CO : CallOk g cl d) {e : ME} : ExOk g G cl d (.expr e) := by
  intro A env sc vs m F ρ σ s st f m' σ' hr R L S hc he Q E hQ
  refine wpAny_Expr_any ((evOk GO C CO e).use hr R L S (b2 hc) he fun v σ₁ y F₁ ρ₁ h₁ t₁ R₁ L₁ E₁ V₁ q1 => ?_) L.inter (swaps_nc (b1 hc) _ _ _)
  exact hQ.eq q1 .next F₁ ρ₁ h₁ t₁ R₁ L₁ E₁.weaken .next
theorem x_ret (GO : GOk g G) (C : ∀ k, isInstKd k = true → ClsOk g k) (CO : CallOk g cl d) {e : ME} : ExOk g G cl d (.ret e) := by
  intro A env sc vs m F ρ σ s st f m' σ' hr R L S hc he Q E hQ
  exact wpAny_Return_some ((evOk GO C CO e).use hr R L S hc he fun v σ₁ y F₁ ρ₁ h₁ t₁ R₁ L₁ E₁ V₁ q1 => hQ.eq q1 _ F₁ ρ₁ h₁ t₁ R₁ L₁ E₁.weaken (.ret V₁))
theorem x_cont : ExOk g G cl d .cont := by
  intro A env sc vs m F ρ σ s st f m' σ' hr R L S hc he Q E hQ
  exact wpAny_Continue (hQ.eq he .cont F ρ s.heap s.toks R L (.refl _ _ _ _ _) .cont)
theorem x_ite (GO : GOk g G) (C : ∀ k, isInstKd k = true → ClsOk g k) (CO : CallOk g cl d) {t : ME} {a b : List MS} (ha : ExsOk g G cl d a) (hb : ExsOk g G cl d b) : ExOk g G cl d (.ite t a b) := by
  intro A env sc vs m F ρ σ s st f m' σ' hr R L S hc he Q E hQ
  refine wpAny_If ((evTOk GO C CO t).use hr R L S (b1 hc) he fun c σ₁ F₁ ρ₁ h₁ t₁ R₁ L₁ E₁ q1 => ?_)
  cases c with
  | true => exact ha A env sc vs m F₁ ρ₁ σ₁ { s with heap := h₁, toks := t₁ } _ f m' σ' hr R₁ L₁ S (b1 (b2 hc)) q1 Q E (hQ.from E₁.weaken t₁)
  | false => exact hb A env sc vs m F₁ ρ₁ σ₁ { s with heap := h₁, toks := t₁ } _ f m' σ' hr R₁ L₁ S (b2 (b2 hc)) q1 Q E (hQ.from E₁.weaken t₁)
inductive WhAt (g : GG) (F : FM) (ρ : RM) (σ : St) (s : Shared) (env : Env) (vs : List Str) (W : List V → St → Prop) : Shared → Prop
  | mk (F' : FM) (ρ' : RM) (σ₁ : St) (m₁ : List V) (h' : Heap) (tk : Nat) : Rel g F' ρ' σ₁ h' → Loc g F' ρ' σ₁ h' env vs m₁ → Ev (XE env) F ρ σ s.heap F' ρ' σ₁ h' → W m₁ σ₁ → WhAt g F ρ σ s env vs W { s with heap := h', toks := tk }
theorem x_while (GO : GOk g G) (C : ∀ k, isInstKd k = true → ClsOk g k) (CO : CallOk g cl d) {t : ME} {b : List MS} (hb : ExsOk g G cl d b) : ExOk g G cl d (.whil t b) := by
  intro A env sc vs m F ρ σ s st f m' σ' hr R L S hc he Q E hQ
  refine wpAny_While ?_
  refine codeAny_whileLoop (fun k => WhAt g F ρ σ s env vs fun m₁ σ₁ => loopW (evT cl t) (exs cl b) k m₁ σ₁ = some (f, m', σ')) ?_ WF ⟨F, ρ, σ, m, s.heap, s.toks, R, L, .refl _ _ _ _ _, he⟩
  intro k s' hJ
  obtain ⟨F', ρ', σ₁, m₁, h', tk, R', L', E', hw⟩ := hJ
  cases k with
  | zero => cases hw
  | succ k =>
    refine (evTOk GO C CO t).use (s := { s with heap := h', toks := tk }) hr R' L' S (b1 hc) hw fun c σ₂ F₁ ρ₁ h₁ t₁ R₁ L₁ E₁ q1 => ?_
    cases c with
    | true =>
      obtain ⟨f₁, m₂, σ₃, e2, q2⟩ := bind3_of q1
      refine hb A env sc vs m₁ F₁ ρ₁ σ₂ { s with heap := h₁, toks := t₁ } _ f₁ m₂ σ₃ hr R₁ L₁ S (b2 hc) e2 _ _ fun fl F₂ ρ₂ h₂ t₂ R₂ L₂ E₂ W₂ => ?_
      have e012 := (E'.trans E₁.weaken).trans E₂
      cases W₂ with
      | next => exact ⟨k, Nat.lt_succ_self k, F₂, ρ₂, σ₃, m₂, h₂, t₂, R₂, L₂, e012, q2⟩
      | cont => exact ⟨k, Nat.lt_succ_self k, F₂, ρ₂, σ₃, m₂, h₂, t₂, R₂, L₂, e012, q2⟩
      | ret V₂ => exact hQ.eq q2 _ F₂ ρ₂ h₂ t₂ R₂ L₂ e012 (.ret V₂)
    | false => exact wpAny_execs_nil (hQ.eq q1 .next F₁ ρ₁ h₁ t₁ R₁ L₁ (E'.trans E₁.weaken) .next)
inductive ForAt (g : GG) (F : FM) (ρ : RM) (σ : St) (s : Shared) (env : Env) (vs : List Str) (X : Addr → Prop) (n : Nat) (I : Nat → Heap → Prop) (W : Nat → List V → St → Prop) : Nat → Shared → Prop
  | mk (j : Nat) (F' : FM) (ρ' : RM) (σ₁ : St) (m₁ : List V) (h' : Heap) (tk : Nat) : Rel g F' ρ' σ₁ h' → Loc g F' ρ' σ₁ h' env vs m₁ → I j h' → (∀ b, X b → ¬ Own ρ' σ₁ b ∧ F' b = Option.none) →
      Ev (fun b => XE env b ∨ X b) F ρ σ s.heap F' ρ' σ₁ h' → j ≤ n → W j m₁ σ₁ → ForAt g F ρ σ s env vs X n I W (n - j + 1) { s with heap := h', toks := tk }
theorem Loc.apart (L : Loc g F ρ σ h env vs m) (hX : ∀ b, X b → h.get? b = Option.none) : ∀ b, X b → b ≠ env.locals ∧ ∀ x c, env.cells.lookup x = some c → b ≠ c := fun b hb => by
  refine ⟨fun q => ?_, fun x c hc q => ?_⟩
  · obtain ⟨mp, ⟨o, es, ep, ho, _⟩, _⟩ := L.ns
    rw [← q, hX b hb] at ho; cases ho
  · obtain ⟨o, q2⟩ := L.cal x c hc
    rw [← q, hX b hb] at q2; cases q2
theorem Loc.writeP (L : Loc g F ρ σ h env vs m) (hXl : ∀ b, X b → b ≠ env.locals ∧ ∀ x c, env.cells.lookup x = some c → b ≠ c) (hk : ∀ b o, ¬ X b → h.get? b = some o → h'.get? b = some o) : Loc g F ρ σ h' env vs m := by
  obtain ⟨mp, ⟨o, es, ep, ho, r⟩, hm⟩ := L.ns
  refine ⟨L.kind, L.glo, L.bui, L.len, ⟨mp, ⟨o, es, ep, hk _ _ (fun q => (hXl _ q).1 rfl) ho, r⟩, hm⟩, fun x hx hkd => ?_, L.inj, L.off, fun x c q => ?_⟩
  · obtain ⟨c, w, q1, ⟨o, q2, q3⟩, q4⟩ := L.cel x hx hkd
    exact ⟨c, w, q1, ⟨o, hk _ _ (fun q => (hXl _ q).2 x c q1 rfl) q2, q3⟩, q4⟩
  · obtain ⟨o, q'⟩ := L.cal x c q
    exact ⟨o, hk _ _ (fun z => (hXl _ z).2 x c q rfl) q'⟩
theorem Ev.writeX (e : Ev Y F ρ σ h₀ F' ρ' σ' h') (hX : ∀ b, X b → h₀.get? b = Option.none) (hk : ∀ b o, ¬ X b → h'.get? b = some o → h₂.get? b = some o) : Ev Y F ρ σ h₀ F' ρ' σ' h₂ := by
  have hnx : ∀ b o, h₀.get? b = some o → ¬ X b := fun b o q x => by rw [hX b x] at q; cases q
  refine ⟨e.ext, e.pre, fun b o q hn hy => hk b o (hnx b o q) (e.keep b o q hn hy), fun b o q => ?_, e.own, e.frz⟩
  obtain ⟨o', q'⟩ := e.alive b o q
  exact ⟨o', hk b o' (hnx b o q) q'⟩
noncomputable def PostF (g : GG) (F : FM) (ρ : RM) (σ : St) (h₀ : Heap) (s : Shared) (env : Env) (vs : List Str) (f : Fl) (m' : List V) (σ' : St) (R' : Result → Shared → Prop) : Prop :=
  ∀ fl F' ρ' h' tk, Rel g F' ρ' σ' h' → Loc g F' ρ' σ' h' env vs m' → Ev (XE env) F ρ σ h₀ F' ρ' σ' h' → FlR g F' ρ' fl f → R' (.ok fl) { s with heap := h', toks := tk }
theorem PostF.eq {f₀ f : Fl} {m₀ m' : List V} {σ₀ : St} {R' : Result → Shared → Prop} (hQ : PostF g F ρ σ h₀ s env vs f m' σ' R') (h : some (f₀, m₀, σ₀) = some (f, m', σ')) : PostF g F ρ σ h₀ s env vs f₀ m₀ σ₀ R' := by
  cases h; exact hQ
theorem for_core {it : Value} {n : Nat} {item : St → Nat → Option V} {put : V → List V → Option (List V)} {fin : St → Prop} {I : Nat → Heap → Prop} {tx : List Str} {target : PySem.Expr} {b : List MS} {y : List PySem.Stmt} {us : List V} {f : Fl} {m' : List V} {R' : Result → Shared → Prop}
    (hb : ExsOk g G cl d b) (hr : Room A d) (R : Rel g F ρ σ h₀) (L : Loc g F ρ σ h₀ env vs m) (S : SameSc sc env) (hc : okSs G sc vs b y = true)
    (hk₀ : ∀ b o, h₀.get? b = some o → s.heap.get? b = some o) (hX : ∀ b, X b → h₀.get? b = Option.none)
    (H : Head g A it env vs tx target X n item put fin I F ρ) (hI : I 0 s.heap) (hn : us.length = n) (hit : ∀ τ j, j < n → item τ j = us[j]?) (hfin : ∀ τ, fin τ)
    (he : loopF (fun x m τ => (put x m).bind fun m₂ => exs cl b m₂ τ) us m σ = some (f, m', σ'))
    (hR : PostF g F ρ σ h₀ s env vs f m' σ' R') :
    codeAny (model g.prog g.w) A (.forLoop target it (buildSs vs b y) [] env) R' s := by
  obtain ⟨R₀, E₀⟩ := R.grow hk₀
  have hXl := L.apart hX
  have fresh : ∀ {F' ρ' σ' h'}, Ev (fun b => XE env b ∨ X b) F ρ σ s.heap F' ρ' σ' h' → Ev (XE env) F ρ σ h₀ F' ρ' σ' h' := fun e => ((E₀.weaken.trans e)).freshX hX
  obtain ⟨W, hW⟩ : ∃ W : Nat → List V → St → Prop, ∀ j m₁ σ₁, W j m₁ σ₁ ↔ loopF (fun x m τ => (put x m).bind fun m₂ => exs cl b m₂ τ) (us.drop j) m₁ σ₁ = some (f, m', σ') := ⟨_, fun _ _ _ => Iff.rfl⟩
  refine codeAny_forLoop_any (ForAt g F ρ σ s env vs X n I W) ?_ (n + 1)
    ⟨0, F, ρ, σ, m, s.heap, s.toks, R₀, L.move E₀, hI, fun b hb => ⟨R.not_own (hX b hb), R.not_frz (hX b hb)⟩, .refl _ _ _ _ _, Nat.zero_le _, (hW _ _ _).mpr he⟩
  intro k s' hj'
  obtain ⟨j, F', ρ', σ₁, m₁, h', tk, R₁, L₁, hIj, hXp, E₁, hj, hw⟩ := hj'
  have hw := (hW _ _ _).mp hw
  generalize hNB : (notedBy (model g.prog g.w) A env fun e s' => R' (.error e) s') = NB
  rcases Nat.lt_or_ge j n with hlt | hge
  · have hjl : j < us.length := hn ▸ hlt
    rw [List.drop_eq_getElem_cons hjl] at hw
    obtain ⟨f₁, m₂, σ₂, q1, q2⟩ := bind3_of hw
    obtain ⟨m₃, q3, q4⟩ := Option.bind_eq_some_iff.mp q1
    refine wpAny_mono (H.turn j F' ρ' σ₁ m₁ m₃ { s with heap := h', toks := tk } us[j] (fun _ s₂ => wpAny (model g.prog g.w) A (execs (buildSs vs b y) env) (fun f s₃ => match f with
            | .next | .cont => ∃ m, m < n - j + 1 ∧ ForAt g F ρ σ s env vs X n I W m s₃
            | .brk => R' (.ok .next) s₃
            | .ret v => R' (.ok (.ret v)) s₃) NB s₂) NB hlt hIj R₁ E₁.ext E₁.pre L₁ (fun b hb => ⟨hXp b hb, hXl b hb⟩) ((hit _ _ hlt).trans (List.getElem?_eq_getElem hjl)) q3 ?_) (fun r s₁ hr => ?_) fun _ _ e => e
    rotate_left
    · cases r with
      | none => exact hr.elim
      | some v => exact hr
    intro h₂ t₂ R₂ L₂ hI₂ E₂
    refine hb A env sc vs m₃ F' ρ' σ₁ { s with heap := h₂, toks := t₂ } y f₁ m₂ σ₂ hr R₂ L₂ S hc q4 _ _ fun fl F₃ ρ₃ h₃ t₃ R₃ L₃ E₃ W₃ => ?_
    have e123 : Ev (fun b => XE env b ∨ X b) F ρ σ s.heap F₃ ρ₃ σ₂ h₃ := (E₁.trans (E₂.mono fun b hb => hb.imp (XN.xe b) id)).trans (E₃.mono fun b hb => .inl hb)
    have hX₃ : ∀ b, X b → ¬ Own ρ₃ σ₂ b ∧ F₃ b = Option.none := fun b hb =>
      have p := Priv.move (X := XE env) (h := h₂) ⟨(hXp b hb).1, (hXp b hb).2, H.live _ _ hI₂ b hb⟩ E₃
      ⟨p.1, p.2.1⟩
    have hI₃ : I (j + 1) h₃ := H.frame _ _ _ hI₂ fun b hb o e => E₃.keep b o e (hXp b hb).1 fun q => q.elim (hXl b hb).1 fun ⟨x, q⟩ => (hXl b hb).2 x b q rfl
    have go := fun q => (⟨n - (j + 1) + 1, by lia, ⟨j + 1, F₃, ρ₃, σ₂, m₂, h₃, t₃, R₃, L₃, hI₃, hX₃, e123, hlt, (hW _ _ _).mpr q⟩⟩ : ∃ m, m < n - j + 1 ∧ ForAt g F ρ σ s env vs X n I W m { s with heap := h₃, toks := t₃ })
    cases W₃ with
    | next => exact go q2
    | cont => exact go q2
    | ret V₃ => exact hR.eq q2 _ F₃ ρ₃ h₃ t₃ R₃ L₃ (fresh e123) (.ret V₃)
  · have hjn := Nat.le_antisymm hj hge
    subst hjn
    rw [List.drop_eq_nil_of_le (Nat.le_of_eq hn)] at hw
    refine wpAny_mono (H.done F' ρ' σ₁ { s with heap := h', toks := tk } (fun r s₁ => match r with | Option.none => R' (.ok .next) s₁ | some _ => False) NB hIj R₁ E₁.ext E₁.pre (hfin _) (fun h₂ t₂ hk₂ => ?_)) (fun r s₁ hr => ?_) fun _ _ e => e
    · exact hR.eq hw .next F' ρ' h₂ t₂ (R₁.writeP hXp hk₂) (L₁.writeP hXl hk₂) ((fresh E₁).writeX hX hk₂) .next
    · cases r with
      | none => exact wpAny_execs_nil hr
      | some v => exact hr.elim
end
end Mine
end
section
open PySem PySem.W PyProof.Rows PySem.Calls PySem.SeqAt
namespace Mine
section
variable {g : GG} {G : Glob} {F F' F₀ F₁ F₂ : FM} {ρ ρ' ρ₀ ρ₁ ρ₂ : RM} {σ σ' σ₁ σ₂ : St} {h h' h₀ h₁ h₂ : Heap} {env : Env} {vs : List Str} {m : List V} {X Y : Addr → Prop} {A : Around} {sc : Scope} {s : Shared} {E : Value → Shared → Prop} {cl : CallF} {d : Nat}
theorem rangeV_get {p q : Int} {j : Nat} (h : j < (q - p).toNat) : (rangeV p q)[j]? = some (.int (p + (j : Int))) := by
  unfold rangeV
  rw [List.getElem?_map, List.getElem?_range h]; rfl
theorem rangeV_length {p q : Int} : (rangeV p q).length = (q - p).toNat := by unfold rangeV; simp
theorem forRange {R' : Result → Shared → Prop} {p q : Int} {i : Nat} {x : Str} {px : Pos} {b : List MS} {y : List PySem.Stmt} {f : Fl} {m' : List V} {t0 t1 t2 : Tok} (hb : ExsOk g G cl d b) (hr : Room A d) (R : Rel g F ρ σ h₀) (L : Loc g F ρ σ h₀ env vs m) (S : SameSc sc env) (hc : okSs G sc vs b y = true)
    (hv : visB vs i x = true) (hst : stoB sc x = true) (hsp : small p = true) (hsq : small q = true)
    (he : loopF (fun x m τ => (putNm i x m).bind fun m₂ => exs cl b m₂ τ) (rangeV p q) m σ = some (f, m', σ'))
    (hR : PostF g F ρ σ h₀ s env vs f m' σ' R') :
    wpAny (model g.prog g.w) A (pyIter (.ref h₀.objs.size)) (fun it s₂ => codeAny (model g.prog g.w) A (.forLoop (.Name x px) it (buildSs vs b y) [] env) R' s₂) E { s with heap := h₀.push { cls := .type "range", data := .fields #[.int p t0, .int q t1, .int 1 t2] } } := by
  have hsp' := small_spec hsp
  have hsq' := small_spec hsq
  have hsz : Builtin.Range.rangeSize p q 1 = ((q - p).toNat : Int) := by rw [rangeSize_one]; split <;> lia
  refine wpAny_pyIter_range (Heap.get?_push_size _ rfl) (by simp [Builtin.Range.small, Builtin.Range.rangeFitsLong, hsz]; lia) ?_
  dsimp only
  rw [Heap.size_push, hsz]
  generalize hIt : h₀.objs.size + 1 = J
  have hk : ∀ b o, h₀.get? b = some o → ((h₀.push { cls := .type "range", data := .fields #[.int p t0, .int q t1, .int 1 t2] }).push { cls := .type "range_iterator", data := .fields #[rawInt p, rawInt ((q - p).toNat : Int), rawInt 1] }).get? b = some o :=
    fun b o e => Heap.get?_push_of_some _ (Heap.get?_push_of_some _ e)
  have hI : IsRangeIter ((h₀.push { cls := .type "range", data := .fields #[.int p t0, .int q t1, .int 1 t2] }).push { cls := .type "range_iterator", data := .fields #[rawInt p, rawInt ((q - p).toNat : Int), rawInt 1] }) J (p + ((0 : Nat) : Int)) (((q - p).toNat : Int) - ((0 : Nat) : Int)) 1 := by
    have := Heap.get?_push_size (h₀.push { cls := .type "range", data := .fields #[.int p t0, .int q t1, .int 1 t2] }) (o := { cls := .type "range_iterator", data := .fields #[rawInt p, rawInt ((q - p).toNat : Int), rawInt 1] }) rfl
    rw [Heap.size_push, hIt] at this
    simpa using this
  refine for_core (X := fun b => b = J) (I := fun j h => IsRangeIter h J (p + (j : Int)) (((q - p).toNat : Int) - j) 1) hb hr R L S hc hk (fun b hb => by rw [hb, ← hIt]; exact size_none _ (Nat.le_succ _))
    (Head.name (Src.range hr.handled p (q - p).toNat) S (visB_spec hv) hst) hI rangeV_length (fun τ j hj => by rw [rangeV_get hj]) (fun _ => trivial) he hR
theorem forList {R' : Result → Shared → Prop} {us : List V} {xv : Value} {i : Nat} {x : Str} {px : Pos} {b : List MS} {y : List PySem.Stmt} {f : Fl} {m' : List V} (hb : ExsOk g G cl d b) (hr : Room A d) (R : Rel g F ρ σ h₀) (L : Loc g F ρ σ h₀ env vs m) (S : SameSc sc env) (hc : okSs G sc vs b y = true)
    (hv : visB vs i x = true) (hst : stoB sc x = true) (hy : VR g F ρ xv (.lst us))
    (he : loopF (fun x m τ => (putNm i x m).bind fun m₂ => exs cl b m₂ τ) us m σ = some (f, m', σ'))
    (hR : PostF g F ρ σ h₀ s env vs f m' σ' R') :
    wpAny (model g.prog g.w) A (pyIter xv) (fun it s₂ => codeAny (model g.prog g.w) A (.forLoop (.Name x px) it (buildSs vs b y) [] env) R' s₂) E { s with heap := h₀ } := by
  obtain ⟨l, xs, k, rfl, q1, q2, q3⟩ := hy.lst_inv
  refine wpAny_pyIter_list (items := xs.toArray) ⟨_, R.frz _ _ q1, rfl, _, rfl⟩ ?_
  dsimp only
  generalize hIt : h₀.objs.size = J
  have hk : ∀ b o, h₀.get? b = some o → (h₀.push { cls := .type "list_iterator", data := .fields #[.ref l, .int 0 0] }).get? b = some o := fun b o e => Heap.get?_push_of_some _ e
  have hI : (h₀.push { cls := .type "list_iterator", data := .fields #[.ref l, .int 0 0] }).IsListIter J l 0 := ⟨_, by rw [← hIt]; exact Heap.get?_push_size _ rfl, rfl, rfl⟩
  exact for_core (X := fun b => b = J) (n := us.length) (item := fun σ j => turnItem σ (.lst us) us.length j) (fin := fun σ => turns σ (.lst us) = some us.length) (I := fun j h => h.IsListIter J l j) hb hr R L S hc hk (fun b hb => by rw [hb, ← hIt]; exact Heap.none_size _)
    (Head.name (Src.list hr.handled (by intro us' h; cases h) hy) S (visB_spec hv) hst) hI rfl (fun τ j hj => rfl) (fun _ => rfl) he hR
theorem forPairs {R' : Result → Shared → Prop} {us : List V} {xv : Value} {i j : Nat} {x z : Str} {px pz pt : Pos} {kk : Nat} {b : List MS} {y : List PySem.Stmt} {f : Fl} {m' : List V} (hb : ExsOk g G cl d b) (hr : Room A d) (R : Rel g F ρ σ h₀) (L : Loc g F ρ σ h₀ env vs m) (S : SameSc sc env) (hc : okSs G sc vs b y = true)
    (hv : visB vs i x = true) (hst : stoB sc x = true) (hv' : visB vs j z = true) (hst' : stoB sc z = true) (hy : VR g F ρ xv (.lst us))
    (he : loopF (fun x m τ => (putPr i j x m).bind fun m₂ => exs cl b m₂ τ) us m σ = some (f, m', σ'))
    (hR : PostF g F ρ σ h₀ s env vs f m' σ' R') :
    wpAny (model g.prog g.w) A (pyIter xv) (fun it s₂ => codeAny (model g.prog g.w) A (.forLoop (.Tuple [.Name x px, .Name z pz] kk pt) it (buildSs vs b y) [] env) R' s₂) E { s with heap := h₀ } := by
  obtain ⟨l, xs, k, rfl, q1, q2, q3⟩ := hy.lst_inv
  refine wpAny_pyIter_list (items := xs.toArray) ⟨_, R.frz _ _ q1, rfl, _, rfl⟩ ?_
  dsimp only
  generalize hIt : h₀.objs.size = J
  have hk : ∀ b o, h₀.get? b = some o → (h₀.push { cls := .type "list_iterator", data := .fields #[.ref l, .int 0 0] }).get? b = some o := fun b o e => Heap.get?_push_of_some _ e
  have hI : (h₀.push { cls := .type "list_iterator", data := .fields #[.ref l, .int 0 0] }).IsListIter J l 0 := ⟨_, by rw [← hIt]; exact Heap.get?_push_size _ rfl, rfl, rfl⟩
  exact for_core (X := fun b => b = J) hb hr R L S hc hk (fun b hb => by rw [hb, ← hIt]; exact Heap.none_size _)
    (Head.pair hr.handled hy S (visB_spec hv) (visB_spec hv') hst hst') hI rfl (fun τ j hj => rfl) (fun _ => trivial) he hR
theorem PostS.toF {f : Fl} {m' : List V} {Q : Flow → Shared → Prop} {R' : Result → Shared → Prop} (hQ : PostS g F ρ σ s env vs f m' σ' Q) (E₁ : Ev NoX F ρ σ s.heap F₁ ρ₁ σ₁ h₁) (t₁ : Nat) (hR : ∀ fl s', Q fl s' → R' (.ok fl) s') : PostF g F₁ ρ₁ σ₁ h₁ { s with heap := h₁, toks := t₁ } env vs f m' σ' R' :=
  fun fl F₂ ρ₂ h₂ t₂ R₂ L₂ E₂ W₂ => hR _ _ (hQ fl F₂ ρ₂ h₂ t₂ R₂ L₂ (E₁.weaken.trans E₂) W₂)
theorem x_forS (GO : GOk g G) (C : ∀ k, isInstKd k = true → ClsOk g k) (CO : CallOk g cl d) {i : Nat} {src : ME} {b : List MS} (hb : ExsOk g G cl d b) : ExOk g G cl d (.forS i src b) := by
  intro A env sc vs m F ρ σ s st f m' σ' hr R L S hc he Q E hQ
  have hc2 := b2 (b2 hc)
  refine wpAny_For ((evOk GO C CO src).use hr R L S (b1 (b2 hc2)) he fun v σ₁ xv F₁ ρ₁ h₁ t₁ R₁ L₁ E₁ V₁ q1 => ?_) (foldedSet_ns (b1 hc) env)
  obtain ⟨us, rfl, q2⟩ := lst_of (f := fun us => loopF (fun x m τ => (putNm i x m).bind fun m₂ => exs cl b m₂ τ) us m σ₁) q1
  exact forList (s := { s with heap := h₁, toks := t₁ }) hb hr R₁ L₁ S (b2 (b2 hc2)) (b1 (b2 hc)) (b1 hc2) V₁ q2 (hQ.toF E₁ t₁ fun _ _ h => h)
theorem x_forS2 (GO : GOk g G) (C : ∀ k, isInstKd k = true → ClsOk g k) (CO : CallOk g cl d) {i j : Nat} {src : ME} {b : List MS} (hb : ExsOk g G cl d b) : ExOk g G cl d (.forS2 i j src b) := by
  intro A env sc vs m F ρ σ s st f m' σ' hr R L S hc he Q E hQ
  have hc2 := b2 (b2 hc)
  have hc4 := b2 (b2 hc2)
  have hc6 := b2 (b2 hc4)
  refine wpAny_For ((evOk GO C CO src).use hr R L S (b1 hc6) he fun v σ₁ xv F₁ ρ₁ h₁ t₁ R₁ L₁ E₁ V₁ q1 => ?_) (foldedSet_ns (b1 hc) env)
  obtain ⟨us, rfl, q2⟩ := lst_of (f := fun us => loopF (fun x m τ => (putPr i j x m).bind fun m₂ => exs cl b m₂ τ) us m σ₁) q1
  exact forPairs (s := { s with heap := h₁, toks := t₁ }) hb hr R₁ L₁ S (b2 hc6) (b1 (b2 hc)) (b1 hc2) (b1 (b2 hc2)) (b1 hc4) V₁ q2 (hQ.toF E₁ t₁ fun _ _ h => h)
theorem x_forR1 (GO : GOk g G) (C : ∀ k, isInstKd k = true → ClsOk g k) (CO : CallOk g cl d) {i : Nat} {hi : ME} {b : List MS} (hb : ExsOk g G cl d b) : ExOk g G cl d (.forR1 i hi b) := by
  intro A env sc vs m F ρ σ s st f m' σ' hr R L S hc he Q E hQ
  have hc2 := b2 (b2 hc)
  have hc4 := b2 (b2 hc2)
  refine wpAny_For (bt1 GO R L S (b1 hc) (.tail _ (.tail _ (.tail _ (.head _)))) bb_range (by decide) (b1 (b2 hc)) ((evOk GO C CO hi).use hr R L S (b1 hc4) he fun v σ₁ xv F₁ ρ₁ h₁ t₁ R₁ L₁ E₁ V₁ q1 => ?_)) (fun _ => rfl)
  obtain ⟨q, rfl, q2⟩ := int_of (f := fun q => if okLen q.toNat ∧ small q then loopF (fun x m τ => (putNm i x m).bind fun m₂ => exs cl b m₂ τ) (rangeV 0 q) m σ₁ else Option.none) q1
  obtain ⟨hq, q2⟩ := if_of q2
  obtain ⟨t, rfl⟩ := V₁.int_inv
  exact call_range_1 (forRange (s := { s with heap := h₁, toks := t₁ + 1 + 1 }) hb hr R₁ L₁ S (b2 hc4) (b1 hc2) (b1 (b2 hc2)) (by decide) hq.2 q2 (hQ.toF E₁ (t₁ + 1 + 1) fun _ _ h => h))
theorem x_forR (GO : GOk g G) (C : ∀ k, isInstKd k = true → ClsOk g k) (CO : CallOk g cl d) {i : Nat} {lo hi : ME} {b : List MS} (hb : ExsOk g G cl d b) : ExOk g G cl d (.forR i lo hi b) := by
  intro A env sc vs m F ρ σ s st f m' σ' hr R L S hc he Q E hQ
  have hc2 := b2 (b2 hc)
  have hc4 := b2 (b2 hc2)
  have hc6 := b2 (b2 hc4)
  refine wpAny_For (bt2 GO R L S (b1 hc) (.tail _ (.tail _ (.tail _ (.head _)))) bb_range (by decide) (b1 (b2 hc)) (b1 hc2) ((evOk GO C CO lo).use hr R L S (b1 (b2 hc4)) he fun u σ₁ xv F₁ ρ₁ h₁ t₁ R₁ L₁ E₁ V₁ q1 => ?_)) (fun _ => rfl)
  refine (evOk GO C CO hi).use hr R₁ L₁ S (b1 hc6) q1 fun v σ₂ yv F₂ ρ₂ h₂ t₂ R₂ L₂ E₂ V₂ q2 => ?_
  obtain ⟨p, q, rfl, rfl, q3⟩ := int2_of (f := fun p q => if okLen (q - p).toNat ∧ small p ∧ small q then loopF (fun x m τ => (putNm i x m).bind fun m₂ => exs cl b m₂ τ) (rangeV p q) m σ₂ else Option.none) q2
  obtain ⟨hq, q3⟩ := if_of q3
  obtain ⟨t, rfl⟩ := V₁.int_inv
  obtain ⟨t', rfl⟩ := V₂.int_inv
  exact call_range_2 (forRange (s := { s with heap := h₂, toks := t₂ + 1 }) hb hr R₂ L₂ S (b2 hc6) (b1 (b2 hc2)) (b1 hc4) hq.2.1 hq.2.2 q3 (hQ.toF (E₁.trans E₂) (t₂ + 1) fun _ _ h => h))
theorem loc_local (S : SameSc sc env) {x : Str} (h : locOnly sc x = true) : env.kindOf x = some .local := by
  have h' : sc.names.lookup x = some .local := eq_of_beq h
  rcases S x _ h' with q | ⟨q, _⟩
  · exact q
  · cases q
theorem Loc.storeL {x : Str} {i : Nat} {v : V} {y : Value} {Q : Unit → Shared → Prop} {M : Model} (R : Rel g F ρ σ s.heap) (L : Loc g F ρ σ s.heap env vs m) (k : env.kindOf x = some .local) (hv : Vis vs i x) (hi : i < m.length) (hy : VR g F ρ y v)
    (hQ : ∀ h' tk, Rel g F ρ σ h' → Loc g F ρ σ h' env vs (m.set i v) → Ev (fun b => b = env.locals) F ρ σ s.heap F ρ σ h' → Q () { s with heap := h', toks := tk }) : wpAny M A (storeName env x y) Q E s := by
  obtain ⟨mp, hn, hmm⟩ := L.ns
  refine wpAny_storeName_local k hn (fun h' hn' hs => ?_) (by rw [L.kind]; rfl)
  obtain ⟨oL, _, _, hoL, _⟩ := id hn'
  obtain ⟨R', E'⟩ := R.write (X := fun b => b = env.locals) L.off.2 L.off.1 (fun b o hb e => (hs.2 b hb).trans e) (fun o _ => ⟨oL, hoL⟩) rfl
  refine hQ h' _ R' ⟨L.kind, L.glo, L.bui, by rw [List.length_set]; exact L.len, ?_, fun z hz hk => ?_, L.inj, L.off, fun x c q => let ⟨o, q'⟩ := L.cal x c q; E'.alive c o q'⟩ E'
  · refine ⟨_, hn', fun j z u hvz hkz hj hu => ?_⟩
    by_cases hzx : z = x
    · subst hzx
      have := hv.inj hvz; subst this
      rw [set_get, if_pos rfl, if_pos hi] at hj; cases hj
      exact ⟨y, by simp, hy⟩
    · have hne : j ≠ i := fun e => by subst e; exact hzx (hvz.name hv)
      rw [set_get, if_neg hne] at hj
      obtain ⟨y', p1, p2⟩ := hmm j z u hvz hkz hj hu
      exact ⟨y', by simp only [hzx, if_false]; exact p1, p2⟩
  · obtain ⟨c', w', r1, r2, r3, r4, r5, r7⟩ := L.cel z hz hk
    refine ⟨c', w', r1, r2.sameBut hs r5, r3, r4, r5, fun j u hvz hj hu => ?_⟩
    have hne : j ≠ i := fun e => by
      subst e
      have := hv.name hvz; subst this; rcases hk with q | q <;> (rw [k] at q; cases q)
    rw [set_get, if_neg hne] at hj
    exact r7 j u hvz hj hu
theorem augL_of {α : Type} {o : Option V} {f : Int → Option α} {z : α} (h : (match o with | some (.int x) => f x | _ => Option.none) = some z) : ∃ x, o = some (.int x) ∧ f x = some z := by
  cases o with
  | none => cases h
  | some v => cases v with
    | int x => exact ⟨x, rfl, h⟩
    | _ => cases h
theorem x_augL (GO : GOk g G) (C : ∀ k, isInstKd k = true → ClsOk g k) (CO : CallOk g cl d) {i : Nat} {op : Operator} {e : ME} : ExOk g G cl d (.augL i op e) := by
  intro A env sc vs m F ρ σ s st f m' σ' hr R L S hc he Q E hQ
  have hv := visB_spec (b1 hc)
  have hk := loc_local S (b1 (b2 hc))
  obtain ⟨a, ha, he⟩ := augL_of (f := fun x => (ev cl e m σ).bind fun (y, σ₁) => (y.int?).bind fun z => if op = .Add then some (Fl.next, m.set i (.int (x + z)), σ₁) else if op = .Sub then some (Fl.next, m.set i (.int (x - z)), σ₁) else Option.none) he
  obtain ⟨mp, hn, hmm⟩ := L.ns
  obtain ⟨va, q2, q3⟩ := hmm i _ _ hv hk ha (fun q => by cases q)
  obtain ⟨t, rfl⟩ := q3.int_inv
  refine wpAny_AugAssign_Name (wpAny_loadName_local L.kind hk hn q2 ((evOk GO C CO e).use hr R L S (b2 (b2 (b2 hc))) he fun v σ₁ yv F₁ ρ₁ h₁ t₁ R₁ L₁ E₁ V₁ q1 => ?_))
  obtain ⟨z, rfl, q4⟩ := int1_of q1
  obtain ⟨t', rfl⟩ := V₁.int_inv
  have fin := fun (z : Int) (tz : Nat) (q : some (Fl.next, m.set i (.int z), σ₁) = some (f, m', σ')) => Loc.storeL (s := { s with heap := h₁, toks := t₁ + 1 }) (M := model g.prog g.w) (A := A) (E := E) (Q := fun _ => Q .next) R₁ L₁ hk hv (L₁.lt hv) (.int z tz) fun h₂ t₂ R₂ L₂ E₂ => hQ.eq q .next F₁ ρ₁ h₂ t₂ R₂ L₂ (E₁.weaken.trans (E₂.mono fun b hb => .inl hb)) .next
  by_cases o1 : op = .Add
  · subst o1; exact PyProof.Rows.iadd_int (fin _ _ q4)
  · obtain ⟨o2, q5⟩ := if_of ((if_neg o1).symm.trans q4)
    subst o2; exact PyProof.Rows.isub_int (fin _ _ q5)
theorem x_augA (GO : GOk g G) (C : ∀ k, isInstKd k = true → ClsOk g k) (CO : CallOk g cl d) {a : ME} {k : Kd} {j : Nat} {op : Operator} {e : ME} : ExOk g G cl d (.augA a k j op e) := by
  intro A env sc vs m F ρ σ s st f m' σ' hr R L S hc he Q E hQ
  have hj' := fldN_get (of_decide_eq_true (b1 (b2 hc)))
  have hc2 := b2 (b2 hc)
  refine wpAny_AugAssign_AttributeAny ((evOk GO C CO a).use hr R L S (b1 hc2) he fun v σ₁ va F₁ ρ₁ h₁ t₁ R₁ L₁ E₁ V₁ q1 => ?_)
  obtain ⟨i, rfl, q3⟩ := ref_inv (f := fun k i => (σ₁.ins k i).bind fun vs => (match vs[j]? with
        | some (.int p) => (ev cl e m σ₁).bind fun (y, σ₂) => (y.int?).bind fun z => if op = .Add then (σ₂.ins k i).bind fun ws => if j < ws.length then some (Fl.next, m, σ₂.setO k i (.inst (ws.set j (.int (p + z))))) else Option.none else Option.none
        | _ => Option.none)) q1
  obtain ⟨us, e2, q3⟩ := Option.bind_eq_some_iff.mp q3
  obtain ⟨p, hp, q1⟩ := augL_of (f := fun p => (ev cl e m σ₁).bind fun (y, σ₂) => (y.int?).bind fun z => if op = .Add then (σ₂.ins k i).bind fun ws => if j < ws.length then some (Fl.next, m, σ₂.setO k i (.inst (ws.set j (.int (p + z))))) else Option.none else Option.none) q3
  refine attr_ok (s := { s with heap := h₁, toks := t₁ }) C R₁ V₁ (b1 hc) e2 hj' hp _ _ fun old F₂ ρ₂ h₂ t₂ R₂ E₂ V₂ => ?_
  refine (evOk GO C CO e).use (s := { s with heap := h₂, toks := t₂ }) hr R₂ (L₁.move E₂) S (b2 hc2) q1 fun w σ₂ vc F₃ ρ₃ h₃ t₃ R₃ L₃ E₃ V₃ q1 => ?_
  obtain ⟨c, rfl, q2⟩ := int1_of q1
  obtain ⟨rfl, q9⟩ := if_of q2
  obtain ⟨ws, e4, q6⟩ := Option.bind_eq_some_iff.mp q9
  obtain ⟨hj, q6⟩ := if_of q6
  obtain ⟨t, rfl⟩ := V₂.int_inv
  obtain ⟨t', rfl⟩ := V₃.int_inv
  refine PyProof.Rows.iadd_int ?_
  refine setA_ok (s := { s with heap := h₃, toks := t₃ + 1 }) C R₃ ((V₁.mono E₂.ext E₂.pre).mono E₃.ext E₃.pre) (b1 hc) e4 hj' (.int (p + c) t₃) (.inl ⟨hj, rfl⟩) _ _ fun F₄ ρ₄ h₄ t₄ R₄ E₄ => ?_
  exact hQ.eq q6 .next F₄ ρ₄ h₄ t₄ R₄ (L₃.move E₄) (E₁.weaken.trans (E₂.weaken.trans (E₃.weaken.trans E₄.weaken))) .next
end
end Mine
end
section
open PySem PySem.W PyProof.Rows PySem.Calls PySem.SeqAt
namespace Mine
section
variable {g : GG} {G : Glob} {F F' F₀ F₁ F₂ : FM} {ρ ρ' ρ₀ ρ₁ ρ₂ : RM} {σ σ' σ₁ σ₂ : St} {h h' h₀ h₁ h₂ : Heap} {env : Env} {vs : List Str} {m : List V} {X Y : Addr → Prop} {A : Around} {sc : Scope} {s : Shared} {E : Value → Shared → Prop} {cl : CallF} {d : Nat}
theorem asg_plain {t : MT} {x y : PySem.Expr} {pos : Pos} {Q : Flow → Shared → Prop} (hs : swapsWith y (some (buildT vs t x)) pos.line env = pure false)
    (h : wpAny (model g.prog g.w) A (eval y env) (fun v s₁ => wpAny (model g.prog g.w) A (assign (buildT vs t x) env v) (fun _ => Q .next) E s₁) E s) : wpAny (model g.prog g.w) A (exec (.Assign [buildT vs t x] y pos) env) Q E s := by
  refine wpAny_Assign_stores (wpAny_mono h (fun v s₁ h₁ => ?_) fun _ _ e => e) hs ?_
  · rw [assignEach_T]; exact h₁
  · cases t <;> rfl
theorem compOk_of (GO : GOk g G) (C : ∀ k, isInstKd k = true → ClsOk g k) (CO : CallOk g cl d) {e : ME} (h : isCompM e = true) : CompOk g G cl d e := by
  cases e with
  | compR => exact compR_ok GO (evOk GO C CO _) (evOk GO C CO _)
  | compS => exact compS_ok (evOk GO C CO _) (evOk GO C CO _)
  | compSC => exact compSC_ok (evOk GO C CO _) (evOk GO C CO _) (evTOk GO C CO _)
  | compEC => exact compEC_ok GO (evOk GO C CO _) (evOk GO C CO _) (evTOk GO C CO _)
  | _ => exact absurd h Bool.false_ne_true
theorem comp_loc {i : Nat} {z : Str} {pz : Pos} {v : V} {Q : Flow → Shared → Prop} (L : Loc g F ρ σ s.heap env vs m) (hk : env.kindOf z = some .local) (hv : Vis vs i z) (hi : i < m.length) (hQ : PostS g F ρ σ s env vs .next (m.set i v) σ' Q) :
    CompH g A E (some (assign (.Name z pz) env)) (fun _ s' => Q .next s') F ρ σ s v σ' := by
  intro acc C' mC F' ρ' h' tk R' E' V' hn a1 a2 a3
  show wpAny _ _ (assign (.Name z pz) env acc) _ _ _
  have hX : ∀ b, b = C' → s.heap.get? b = Option.none := fun b hb => hb ▸ a3
  have hXl := L.apart hX
  refine wpAny_assign_Name (Loc.storeL (s := { s with heap := h', toks := tk }) R' (L.move E') hk hv hi V' fun h₂ t₂ R₂ L₂ E₂ => ?_)
  obtain ⟨oC, es, ep, hoC, rC⟩ := hn
  refine ⟨mC, ⟨oC, es, ep, E₂.keep _ _ hoC a1 (hXl _ rfl).1, rC⟩, fun h'' hs => ?_⟩
  have hk3 : ∀ b o, ¬ (b = C') → h₂.get? b = some o → h''.get? b = some o := fun b o hb q => (hs.2 b hb).trans q
  exact hQ .next F' ρ' h'' t₂ (R₂.writeP (X := fun b => b = C') (fun b hb => hb ▸ ⟨a1, a2⟩) hk3) (L₂.writeP hXl hk3) (Ev.writeX (X := fun b => b = C') ((E'.weaken.trans E₂).mono fun b hb => .inl hb) hX hk3) .next
theorem or_of {a b : Bool} (h : (a || b) = true) : a = true ∨ b = true := Bool.or_eq_true_iff.mp h
theorem locT_of {t : MT} {f : Nat → Bool} (h : (match t with | .loc i => f i | _ => false) = true) : ∃ i, t = .loc i ∧ f i = true := by
  cases t with
  | loc i => exact ⟨i, rfl, h⟩
  | _ => exact absurd h Bool.false_ne_true
theorem x_asg (GO : GOk g G) (C : ∀ k, isInstKd k = true → ClsOk g k) (CO : CallOk g cl d) {t : MT} {e : ME} : ExOk g G cl d (.asg t e) := by
  intro A env sc vs m F ρ σ s st f m' σ' hr R L S hc he Q E hQ
  have hc2 := b2 hc
  have h3 := b1 (b2 hc2)
  have plain : swapsWith (build e vs (exS 0 st)) (some (buildT vs t (exS 1 st))) (posS st).line env = pure false → wpAny (model g.prog g.w) A (exec (.Assign [buildT vs t (exS 1 st)] (build e vs (exS 0 st)) (posS st)) env) Q E s := fun hs => by
    refine asg_plain hs ((evOk GO C CO e).use hr R L S h3 he fun v σ₁ yv F₁ ρ₁ h₁ t₁ R₁ L₁ E₁ V₁ q1 => ?_)
    obtain ⟨m₂, σ₂, e2, q2⟩ := bind_of q1
    exact setOk GO C CO t A env sc vs m F₁ ρ₁ σ₁ { s with heap := h₁, toks := t₁ } _ yv v m₂ σ₂ _ _ hr R₁ L₁ S (b1 hc2) e2 V₁ fun F₂ ρ₂ h₂ t₂ R₂ L₂ E₂ => hQ.eq q2 .next F₂ ρ₂ h₂ t₂ R₂ L₂ (E₁.weaken.trans E₂) .next
  rcases or_of (b2 (b2 hc2)) with h4 | h4
  · exact plain (swaps_nc h4 _ _ _)
  obtain ⟨i, rfl, h5⟩ := locT_of (f := fun i => locOnly sc (vs.getD i "")) (b2 h4)
  have hk := loc_local S h5
  obtain ⟨v, σ₁, e1, q1⟩ := bind_of he
  obtain ⟨m₂, σ₂, e2, q2⟩ := bind_of q1
  obtain ⟨hi, e3⟩ := if_of e2
  cases e3
  obtain ⟨el, gens, inner, ppos, hb, hh⟩ := compOk_of GO C CO (b1 h4) A env sc vs m F ρ σ s _ v σ₁ _ _ E hr R L S h3 e1 (comp_loc (A := A) (E := E) (pz := posE (exS 1 st)) L hk (visB_spec (b1 (b1 hc2))) hi (hQ.eq q2))
  show wpAny _ _ (exec (.Assign [.Name (vs.getD i "") (posE (exS 1 st))] (build e vs (exS 0 st)) (posS st)) env) _ _ _
  have plain : swapsWith (build e vs (exS 0 st)) (some (.Name (vs.getD i "") (posE (exS 1 st)))) (posS st).line env = pure false → wpAny (model g.prog g.w) A (exec (.Assign [.Name (vs.getD i "") (posE (exS 1 st))] (build e vs (exS 0 st)) (posS st)) env) Q E s := plain
  rw [hb] at plain ⊢
  obtain ⟨b, hb⟩ : ∃ b, swapsWith (.ListComp el gens inner ppos) (some (.Name (vs.getD i "") (posE (exS 1 st)))) (posS st).line env = pure b := ⟨_, rfl⟩
  cases b with
  | false => exact plain hb
  | true =>
    rw [exec_Assign_Name_used _ _ _ _ hb]
    refine wpAny_bind (wpAny_standAt (wpAny_bind ?_))
    show wpAny _ _ (comprehension (.ListComp el gens inner ppos) inner env (firstIterPos gens ppos) (newList []) (firstAsync gens) (firstIter gens env) (some (assign (.Name (vs.getD i "") (posE (exS 1 st))) env)) >>= fun _ => pure ()) _ _ _
    exact wpAny_bind (wpAny_mono hh (fun _ s' q => wpAny_pure (wpAny_pure q)) fun _ _ e => e)
inductive NamesOf (env : Env) : List Str → List PySem.Expr → Prop
  | nil : NamesOf env [] []
  | cons {z : Str} {p : Pos} {ns : List Str} {xs : List PySem.Expr} : env.kindOf z = some .local → NamesOf env ns xs → NamesOf env (z :: ns) (.Name z p :: xs)
theorem namesOf_filter {f : PySem.Expr → Option Str} (hf : ∀ x b, f x = some b → (∃ p, x = .Name b p) ∧ env.kindOf b = some .local) : ∀ l : List PySem.Expr, (l.filterMap f).length = l.length → NamesOf env (l.filterMap f) l
  | [], _ => .nil
  | y :: r, h => by
    cases hy : f y with
    | none =>
      rw [List.filterMap_cons_none hy] at h
      exact absurd (List.length_filterMap_le f r) (by rw [h]; exact Nat.not_succ_le_self _)
    | some b =>
      rw [List.filterMap_cons_some hy] at h ⊢
      obtain ⟨⟨p, rfl⟩, hk⟩ := hf y b hy
      exact .cons hk (namesOf_filter hf r (Nat.succ.inj h))
noncomputable def SwapOk (env : Env) (xs : List PySem.Expr) (o : Option (List Str)) : Prop := o = Option.none ∨ ∃ names, o = some names ∧ NamesOf env names xs
theorem ite_ret {α : Type} {c₁ c₂ c₃ c₄ : Prop} [Decidable c₁] [Decidable c₂] [Decidable c₃] [Decidable c₄] {m : Sem α} {z : α} {P : α → Prop} (hz : P z) (h : ¬c₃ → ∃ o, m = pure o ∧ P o) : ∃ o, (if c₁ then pure z else if c₂ then pure z else if c₃ then pure z else if c₄ then pure z else m) = pure o ∧ P o := by
  by_cases e : c₁
  · exact ⟨z, if_pos e, hz⟩
  rw [if_neg e]
  by_cases e : c₂
  · exact ⟨z, if_pos e, hz⟩
  rw [if_neg e]
  by_cases e : c₃
  · exact ⟨z, if_pos e, hz⟩
  rw [if_neg e]
  have h := h e
  by_cases e : c₄
  · exact ⟨z, if_pos e, hz⟩
  rw [if_neg e]
  exact h
noncomputable def SwapP (env : Env) (xs : List PySem.Expr) (k : Nat) (p : Pos) (y : PySem.Expr) : Prop := ∃ o, swappedStores [.Tuple xs k p] y env = pure o ∧ SwapOk env xs o
theorem SwapP.none {xs : List PySem.Expr} {k : Nat} {p : Pos} {y : PySem.Expr} (h : swappedStores [.Tuple xs k p] y env = pure Option.none) : SwapP env xs k p y := ⟨_, h, .inl rfl⟩
theorem swapped_tup {xs ws : List PySem.Expr} {k k' : Nat} {p p' : Pos} (hy : (ws.all (constantsAlone 8)) = false) : SwapP env xs k p (.Tuple ws k' p') := by
  refine ite_ret (.inl rfl) fun c3 => ⟨_, if_neg (ne_true_of_eq_false hy), .inr ⟨_, rfl, namesOf_filter (fun x b hb => ?_) xs (Classical.byContradiction fun h => c3 ((Bool.or_eq_true _ _).mpr (.inl (bne_iff_ne.mpr h))))⟩⟩
  cases x with
  | Name id pos =>
    obtain ⟨hk, e⟩ := if_of hb
    rw [← Option.some.inj e]
    exact ⟨⟨pos, rfl⟩, eq_of_beq (b1 hk)⟩
  | _ => exact ns hb
theorem swapped_of {xs : List PySem.Expr} {k : Nat} {p : Pos} {y : PySem.Expr} (hy : notConsts y = true) : SwapP env xs k p y := by
  cases y with
  | Tuple ws k' p' => exact swapped_tup ((Bool.not_eq_true' _).mp hy)
  | _ => exact .none rfl
end
end Mine
end
section
open PySem PySem.W PyProof.Rows PySem.Calls PySem.SeqAt
namespace Mine
section
variable {g : GG} {G : Glob} {F F' F₀ F₁ F₂ : FM} {ρ ρ' ρ₀ ρ₁ ρ₂ : RM} {σ σ' σ₁ σ₂ : St} {h h' h₀ h₁ h₂ : Heap} {env : Env} {vs : List Str} {m : List V} {X Y : Addr → Prop} {A : Around} {sc : Scope} {s : Shared} {E : Value → Shared → Prop} {cl : CallF} {d : Nat}
theorem setAll_len : ∀ {ts : List MT} {us : List V} {m : List V} {σ : St} {r : List V × St}, setAll cl ts us m σ = some r → ts.length = us.length
  | [], [], _, _, _, _ => rfl
  | [], _ :: _, _, _, _, h => ns h
  | _ :: _, [], _, _, _, h => ns h
  | t :: ts, u :: us, m, σ, r, h => by
    obtain ⟨p, e1, e2⟩ := Option.bind_eq_some_iff.mp h
    exact congrArg (· + 1) (setAll_len e2)
theorem assignEach_shape : ∀ {ts : List MT} {xs : List PySem.Expr}, (assignEach (buildTs vs ts xs) env).length = ts.length ∧ (assignEach (buildTs vs ts xs) env).findIdx? (·.1) = Option.none
  | [], _ => ⟨rfl, rfl⟩
  | t :: ts, xs => by
    have h := assignEach_shape (ts := ts) (xs := xs.tail)
    show (assignEach (buildT vs t (xs.headD noE) :: buildTs vs ts xs.tail) env).length = _ ∧ (assignEach (buildT vs t (xs.headD noE) :: buildTs vs ts xs.tail) env).findIdx? _ = _
    rw [assignEach_T]
    refine ⟨congrArg (· + 1) h.1, ?_⟩
    rw [List.findIdx?_cons]
    exact congrArg (Option.map (· + 1)) h.2
noncomputable def setL : List Nat → List V → List V → List V
  | i :: is, u :: us, m => setL is us (m.set i u)
  | _, _, m => m
theorem setL_set : ∀ (is : List Nat) (us : List V) (m : List V) (i : Nat) (u : V), i ∉ is → (setL is us m).set i u = setL is us (m.set i u)
  | [], _, _, _, _, _ => rfl
  | _ :: _, [], _, _, _, _ => rfl
  | j :: is, v :: us, m, i, u, h => by
    show (setL is us (m.set j v)).set i u = setL is us ((m.set i u).set j v)
    rw [setL_set is us _ i u fun q => h (.tail _ q), List.set_comm _ _ (by rintro rfl; exact h (.head _))]
theorem setL_end : ∀ (is : List Nat) (us : List V) (m : List V) (i : Nat) (u : V), is.length = us.length → setL (is ++ [i]) (us ++ [u]) m = (setL is us m).set i u
  | [], [], _, _, _, _ => rfl
  | j :: is, v :: us, m, i, u, h => setL_end is us (m.set j v) i u (Nat.succ.inj h)
theorem setL_rev : ∀ (is : List Nat) (us : List V) (m : List V), is.length = us.length → is.Nodup → setL is.reverse us.reverse m = setL is us m
  | [], [], _, _, _ => rfl
  | i :: is, u :: us, m, h, hd => by
    rw [List.nodup_cons] at hd
    rw [List.reverse_cons, List.reverse_cons, setL_end _ _ _ _ _ (by rw [List.length_reverse, List.length_reverse]; exact Nat.succ.inj h), setL_rev is us m (Nat.succ.inj h) hd.2, setL_set _ _ _ _ _ hd.1]
    rfl
theorem setAll_setL : ∀ {is : List Nat} {us m : List V} {σ : St} {r : List V × St}, setAll cl (is.map .loc) us m σ = some r → some (setL is us m, σ) = some r
  | [], [], _, _, _, h => h
  | [], _ :: _, _, _, _, h => ns h
  | _ :: _, [], _, _, _, h => ns h
  | i :: is, u :: us, m, σ, r, h => by
    obtain ⟨m₁, σ₁, e1, e2⟩ := bind_of h
    obtain ⟨_, e3⟩ := if_of e1
    cases e3
    exact setAll_setL (is := is) (us := us) e2
theorem VsR.reverse {us : List V} : ∀ {xs : List Value}, VsR g F ρ xs us → VsR g F ρ xs.reverse us.reverse := by
  induction us with
  | nil => exact fun h => h.nil_inv ▸ .nil
  | cons u us ih =>
    intro xs h
    obtain ⟨y, t, rfl, a, b⟩ := h.cons_inv
    rw [List.reverse_cons, List.reverse_cons]; exact (ih b).append (.single a)
noncomputable def SlotsOk (env : Env) (vs : List Str) (l : List (Str × Nat)) : Prop := ∀ p ∈ l, Vis vs p.2 p.1 ∧ env.kindOf p.1 = some .local
theorem NamesOf.cons_inv {names : List Str} {x : PySem.Expr} {xs : List PySem.Expr} (h : NamesOf env names (x :: xs)) : ∃ z p ns, names = z :: ns ∧ x = .Name z p ∧ env.kindOf z = some .local ∧ NamesOf env ns xs := by
  cases h with
  | cons a b => exact ⟨_, _, _, rfl, rfl, a, b⟩
theorem NamesOf.nil_inv {names : List Str} (h : NamesOf env names []) : names = [] := by cases h; rfl
theorem slots_of {ts : List MT} : ∀ {xs : List PySem.Expr} {names : List Str}, okTs G sc vs ts xs = true → NamesOf env names (buildTs vs ts xs) →
    ∃ l : List (Str × Nat), names = l.map (·.1) ∧ ts = (l.map (·.2)).map .loc ∧ SlotsOk env vs l ∧ (buildTs vs ts xs).filterMap nameOf = names := by
  induction ts with
  | nil => exact fun _ hn => ⟨[], hn.nil_inv, rfl, (fun p h => absurd h List.not_mem_nil), hn.nil_inv.symm⟩
  | cons t ts ih =>
    intro xs names hc hn
    obtain ⟨z, p, ns, rfl, e, hk, hn⟩ := NamesOf.cons_inv hn
    obtain ⟨l, rfl, rfl, h3, h4⟩ := ih (b2 hc) hn
    cases t with
    | loc i =>
      cases e
      exact ⟨(_, i) :: l, rfl, rfl, fun p hp => (List.mem_cons.mp hp).elim (fun q => q ▸ ⟨visB_spec (b1 (b1 hc)), hk⟩) (h3 p), congrArg (_ :: ·) h4⟩
    | _ => cases e
theorem bind_slots {l : List (Str × Nat)} : ∀ {ys : List Value} {us m : List V} {s : Shared} {Q : Unit → Shared → Prop}, l.length = us.length → SlotsOk env vs l → Rel g F ρ σ s.heap → Loc g F ρ σ s.heap env vs m → VsR g F ρ ys us →
    PostU g F ρ σ s env vs (setL (l.map (·.2)) us m) σ Q → wpAny (model g.prog g.w) A (assignInOrder (l.map fun p => bindName env p.1) ys) Q E s := by
  induction l with
  | nil =>
    intro ys us m s Q hl _ R L hy hQ
    cases us with
    | nil => rw [hy.nil_inv]; exact wpAny_assignInOrder_none (hQ F ρ s.heap s.toks R L (.refl _ _ _ _ _))
    | cons _ _ => exact nomatch hl
  | cons p l ih =>
    intro ys us m s Q hl hs R L hy hQ
    cases us with
    | nil => exact nomatch hl
    | cons u us =>
      obtain ⟨y, t, rfl, hy, hys⟩ := hy.cons_inv
      have q := hs p (.head _)
      refine wpAny_assignInOrder_more (wpAny_bindName (Loc.storeL R L q.2 q.1 (L.lt q.1) hy fun h₁ t₁ R₁ L₁ E₁ => ?_))
      exact ih (s := { s with heap := h₁, toks := t₁ }) (Nat.succ.inj hl) (fun x hx => hs x (.tail _ hx)) R₁ L₁ hys fun F₂ ρ₂ h₂ t₂ R₂ L₂ E₂ => hQ F₂ ρ₂ h₂ t₂ R₂ L₂ ((E₁.mono fun b hb => .inl hb).trans E₂)
theorem slots_nodup {l : List (Str × Nat)} (hs : SlotsOk env vs l) (h : (l.map (·.1)).Nodup) : (l.map (·.2)).Nodup := by
  induction l with
  | nil => exact .nil
  | cons p l ih =>
    rw [List.map_cons, List.nodup_cons] at h ⊢
    refine ⟨fun q => h.1 ?_, ih (fun x hx => hs x (.tail _ hx)) h.2⟩
    obtain ⟨x, hx, e⟩ := List.mem_map.mp q
    have := (hs x (.tail _ hx)).1
    rw [e] at this
    exact List.mem_map.mpr ⟨x, hx, this.name (hs p (.head _)).1⟩
theorem tup_of {α : Type} {x : V} {f : List V → Option α} {z : α} (h : (match x with | .tup i => f i | _ => Option.none) = some z) : ∃ i, x = .tup i ∧ f i = some z := by
  cases x with
  | tup i => exact ⟨i, rfl, h⟩
  | _ => exact ns h
theorem x_asgT (GO : GOk g G) (C : ∀ k, isInstKd k = true → ClsOk g k) (CO : CallOk g cl d) {ts : List MT} {e : ME} : ExOk g G cl d (.asgT ts e) := by
  intro A env sc vs m F ρ σ s st f m' σ' hr R L S hc he Q E hQ
  have h3 := of_decide_eq_true (b1 (b2 (b2 hc)))
  have hc4 := b2 (b2 (b2 (b2 hc)))
  obtain ⟨o, hsw, hso⟩ := swapped_of (env := env) (xs := buildTs vs ts (kidsE (exS 1 st))) (k := kindE (exS 1 st)) (p := posE (exS 1 st)) (b1 (b2 hc))
  have hsl : swapsWithSole [.Tuple (buildTs vs ts (kidsE (exS 1 st))) (kindE (exS 1 st)) (posE (exS 1 st))] (build e vs (exS 0 st)) (posS st).line env = pure false := swaps_nc (b1 hc) (some (.Tuple (buildTs vs ts (kidsE (exS 1 st))) (kindE (exS 1 st)) (posE (exS 1 st)))) (posS st).line env
  have sh := assignEach_shape (vs := vs) (ts := ts) (xs := kidsE (exS 1 st)) (env := env)
  rcases hso with rfl | ⟨names, rfl, hn⟩
  · refine Assign_Tuple ((evOk GO C CO e).use hr R L S (b2 hc4) he fun v σ₁ yv F₁ ρ₁ h₁ t₁ R₁ L₁ E₁ V₁ q1 => ?_) hsl hsw
    obtain ⟨us, rfl, q2⟩ := tup_of (f := fun vs => (setAll cl ts vs m σ₁).bind fun (m₂, σ₂) => some (Fl.next, m₂, σ₂)) q1
    obtain ⟨m₂, σ₂, e2, q2⟩ := bind_of q2
    obtain ⟨a, ys, n, rfl, r1, r2, r3⟩ := V₁.tup_inv
    refine assign_Tuple_tuple (s := { s with heap := h₁, toks := t₁ }) (items := ys.toArray) hr.handled ⟨_, R₁.frz _ _ r1, rfl, _, rfl⟩ (sh.1.trans ((setAll_len e2).trans r2.length.symm)) sh.2 fun h₂ hs₂ => ?_
    obtain ⟨R₂, E₂⟩ := R₁.grow (h' := h₂) (fun b o q => hs₂ b o (none_size_ne q) q)
    exact setAll_ok (setOk GO C CO) hr S (s := { s with heap := h₂, toks := t₁ }) R₂ (L₁.move E₂) (b1 hc4) e2 (r2.mono E₂.ext E₂.pre) fun F₃ ρ₃ h₃ t₃ R₃ L₃ E₃ => hQ.eq q2 .next F₃ ρ₃ h₃ t₃ R₃ L₃ (E₁.weaken.trans (E₂.weaken.trans E₃)) .next
  · refine Assign_Tuple_swapped (names := names) ((evOk GO C CO e).use hr R L S (b2 hc4) he fun v σ₁ yv F₁ ρ₁ h₁ t₁ R₁ L₁ E₁ V₁ q1 => ?_) hsl hsw
    obtain ⟨us, rfl, q2⟩ := tup_of (f := fun vs => (setAll cl ts vs m σ₁).bind fun (m₂, σ₂) => some (Fl.next, m₂, σ₂)) q1
    obtain ⟨m₂, σ₂, e2, q2⟩ := bind_of q2
    obtain ⟨a, ys, n, rfl, r1, r2, r3⟩ := V₁.tup_inv
    obtain ⟨l, rfl, rfl, hs, hf⟩ := slots_of (b1 hc4) hn
    rw [hf] at h3
    have hlen : l.length = us.length := by have := setAll_len e2; rwa [List.length_map, List.length_map] at this
    rw [show (l.map (·.1)).length = ys.toArray.size by rw [List.length_map, hlen]; exact r2.length.symm]
    refine unpackItems_tuple (s := { s with heap := h₁, toks := t₁ }) (items := ys.toArray) hr.handled ⟨_, R₁.frz _ _ r1, rfl, _, rfl⟩ fun h₂ hs₂ => ?_
    obtain ⟨R₂, E₂⟩ := R₁.grow (h' := h₂) (fun b o q => hs₂ b o (none_size_ne q) q)
    rw [← List.map_reverse, List.map_map]
    refine bind_slots (s := { s with heap := h₂, toks := t₁ }) (us := us.reverse) (m := m) (by rw [List.length_reverse, List.length_reverse]; exact hlen) (fun p hp => hs p (List.mem_reverse.mp hp)) R₂ (L₁.move E₂) (r2.mono E₂.ext E₂.pre).reverse fun F₃ ρ₃ h₃ t₃ R₃ L₃ E₃ => ?_
    rw [List.map_reverse, setL_rev _ _ _ (by rw [List.length_map]; exact hlen) (slots_nodup hs h3)] at L₃
    cases setAll_setL e2
    exact hQ.eq q2 .next F₃ ρ₃ h₃ t₃ R₃ L₃ (E₁.weaken.trans (E₂.weaken.trans E₃)) .next
theorem exsOk_of : ∀ {b : List MS}, (∀ x ∈ b, ExOk g G cl d x) → ExsOk g G cl d b
  | [], _ => exs_nil
  | x :: r, h => exs_cons (h x List.mem_cons_self) (exsOk_of fun y hy => h y (List.mem_cons_of_mem _ hy))
theorem exOk (GO : GOk g G) (C : ∀ k, isInstKd k = true → ClsOk g k) (CO : CallOk g cl d) (ms : MS) : ExOk g G cl d ms := by
  refine MS.rec (motive_1 := fun ms => ExOk g G cl d ms) (motive_2 := fun b => ∀ x ∈ b, ExOk g G cl d x) ?expr ?asg ?asgT ?augL ?augA ?ite ?whil ?forR ?forR1 ?forS ?forS2 ?ret ?cont ?nil ?cons ms
  case expr => exact fun e => x_expr GO C CO
  case asg => exact fun t e => x_asg GO C CO
  case asgT => exact fun ts e => x_asgT GO C CO
  case augL => exact fun i op e => x_augL GO C CO
  case augA => exact fun a k j op e => x_augA GO C CO
  case ite => exact fun t a b ha hb => x_ite GO C CO (exsOk_of ha) (exsOk_of hb)
  case whil => exact fun t b hb => x_while GO C CO (exsOk_of hb)
  case forR => exact fun i lo hi b hb => x_forR GO C CO (exsOk_of hb)
  case forR1 => exact fun i hi b hb => x_forR1 GO C CO (exsOk_of hb)
  case forS => exact fun i src b hb => x_forS GO C CO (exsOk_of hb)
  case forS2 => exact fun i j src b hb => x_forS2 GO C CO (exsOk_of hb)
  case ret => exact fun e => x_ret GO C CO
  case cont => exact x_cont
  case nil => exact fun e he => nomatch he
  case cons => exact fun e r he hr x hx => (List.mem_cons.mp hx).elim (fun q => q ▸ he) (hr x)
theorem exsOk (GO : GOk g G) (C : ∀ k, isInstKd k = true → ClsOk g k) (CO : CallOk g cl d) (b : List MS) : ExsOk g G cl d b := exsOk_of fun x _ => exOk GO C CO x
end
end Mine
end
section
open PySem PySem.W PyProof.Rows PySem.Calls PySem.SeqAt
namespace Mine
structure FnAt (g : GG) (G : Glob) (n : Nat) (mf : MF) (o : Obj) (fd : FuncData) (st : List PySem.Stmt) : Prop where
  here : g.K.lookup (g.fa n) = some o
  data : o.data = .func fd
  code : codeIn g.K fd.code fd.qualname = true
  coro : fd.scope.isCoroutine = false
  gen : fd.scope.isGenerator = false
  kind : fd.scope.kind = .function
  body : fd.body = .stmts (buildSs mf.vars mf.body st)
  clo : fd.closure = []
  glo : fd.globals = mainGlobals
  bui : fd.builtins = builtinsNs
  chk : okSs G fd.scope mf.vars mf.body st = true
  free : (fd.scope.names.all fun nk => nk.2 != .free) = true
  par : ((mf.vars.take mf.np).all fun x => fd.scope.names.lookup x == some .local || fd.scope.names.lookup x == some .cell) = true
  bind : ∀ vals : List Value, vals.length = mf.np → bindArgs fd ⟨vals, []⟩ = pure ((mf.vars.take mf.np).zip vals)
  keep : keepIn g.K (.ref (g.fa n)) = true
  np : mf.np ≤ mf.vars.length
  nodup : (mf.vars.take mf.np).Nodup
structure TabOk (g : GG) (G : Glob) : Prop where
  fn : ∀ n mf, g.tab.fns n = some mf → ∃ o fd st, FnAt g G n mf o fd st
  ini : ∀ k n, g.tab.init k = some n → isInstKd k = true
theorem bindL_at (kindOf : Str → Option NameKind) : ∀ (bs : List (Str × Value)) (m : Str → Option Value) (x : Str), x ∉ bs.map (·.1) → bindL kindOf bs m x = m x
  | [], _, _, _ => rfl
  | (n, u) :: r, m, x, hm => by
    rw [List.map_cons, List.mem_cons, not_or] at hm
    unfold bindL
    rw [bindL_at kindOf r _ x hm.2]
    split
    · exact if_neg hm.1
    · rfl
theorem bindC_at (kindOf : Str → Option NameKind) : ∀ (bs : List (Str × Value)) (m : Str → Option Value) (x : Str), x ∉ bs.map (·.1) → bindC kindOf bs m x = m x
  | [], _, _, _ => rfl
  | (n, u) :: r, m, x, hm => by
    rw [List.map_cons, List.mem_cons, not_or] at hm
    unfold bindC
    rw [bindC_at kindOf r _ x hm.2]
    split
    · rfl
    · exact if_neg hm.1
theorem bind_at (kindOf : Str → Option NameKind) : ∀ (bs : List (Str × Value)) (m : Str → Option Value) (i : Nat) (x : Str) (v : Value), (bs.map (·.1)).Nodup → bs[i]? = some (x, v) → (kindOf x = some .local → bindL kindOf bs m x = some v) ∧ (kindOf x ≠ some .local → bindC kindOf bs m x = some v)
  | [], m, i, x, v, _, h => nomatch h
  | (n, u) :: r, m, 0, x, v, hn, h => by
    rw [List.map_cons, List.nodup_cons] at hn
    cases h
    unfold bindL bindC
    exact ⟨fun hk => by rw [if_pos hk, bindL_at _ r _ _ hn.1]; exact if_pos rfl, fun hk => by rw [if_neg hk, bindC_at _ r _ _ hn.1]; exact if_pos rfl⟩
  | (n, u) :: r, m, i + 1, x, v, hn, h => by
    rw [List.map_cons, List.nodup_cons] at hn
    unfold bindL bindC
    exact ⟨(bind_at kindOf r _ i x v hn.2 h).1, (bind_at kindOf r _ i x v hn.2 h).2⟩
section
variable {g : GG} {G : Glob} {F F' F₀ F₁ F₂ : FM} {ρ ρ' ρ₀ ρ₁ ρ₂ : RM} {σ σ' σ₁ σ₂ : St} {h h' h₀ h₁ h₂ : Heap} {env : Env} {vs : List Str} {m : List V} {X Y : Addr → Prop} {A : Around} {sc : Scope} {s : Shared} {E : Value → Shared → Prop} {cl : CallF} {d : Nat}
theorem Room.deeper {A : Around} {d : Nat} (r : Room A (d + 1)) (env : Env) : Room (A.deeper env) d := by
  refine ⟨r.handled, ?_, ?_⟩
  · have := r.depth; show A.depth + 1 + 3 * d + 10 ≤ recursionLimit; lia
  · have := r.units; show A.units + 3 + 30 * d + 100 ≤ cLine; lia
theorem Room.room {A : Around} {d : Nat} (r : Room A d) : A.depth < recursionLimit := by have := r.depth; lia
noncomputable def PostC (g : GG) (F : FM) (ρ : RM) (σ : St) (s : Shared) (v : V) (σ' : St) (R' : Result → Shared → Prop) : Prop :=
  ∀ y F' ρ' h' tk, Rel g F' ρ' σ' h' → Ev NoX F ρ σ s.heap F' ρ' σ' h' → VR g F' ρ' y v → R' (.ok (.ret y)) { s with heap := h', toks := tk }
set_option backward.match.sparseCases true in
theorem FlR.val {fl : Flow} {f : Fl} {v : V} (h : f = .ret v ∨ (f = .next ∧ v = .none)) : FlR g F ρ fl f → VR g F ρ (match fl with | .ret v => v | _ => Value.none) v := by
  intro W
  rcases h with rfl | ⟨rfl, rfl⟩
  · cases W with
    | ret h => exact h
  · cases W; exact .none
theorem slot_at {ns vs : List Str} {xs : List Value} {us : List V} {k i : Nat} {x : Str} {u : V} (hx : VsR g F ρ xs us) (hl : us.length = k) (hv : vs[i]? = some x) (hi : (us ++ List.replicate (vs.length - k) V.undef)[i]? = some u) (hu : u ≠ .undef) : ∃ y, ((vs.take k).zip xs)[i]? = some (x, y) ∧ VR g F ρ y u := by
  rcases Nat.lt_or_ge i us.length with q | q
  · rw [List.getElem?_append_left q] at hi
    obtain ⟨y, hy, hyr⟩ := hx.get hi
    exact ⟨y, List.getElem?_zip_eq_some.mpr ⟨by rw [List.getElem?_take, if_pos (hl ▸ q)]; exact hv, hy⟩, hyr⟩
  · rw [List.getElem?_append_right q, List.getElem?_replicate] at hi
    obtain ⟨_, e⟩ := if_of hi
    cases e; exact absurd rfl hu
theorem call_loc {mf : MF} {fd : FuncData} {st : List PySem.Stmt} {o : Obj} {n : Nat} (FO : FnAt g G n mf o fd st) {s₁ : Shared} {xs : List Value} {us : List V} (R : Rel g F ρ σ s.heap) (hx : VsR g F ρ xs us) (hl : us.length = mf.np)
    (ic : InCallC s (callEnvC fd s.heap.objs.size (g.fa n)).locals (bindL (callEnvC fd s.heap.objs.size (g.fa n)).kindOf ((mf.vars.take mf.np).zip xs) fun _ => Option.none) (callEnvC fd s.heap.objs.size (g.fa n)).cells
        (bindC (callEnvC fd s.heap.objs.size (g.fa n)).kindOf ((mf.vars.take mf.np).zip xs) fun _ => Option.none) s₁) (hbn : (((mf.vars.take mf.np).zip xs).map (·.1)).Nodup) :
    Loc g F ρ σ s₁.heap (callEnvC fd s.heap.objs.size (g.fa n)) mf.vars (us ++ List.replicate (mf.vars.length - mf.np) .undef) := by
  have fresh : ∀ b, s.heap.objs.size ≤ b → ¬ Own ρ σ b ∧ F b = Option.none := fun b hb => ⟨R.not_own (size_none _ hb), R.not_frz (size_none _ hb)⟩
  have above := fun x c (q : (callEnvC fd s.heap.objs.size (g.fa n)).cells.lookup x = some c) => ic.above x c (mem_of_lookup q)
  generalize hEnv : callEnvC fd s.heap.objs.size (g.fa n) = en at ic above ⊢
  have hloc : en.locals = s.heap.objs.size := by rw [← hEnv]; rfl
  have hko : ∀ x, en.kindOf x = fd.scope.names.lookup x := fun x => by rw [← hEnv]; rfl
  have hcells : en.cells = cellsFrom (s.heap.objs.size + 1) fd.scope.names [] := by rw [← hEnv]; rfl
  refine ⟨by rw [← hEnv]; exact FO.kind, by rw [← hEnv]; exact FO.glo, by rw [← hEnv]; exact FO.bui, by rw [List.length_append, List.length_replicate, hl]; exact Nat.add_sub_cancel' FO.np, ⟨_, ic.toInCall.ns, fun i x u hv hkx hi hu => ?_⟩, fun x hxm hkx => ?_,
    fun x y c q1 q2 => name_of_addr ic.apart (mem_of_lookup q1) (mem_of_lookup q2), by rw [hloc]; exact fresh _ (Nat.le_refl _), fun x c q => let ⟨o, ho, _⟩ := ic.cell x c q; ⟨o, ho⟩⟩
  · obtain ⟨y, hy, hyr⟩ := slot_at (ns := []) hx hl hv.1 hi hu
    exact ⟨y, (bind_at _ _ _ i x y hbn hy).1 hkx, hyr⟩
  · rw [hko] at hkx
    rcases hkx with hkx | hkx
    · obtain ⟨c, hc⟩ := cellsFrom_has (n := s.heap.objs.size + 1) (acc := []) (.inl (mem_of_lookup hkx))
      rw [← hcells] at hc
      have ha := above x c hc
      rw [hloc] at ha
      refine ⟨c, _, hc, ic.cell x c hc, (fresh c (Nat.le_of_lt ha)).1, (fresh c (Nat.le_of_lt ha)).2, by rw [hloc]; exact Nat.ne_of_gt ha, fun i u hv hi hu => ?_⟩
      obtain ⟨y, hy, hyr⟩ := slot_at (ns := []) hx hl hv.1 hi hu
      exact ⟨y, (bind_at _ _ _ i x y hbn hy).2 (by rw [hko, hkx]; decide), hyr⟩
    · exact absurd (List.all_eq_true.mp FO.free _ (mem_of_lookup hkx)) (show ¬ ((NameKind.free != NameKind.free) = true) by decide)
theorem call_fn {n : Nat} {mf : MF} {fd : FuncData} {st : List PySem.Stmt} {o : Obj} (FO : FnAt g G n mf o fd st) (EX : ExsOk g G cl d mf.body) {xs : List Value} {us : List V} {v : V} {R' : Result → Shared → Prop} (hr : Room A (d + 1)) (R : Rel g F ρ σ s.heap) (hx : VsR g F ρ xs us) (hl : us.length = mf.np)
    (he : fin (exs cl mf.body (us ++ List.replicate (mf.vars.length - mf.np) .undef) σ) = some (v, σ')) (hQ : PostC g F ρ σ s v σ' R') :
    codeAny (model g.prog g.w) A (.call (.ref (g.fa n)) ⟨xs, []⟩) R' s := by
  have hxl : xs.length = mf.np := hx.length.trans hl
  have hbmap : (((mf.vars.take mf.np).zip xs).map (·.1)) = mf.vars.take mf.np := by
    rw [List.map_fst_zip]; rw [List.length_take, hxl]; exact Nat.min_le_left _ _
  refine codeAny_call_cells (fd := fd) (body := buildSs mf.vars mf.body st) (binds := (mf.vars.take mf.np).zip xs) hr.room (R.K _ _ FO.here) FO.data R.nolimit (codeRec_of R.K FO.code) FO.body (FO.bind xs hxl) FO.clo (fun x hx => ?_) (fun s₁ ic => ?_) FO.coro FO.gen FO.kind
  · have hm : x.1 ∈ mf.vars.take mf.np := by rw [← hbmap]; exact List.mem_map_of_mem hx
    rcases Bool.or_eq_true_iff.mp (List.all_eq_true.mp FO.par _ hm) with q | q
    · exact .inl (eq_of_beq q)
    · refine .inr ⟨eq_of_beq q, ?_⟩
      obtain ⟨c, hc⟩ := cellsFrom_has (n := s.heap.objs.size + 1) (acc := []) (.inl (mem_of_lookup (eq_of_beq q)))
      rw [hc]; rfl
  · have L₁ := call_loc FO R hx hl ic (by rw [hbmap]; exact FO.nodup)
    obtain ⟨h₁, tk, rfl, hk⟩ := ic.done
    have above := fun x c (q : (callEnvC fd s.heap.objs.size (g.fa n)).cells.lookup x = some c) => ic.above x c (mem_of_lookup q)
    clear ic
    obtain ⟨R₁, E₁⟩ := R.grow hk
    obtain ⟨f, m', hex, hfv⟩ := fin_of he
    refine EX (A.deeper _) _ fd.scope mf.vars _ F ρ σ { s with heap := h₁, toks := tk } st f m' σ' (hr.deeper _) R₁ L₁ (fun x k q => .inl q) FO.chk hex _ _ fun fl F₂ ρ₂ h₂ t₂ R₂ L₂ E₂ W₂ => ?_
    refine hQ _ F₂ ρ₂ h₂ t₂ R₂ ((E₁.weaken.trans E₂).fresh fun b hb => ?_) (FlR.val hfv W₂)
    rcases hb with q | ⟨x, q⟩
    · rw [q]; exact Heap.none_size _
    · exact size_none _ (Nat.le_of_lt (above x b q))
theorem Room.made {A : Around} {d : Nat} (hr : Room A (d + 1)) (a : Addr) (xs : List Value) : Room (A.under (.builtin "type.__call__" ⟨.ref a :: xs, []⟩)) d := by
  refine ⟨hr.handled, ?_, ?_⟩
  · have := hr.depth
    have w : (Code.builtin "type.__call__" ⟨.ref a :: xs, []⟩).weight = 1 := by rfl
    show A.depth + _ + 3 * d + 10 ≤ recursionLimit
    lia
  · have := hr.units
    have w : (Code.builtin "type.__call__" ⟨.ref a :: xs, []⟩).cUnits = 1 := by rfl
    show A.units + _ + 30 * d + 100 ≤ cLine
    lia
theorem fn_case {d : Nat} (GO : GOk g G) (C : ∀ k, isInstKd k = true → ClsOk g k) (TO : TabOk g G) (IH : CallOk g (callD g.tab d) d) {n : Nat} {xs : List Value} {vs : List V} {v : V} (hr : Room A (d + 1)) (R : Rel g F ρ σ s.heap) (hx : VsR g F ρ xs vs) (he : callD g.tab (d + 1) (.fn n) vs σ = some (v, σ')) :
    keepIn g.K (.ref (g.fa n)) = true ∧ ∀ R' : Result → Shared → Prop, PostC g F ρ σ s v σ' R' → codeAny (model g.prog g.w) A (.call (.ref (g.fa n)) ⟨xs, []⟩) R' s := by
  obtain ⟨mf, hmf, he⟩ := Option.bind_eq_some_iff.mp he
  obtain ⟨hl, he⟩ := if_of he
  obtain ⟨o, fd, st, FO⟩ := TO.fn n mf hmf
  exact ⟨FO.keep, fun R' hQ => call_fn FO (exsOk GO C IH mf.body) hr R hx hl he hQ⟩
theorem cls_case {d : Nat} (GO : GOk g G) (C : ∀ k, isInstKd k = true → ClsOk g k) (TO : TabOk g G) (IH : CallOk g (callD g.tab d) d) {n : Nat} {k : Kd} {xs : List Value} {vs : List V} (hr : Room A (d + 2)) (R : Rel g F ρ σ s.heap) (hx : VsR g F ρ xs vs) (hn : g.tab.init k = some n)
    (hcall : callD g.tab (d + 1) (.fn n) (.ref k (σ k).length :: vs) (σ.push k (.inst [])) = some (.none, σ')) : Gives g A (call (.ref (g.ca k)) xs) F ρ σ s (.ref k (σ k).length) σ' := by
  intro Q E hQ
  have c := C k (TO.ini k n hn)
  obtain ⟨i1, i2⟩ := c.ini n hn
  obtain ⟨hh, gg, dd, tt, os⟩ := s
  refine wpAny_call (make_core (makes_of R.K c.make) (looks_findIn R.K i1) (fun self => bind_fn R.K self i2) (.inl rfl) ?_)
  obtain ⟨R', E', hv⟩ := R.newO (k := k) (a := hh.objs.size + 1) (d := hh.objs.size) (O := .inst []) (h' := (hh.push emptyDict).push (instObj (g.ca k) hh.objs.size)) (fun b o e => Heap.get?_push_of_some _ (Heap.get?_push_of_some _ e)) (size_none _ (Nat.le_succ _)) (Heap.none_size hh)
    ⟨Nat.ne_of_gt (Nat.lt_succ_self _), by have := Heap.get?_push_size (hh.push emptyDict) (o := instObj (g.ca k) hh.objs.size) rfl; rwa [Heap.size_push] at this, [], 0, Heap.get?_push_of_some _ (Heap.get?_push_size _ rfl), rfl, Nat.zero_le _, (fun e he => nomatch he), fun x _ => rfl, fun j x hx => ⟨(fun v hv => nomatch hv), fun _ => rfl⟩⟩
  refine (fn_case (s := ⟨(hh.push emptyDict).push (instObj (g.ca k) hh.objs.size), gg, dd, tt, os⟩) GO C TO IH (hr.made _ _) R' (.cons hv (hx.mono E'.ext E'.pre)) hcall).2 _ fun y F' ρ' h' tk R₂ E₂ V₂ => ?_
  have := V₂.none_inv; subst this
  exact ⟨rfl, hQ _ F' ρ' h' tk R₂ (E'.trans E₂) (hv.mono E₂.ext E₂.pre)⟩
theorem callOk (GO : GOk g G) (C : ∀ k, isInstKd k = true → ClsOk g k) (TO : TabOk g G) : ∀ d, CallOk g (callD g.tab d) d
  | 0 => fun A F ρ σ s f xs fv vs v σ' hr R hf hx he => ns he
  | d + 1 => fun A F ρ σ s f xs fv vs v σ' hr R hf hx he => by
    cases fv with
    | fn n =>
      have := hf.fn_inv; subst this
      obtain ⟨q1, q2⟩ := fn_case GO C TO (callOk GO C TO d) hr R hx he
      exact ⟨q1, fun Q E hQ => wpAny_call (q2 _ hQ)⟩
    | cls k =>
      have := hf.cls_inv; subst this
      obtain ⟨n, hn, he1⟩ := Option.bind_eq_some_iff.mp he
      obtain ⟨r, σ₁, hcall, he2⟩ := bind_of he1
      obtain ⟨c, e1, he'⟩ := Option.bind_eq_some_iff.mp he2
      refine ⟨(C k (TO.ini k n hn)).keep, ?_⟩
      rcases isN_of e1 with ⟨rfl, rfl⟩ | ⟨_, _, rfl⟩
      · cases d with
        | zero => exact ns hcall
        | succ d => cases he'; exact cls_case GO C TO (callOk GO C TO d) hr R hx hn hcall
      · exact ns he'
    | _ => exact ns he
end
end Mine
end
section
set_option maxRecDepth 100000
namespace Mine
section
variable {cl : CallF} {m m' m₁ : List V} {σ σ' σ₁ σ₂ σ₃ : St} {a b e x' t lo hi : ME} {x y z v w : V} {xs ys vs us : List V} {es : List ME} {i j k n : Nat} {kd : Kd} {p q r : Int} {c c₁ c₂ : Bool}
theorem r_con : ev cl (.con v) m σ = some (v, σ) := rfl
theorem r_glob {s : PySem.Str} : ev cl (.glob s v) m σ = some (v, σ) := rfl
theorem r_loc {R : Option (V × St)} (h : (match m[i]? with | some .undef => Option.none | some v => some (v, σ) | Option.none => Option.none) = R) : ev cl (.loc i) m σ = R := h
theorem r_locu (h : m[i]? = some v) (hv : v ≠ .undef) : ev cl (.loc i) m σ = some (v, σ) := by
  refine r_loc ?_
  rw [h]
  cases v with
  | undef => exact absurd rfl hv
  | _ => rfl
theorem r_locR {k : Kd} {n : Nat} (h : m[i]? = some (.ref k n)) : ev cl (.loc i) m σ = some (.ref k n, σ) := r_loc (by rw [h])
theorem r_locI (h : m[i]? = some (.int p)) : ev cl (.loc i) m σ = some (.int p, σ) := r_loc (by rw [h])
theorem r_locB (h : m[i]? = some (.bool c)) : ev cl (.loc i) m σ = some (.bool c, σ) := r_loc (by rw [h])
theorem r_bin {op : PySem.Operator} (h1 : ev cl a m σ = some (x, σ₁)) (h2 : ev cl b m σ₁ = some (y, σ₂)) (h3 : binop op (deref σ₂ x) (deref σ₂ y) = some z) : ev cl (.bin op a b) m σ = some (z, σ₂) := bind_eq h1 (bind_eq h2 (bind_eq h3 rfl))
theorem r_neg (h1 : ev cl a m σ = some (.int p, σ₁)) : ev cl (.neg a) m σ = some (.int (-p), σ₁) := bind_eq h1 rfl
theorem r_not (h1 : ev cl a m σ = some (.bool c, σ₁)) : ev cl (.not a) m σ = some (.bool (!c), σ₁) := bind_eq h1 rfl
theorem r_cmp {op : PySem.CmpOp} (h1 : ev cl a m σ = some (x, σ₁)) (h2 : ev cl b m σ₁ = some (y, σ₂)) (h3 : cmpop σ₂ op (deref σ₂ x) (deref σ₂ y) = some c) : ev cl (.cmp op a b) m σ = some (.bool c, σ₂) := bind_eq h1 (bind_eq h2 (bind_eq h3 rfl))
theorem r_iteT (h1 : evT cl t m σ = some (true, σ₁)) (h2 : ev cl a m σ₁ = some (z, σ₂)) : ev cl (.ite t a b) m σ = some (z, σ₂) := bind_eq h1 h2
theorem r_iteF (h1 : evT cl t m σ = some (false, σ₁)) (h2 : ev cl b m σ₁ = some (z, σ₂)) : ev cl (.ite t a b) m σ = some (z, σ₂) := bind_eq h1 h2
theorem r_nil : evs cl [] m σ = some ([], σ) := rfl
theorem r_cons (h1 : ev cl e m σ = some (x, σ₁)) (h2 : evs cl es m σ₁ = some (xs, σ₂)) : evs cl (e :: es) m σ = some (x :: xs, σ₂) := bind_eq h1 (bind_eq h2 rfl)
theorem r_tup (h : evs cl es m σ = some (xs, σ₁)) : ev cl (.tup es) m σ = some (.tup xs, σ₁) := bind_eq h rfl
theorem r_lst (h : evs cl es m σ = some (xs, σ₁)) : ev cl (.lst es) m σ = some (.lst xs, σ₁) := bind_eq h rfl
theorem r_newl (h : evs cl es m σ = some (xs, σ₁)) (h2 : σ₁.push kd (.list xs) = σ₂) : ev cl (.newl kd es) m σ = some (.ref kd (σ₁ kd).length, σ₂) := by
  subst h2; exact bind_eq h rfl
theorem r_idx (h1 : ev cl a m σ = some (x, σ₁)) (h2 : ev cl b m σ₁ = some (.int p, σ₂)) (h3 : items σ₂ x = some vs) (h4 : place vs.length p = some j) (h5 : vs[j]? = some z) : ev cl (.idx a b) m σ = some (z, σ₂) :=
  bind_eq h1 (bind_eq h2 (bind_eq h3 (bind_eq h4 (bind_eq h5 rfl))))
theorem r_key (h1 : ev cl a m σ = some (.ref kd i, σ₁)) (h2 : σ₁.dct kd i = some vs) (h3 : vs[j]? = some z) : ev cl (.key a kd j) m σ = some (z, σ₁) := bind_eq h1 (if_eq rfl (bind_eq h2 (bind_eq h3 rfl)))
theorem r_attr (h1 : ev cl a m σ = some (.ref kd i, σ₁)) (h2 : σ₁.ins kd i = some vs) (h3 : vs[j]? = some z) : ev cl (.attr a kd j) m σ = some (z, σ₁) := bind_eq h1 (if_eq rfl (bind_eq h2 (bind_eq h3 rfl)))
theorem r_slcAB (h1 : ev cl a m σ = some (x, σ₁)) (h2 : ev cl lo m σ₁ = some (.int p, σ₂)) (h3 : ev cl hi m σ₂ = some (.int q, σ₃)) (h4 : sliced σ₃ x (some p) (some q) = some z) : ev cl (.slcAB a lo hi) m σ = some (z, σ₃) := bind_eq h1 (bind_eq h2 (bind_eq h3 (bind_eq rfl (bind_eq rfl (bind_eq h4 rfl)))))
theorem r_slcA (h1 : ev cl a m σ = some (x, σ₁)) (h2 : ev cl lo m σ₁ = some (.int p, σ₂)) (h4 : sliced σ₂ x (some p) Option.none = some z) : ev cl (.slcA a lo) m σ = some (z, σ₂) := bind_eq h1 (bind_eq h2 (bind_eq h4 rfl))
theorem r_slcB (h1 : ev cl a m σ = some (x, σ₁)) (h2 : ev cl hi m σ₁ = some (.int p, σ₂)) (h4 : sliced σ₂ x Option.none (some p) = some z) : ev cl (.slcB a hi) m σ = some (z, σ₂) := bind_eq h1 (bind_eq h2 (bind_eq h4 rfl))
theorem r_call {R : Option (V × St)} (h1 : ev cl a m σ = some (x, σ₁)) (h2 : evs cl es m σ₁ = some (xs, σ₂)) (h3 : cl x xs σ₂ = R) : ev cl (.call a es) m σ = R := bind_eq h1 (bind_eq h2 h3)
theorem r_meth {R : Option (V × St)} (h1 : ev cl a m σ = some (.ref kd i, σ₁)) (h0 : σ₁.ins kd i = some us) (h2 : evs cl es m σ₁ = some (xs, σ₂)) (h3 : cl (.fn n) (.ref kd i :: xs) σ₂ = R) : ev cl (.meth a kd n es) m σ = R :=
  bind_eq h1 (if_eq ⟨rfl, by rw [h0]; rfl⟩ (bind_eq h2 h3))
theorem r_cmeth {R : Option (V × St)} (h2 : evs cl es m σ = some (xs, σ₂)) (h3 : cl (.fn n) xs σ₂ = R) : ev cl (.cmeth n es) m σ = R := bind_eq h2 h3
theorem r_len (h1 : ev cl a m σ = some (x, σ₁)) (h2 : items σ₁ x = some vs) : ev cl (.len a) m σ = some (.int vs.length, σ₁) := bind_eq h1 (bind_eq h2 rfl)
theorem r_min (h1 : ev cl a m σ = some (.int p, σ₁)) (h2 : ev cl b m σ₁ = some (.int q, σ₂)) (h : (if q < p then q else p) = r) : ev cl (.min a b) m σ = some (.int r, σ₂) := bind_eq h1 (bind_eq h2 (bind_eq rfl (bind_eq rfl (h ▸ rfl))))
theorem r_max (h1 : ev cl a m σ = some (.int p, σ₁)) (h2 : ev cl b m σ₁ = some (.int q, σ₂)) (h : (if q > p then q else p) = r) : ev cl (.max a b) m σ = some (.int r, σ₂) := bind_eq h1 (bind_eq h2 (bind_eq rfl (bind_eq rfl (h ▸ rfl))))
theorem r_listOf (h1 : ev cl a m σ = some (.lst vs, σ₁)) (h2 : σ₁.push kd (.list vs) = σ₂) : ev cl (.listOf kd a) m σ = some (.ref kd (σ₁ kd).length, σ₂) := bind_eq h1 (congrArg (fun τ => some (V.ref kd (σ₁ kd).length, τ)) h2)
theorem some_is {α : Type} {o : Option α} {u : α} (h : o = some u) : o.isSome = true := by rw [h]; rfl
theorem r_append (h1 : ev cl a m σ = some (.ref kd i, σ₁)) (h2 : ev cl x' m σ₁ = some (y, σ₂)) (h3 : σ₁.lst kd i = some us) (h4 : σ₂.lst kd i = some vs) (h5 : okLen (vs.length + 1) = true) (h6 : σ₂.setO kd i (.list (vs ++ [y])) = σ₃) : ev cl (.append a x') m σ = some (.none, σ₃) :=
  bind_eq h1 (bind_eq h2 (if_eq (some_is h3) (bind_eq h4 (if_eq h5 (by rw [h6])))))
theorem r_extend (h1 : ev cl a m σ = some (.ref kd i, σ₁)) (h2 : ev cl x' m σ₁ = some (.lst ys, σ₂)) (h3 : σ₁.lst kd i = some us) (h4 : σ₂.lst kd i = some vs) (h5 : okLen (vs.length + ys.length) = true) (h6 : σ₂.setO kd i (.list (vs ++ ys)) = σ₃) : ev cl (.extend a x') m σ = some (.none, σ₃) :=
  bind_eq h1 (bind_eq h2 (bind_eq rfl (if_eq (some_is h3) (bind_eq h4 (if_eq h5 (by rw [h6]))))))
theorem r_pop (h1 : ev cl a m σ = some (.ref kd i, σ₁)) (h2 : σ₁.lst kd i = some vs) (h3 : vs.getLast? = some y) (h4 : σ₁.setO kd i (.list vs.dropLast) = σ₂) : ev cl (.pop a) m σ = some (y, σ₂) := bind_eq h1 (bind_eq h2 (bind_eq h3 (by rw [h4])))
theorem r_pop0 (h1 : ev cl a m σ = some (.ref kd i, σ₁)) (h2 : σ₁.lst kd i = some (y :: ys)) (h4 : σ₁.setO kd i (.list ys) = σ₂) : ev cl (.pop0 a) m σ = some (y, σ₂) := bind_eq h1 (bind_eq h2 (by rw [← h4]))
theorem r_insert (h1 : ev cl a m σ = some (.ref kd i, σ₁)) (h2 : ev cl b m σ₁ = some (.int p, σ₂)) (h3 : ev cl x' m σ₂ = some (y, σ₃)) (h4 : σ₁.lst kd i = some us) (h5 : σ₃.lst kd i = some vs) (h6 : 0 ≤ p ∧ p ≤ vs.length ∧ okLen (vs.length + 1) = true) (h7 : σ₃.setO kd i (.list (vs.take p.toNat ++ y :: vs.drop p.toNat)) = σ') :
    ev cl (.insert a b x') m σ = some (.none, σ') := bind_eq h1 (bind_eq h2 (bind_eq h3 (bind_eq rfl (if_eq (some_is h4) (bind_eq h5 (if_eq h6 (by rw [h7])))))))
theorem r_freeze (h1 : ev cl a m σ = some (.ref kd i, σ₁)) (h2 : σ₁.lst kd i = some vs) (h3 : σ₁.setO kd i .gone = σ₂) : ev cl (.freeze a) m σ = some (.lst vs, σ₂) := bind_eq h1 (bind_eq h2 (by rw [h3]))
theorem v_and1 (h1 : ev cl e m σ = some (.bool true, σ₁)) (h2 : evB cl true (a :: es) m σ₁ = some (z, σ₂)) : evB cl true (e :: a :: es) m σ = some (z, σ₂) := bind_eq h1 (if_eq rfl h2)
theorem v_and0 (h1 : ev cl e m σ = some (.bool false, σ₁)) : evB cl true (e :: a :: es) m σ = some (.bool false, σ₁) := bind_eq h1 rfl
theorem v_one (h : ev cl e m σ = some (z, σ₁)) : evB cl c [e] m σ = some (z, σ₁) := h
theorem r_bop (h : evB cl c es m σ = some (z, σ₁)) : ev cl (.bop c es) m σ = some (z, σ₁) := h
theorem t_cmp {op : PySem.CmpOp} (h1 : ev cl a m σ = some (x, σ₁)) (h2 : ev cl b m σ₁ = some (y, σ₂)) (h3 : cmpop σ₂ op (deref σ₂ x) (deref σ₂ y) = some c) : evT cl (.cmp op a b) m σ = some (c, σ₂) := bind_eq h1 (bind_eq h2 (bind_eq h3 rfl))
theorem t_not (h1 : evT cl a m σ = some (c, σ₁)) : evT cl (.not a) m σ = some (!c, σ₁) := bind_eq h1 rfl
theorem t_loc (h : m[i]? = some (.bool c)) : evT cl (.loc i) m σ = some (c, σ) := by
  show (match m[i]? with | some (.bool b) => some (b, σ) | _ => Option.none) = _
  rw [h]
theorem t_call {f : ME} (h1 : ev cl f m σ = some (x, σ₁)) (h2 : evs cl es m σ₁ = some (xs, σ₂)) (h3 : cl x xs σ₂ = some (.bool c, σ₃)) : evT cl (.call f es) m σ = some (c, σ₃) := bind_eq h1 (bind_eq h2 (bind_eq h3 rfl))
theorem t_key (h1 : ev cl a m σ = some (.ref kd i, σ₁)) (h2 : σ₁.dct kd i = some vs) (h3 : vs[j]? = some (.bool c)) : evT cl (.key a kd j) m σ = some (c, σ₁) :=
  bind_eq h1 (if_eq rfl (bind_eq h2 (by rw [h3])))
theorem t_and1 (h1 : evT cl e m σ = some (true, σ₁)) (h2 : evA cl true es m σ₁ = some (c, σ₂)) : evA cl true (e :: es) m σ = some (c, σ₂) := bind_eq h1 (if_eq rfl h2)
theorem t_and0 (h1 : evT cl e m σ = some (false, σ₁)) : evA cl true (e :: es) m σ = some (false, σ₁) := bind_eq h1 rfl
theorem t_or0 (h1 : evT cl e m σ = some (false, σ₁)) (h2 : evA cl false es m σ₁ = some (c, σ₂)) : evA cl false (e :: es) m σ = some (c, σ₂) := bind_eq h1 (if_eq rfl h2)
theorem t_or1 (h1 : evT cl e m σ = some (true, σ₁)) : evA cl false (e :: es) m σ = some (true, σ₁) := bind_eq h1 rfl
theorem t_bop (h : evA cl c₁ es m σ = some (c, σ₁)) : evT cl (.bop c₁ es) m σ = some (c, σ₁) := h
theorem c_lt (h : p < q) : cmpop σ .Lt (deref σ (.int p)) (deref σ (.int q)) = some true := congrArg some (decide_eq_true h)
theorem c_nlt (h : ¬ p < q) : cmpop σ .Lt (deref σ (.int p)) (deref σ (.int q)) = some false := congrArg some (decide_eq_false h)
theorem c_le (h : p ≤ q) : cmpop σ .LtE (deref σ (.int p)) (deref σ (.int q)) = some true := congrArg some (decide_eq_true h)
theorem c_nle (h : ¬ p ≤ q) : cmpop σ .LtE (deref σ (.int p)) (deref σ (.int q)) = some false := congrArg some (decide_eq_false h)
theorem c_gt (h : p > q) : cmpop σ .Gt (deref σ (.int p)) (deref σ (.int q)) = some true := congrArg some (decide_eq_true h)
theorem c_ngt (h : ¬ p > q) : cmpop σ .Gt (deref σ (.int p)) (deref σ (.int q)) = some false := congrArg some (decide_eq_false h)
theorem c_ge (h : p ≥ q) : cmpop σ .GtE (deref σ (.int p)) (deref σ (.int q)) = some true := congrArg some (decide_eq_true h)
theorem c_nge (h : ¬ p ≥ q) : cmpop σ .GtE (deref σ (.int p)) (deref σ (.int q)) = some false := congrArg some (decide_eq_false h)
theorem c_eq (h : p = q) : cmpop σ .Eq (deref σ (.int p)) (deref σ (.int q)) = some true := congrArg some (beq_iff_eq.mpr h)
theorem c_neq (h : ¬ p = q) : cmpop σ .Eq (deref σ (.int p)) (deref σ (.int q)) = some false := congrArg some (beq_eq_false_iff_ne.mpr h)
theorem c_ne (h : ¬ p = q) : cmpop σ .NotEq (deref σ (.int p)) (deref σ (.int q)) = some true := congrArg some (by rw [beq_eq_false_iff_ne.mpr h]; rfl)
theorem c_nne (h : p = q) : cmpop σ .NotEq (deref σ (.int p)) (deref σ (.int q)) = some false := congrArg some (by rw [beq_iff_eq.mpr h]; rfl)
theorem b_add (h : p + q = r) : binop .Add (deref σ (.int p)) (deref σ (.int q)) = some (.int r) := h ▸ rfl
theorem b_sub (h : p - q = r) : binop .Sub (deref σ (.int p)) (deref σ (.int q)) = some (.int r) := h ▸ rfl
theorem b_mul (h1 : small p = true) (h2 : small q = true) (h : p * q = r) : binop .Mult (deref σ (.int p)) (deref σ (.int q)) = some (.int r) := (if_pos ⟨h1, h2⟩).trans (h ▸ rfl)
theorem b_addL (h : okLen (xs.length + ys.length) = true) : binop .Add (.lst xs) (.lst ys) = some (.lst (xs ++ ys)) := if_pos ⟨rfl, h⟩
theorem b_mulL (h0 : p.toNat = n) (h1 : okLen n = true) (h2 : small p = true) : binop .Mult (.lst [x]) (deref σ (.int p)) = some (.lst (List.replicate n x)) := by
  subst h0; exact if_pos ⟨rfl, h1, h2⟩
theorem s_key (h1 : ev cl a m σ = some (.ref kd i, σ₁)) (h2 : σ₁.dct kd i = some vs) (h3 : Nat.ble (j + 1) vs.length = true) (h4 : σ₁.setO kd i (.dict (vs.set j v)) = σ') : setTo cl (.key a kd j) v m σ = some (m, σ') :=
  bind_eq h1 (if_eq rfl (bind_eq h2 (if_eq (Nat.le_of_ble_eq_true h3) (by rw [h4]))))
theorem s_attr (h1 : ev cl a m σ = some (.ref kd i, σ₁)) (h2 : σ₁.ins kd i = some vs) (h3 : Nat.ble (j + 1) vs.length = true) (h4 : σ₁.setO kd i (.inst (vs.set j v)) = σ') : setTo cl (.attr a kd j) v m σ = some (m, σ') :=
  bind_eq h1 (if_eq rfl (bind_eq h2 (if_eq (Nat.le_of_ble_eq_true h3) (by rw [h4]))))
theorem s_attrN (h1 : ev cl a m σ = some (.ref kd i, σ₁)) (h2 : σ₁.ins kd i = some vs) (h3 : j = vs.length) (h4 : σ₁.setO kd i (.inst (vs ++ [v])) = σ') : setTo cl (.attr a kd j) v m σ = some (m, σ') :=
  bind_eq h1 (if_eq rfl (bind_eq h2 (by rw [if_neg (h3 ▸ Nat.lt_irrefl _), if_pos h3, h4])))
theorem s_idx (h1 : ev cl a m σ = some (.ref kd i, σ₁)) (h2 : ev cl b m σ₁ = some (.int (n : Int), σ₂)) (h3 : σ₂.lst kd i = some vs) (h4 : n < vs.length) (h5 : σ₂.setO kd i (.list (vs.set n v)) = σ') : setTo cl (.idx a b) v m σ = some (m, σ') :=
  bind_eq h1 (bind_eq h2 (bind_eq rfl (bind_eq h3 (if_eq ⟨Int.natCast_nonneg _, Int.ofNat_lt.mpr h4⟩ (congrArg (fun τ => some (m, τ)) h5)))))
theorem s_slc (h1 : ev cl a m σ = some (.ref kd i, σ₁)) (h2 : ev cl lo m σ₁ = some (.int p, σ₂)) (h3 : ev cl hi m σ₂ = some (.int q, σ₃)) (h4 : σ₃.lst kd i = some vs) (h5 : 0 ≤ p ∧ p + ys.length = q ∧ q ≤ vs.length) (h6 : σ₃.setO kd i (.list (vs.take p.toNat ++ ys ++ vs.drop q.toNat)) = σ') :
    setTo cl (.slc a lo hi) (.lst ys) m σ = some (m, σ') := bind_eq h1 (bind_eq h2 (bind_eq h3 (bind_eq rfl (bind_eq rfl (bind_eq rfl (bind_eq h4 (if_eq h5 (by rw [h6]))))))))
theorem x_expr' (h : ev cl e m σ = some (z, σ')) : ex cl (.expr e) m σ = some (.next, m, σ') := bind_eq h rfl
theorem x_asg' {T : MT} (h1 : ev cl e m σ = some (v, σ₁)) (h2 : setTo cl T v m σ₁ = some (m', σ')) : ex cl (.asg T e) m σ = some (.next, m', σ') := bind_eq h1 (bind_eq h2 rfl)
theorem x_asgT' {T : List MT} (h1 : ev cl e m σ = some (.tup vs, σ₁)) (h2 : setAll cl T vs m σ₁ = some (m', σ')) : ex cl (.asgT T e) m σ = some (.next, m', σ') := bind_eq h1 (bind_eq h2 rfl)
theorem augL_eq {α : Type} {o : Option V} {f : Int → Option α} {R : Option α} {p : Int} : o = some (.int p) → f p = R → (match o with | some (.int x) => f x | _ => Option.none) = R := by
  intro h0 h
  rw [h0]; exact h
theorem x_addL (h0 : m[i]? = some (.int p)) (h1 : ev cl e m σ = some (.int q, σ₁)) (h : p + q = r) : ex cl (.augL i .Add e) m σ = some (.next, m.set i (.int r), σ₁) := by
  subst h
  exact augL_eq (f := fun x => (ev cl e m σ).bind fun (y, σ₁) => (y.int?).bind fun z => if PySem.Operator.Add = .Add then some (Fl.next, m.set i (.int (x + z)), σ₁) else if PySem.Operator.Add = .Sub then some (Fl.next, m.set i (.int (x - z)), σ₁) else Option.none) h0 (bind_eq h1 rfl)
theorem x_subL (h0 : m[i]? = some (.int p)) (h1 : ev cl e m σ = some (.int q, σ₁)) (h : p - q = r) : ex cl (.augL i .Sub e) m σ = some (.next, m.set i (.int r), σ₁) := by
  subst h
  exact augL_eq (f := fun x => (ev cl e m σ).bind fun (y, σ₁) => (y.int?).bind fun z => if PySem.Operator.Sub = .Add then some (Fl.next, m.set i (.int (x + z)), σ₁) else if PySem.Operator.Sub = .Sub then some (Fl.next, m.set i (.int (x - z)), σ₁) else Option.none) h0 (bind_eq h1 rfl)
theorem x_addA (h1 : ev cl a m σ = some (.ref kd i, σ₁)) (h2 : σ₁.ins kd i = some vs) (h3 : vs[j]? = some (.int p)) (h4 : ev cl e m σ₁ = some (.int q, σ₂)) (h5 : σ₂.ins kd i = some us) (h6 : Nat.ble (j + 1) us.length = true) (h7 : σ₂.setO kd i (.inst (us.set j (.int (p + q)))) = σ₃) :
    ex cl (.augA a kd j .Add e) m σ = some (.next, m, σ₃) := by
  subst h7
  exact bind_eq h1 (if_eq rfl (bind_eq h2 (augL_eq (f := fun p => (ev cl e m σ₁).bind fun (y, σ₂) => (y.int?).bind fun z => if PySem.Operator.Add = .Add then (σ₂.ins kd i).bind fun ws => if j < ws.length then some (Fl.next, m, σ₂.setO kd i (.inst (ws.set j (.int (p + z))))) else Option.none else Option.none) h3 (bind_eq h4 (bind_eq rfl (if_eq rfl (bind_eq h5 (if_eq (Nat.le_of_ble_eq_true h6) rfl))))))))
theorem x_if1 {A B : List MS} {R : Option (Fl × List V × St)} (h1 : evT cl t m σ = some (true, σ₁)) (h2 : exs cl A m σ₁ = R) : ex cl (.ite t A B) m σ = R := bind_eq h1 h2
theorem x_if0 {A B : List MS} {R : Option (Fl × List V × St)} (h1 : evT cl t m σ = some (false, σ₁)) (h2 : exs cl B m σ₁ = R) : ex cl (.ite t A B) m σ = R := bind_eq h1 h2
theorem x_forS' {B : List MS} {R : Option (Fl × List V × St)} (h : ev cl e m σ = some (.lst vs, σ₁)) (h2 : loopF (fun x m τ => (putNm i x m).bind fun m₂ => exs cl B m₂ τ) vs m σ₁ = R) : ex cl (.forS i e B) m σ = R := bind_eq h h2
theorem x_forS2' {B : List MS} {R : Option (Fl × List V × St)} (h : ev cl e m σ = some (.lst vs, σ₁)) (h2 : loopF (fun x m τ => (putPr i j x m).bind fun m₂ => exs cl B m₂ τ) vs m σ₁ = R) : ex cl (.forS2 i j e B) m σ = R := bind_eq h h2
theorem x_forR1' {B : List MS} {R : Option (Fl × List V × St)} (h : ev cl e m σ = some (.int p, σ₁)) (h1 : okLen p.toNat = true) (h2 : small p = true) (h3 : loopF (fun x m τ => (putNm i x m).bind fun m₂ => exs cl B m₂ τ) (rangeV 0 p) m σ₁ = R) : ex cl (.forR1 i e B) m σ = R := bind_eq h (if_eq ⟨h1, h2⟩ h3)
theorem x_forR' {B : List MS} {R : Option (Fl × List V × St)} (h : ev cl lo m σ = some (.int p, σ₁)) (h' : ev cl hi m σ₁ = some (.int q, σ₂)) (h1 : okLen (q - p).toNat = true) (h2 : small p = true) (h2' : small q = true) (h3 : loopF (fun x m τ => (putNm i x m).bind fun m₂ => exs cl B m₂ τ) (rangeV p q) m σ₂ = R) : ex cl (.forR i lo hi B) m σ = R :=
  bind_eq h (bind_eq h' (bind_eq rfl (bind_eq rfl (if_eq ⟨h1, h2, h2'⟩ h3))))
theorem exs_step {st : MS} {r : List MS} {R : Option (Fl × List V × St)} (h : ex cl st m σ = some (.next, m', σ')) (h2 : exs cl r m' σ' = R) : exs cl (st :: r) m σ = R := bind_eq h h2
theorem exs_ret {r : List MS} (h : ev cl e m σ = some (v, σ')) : exs cl (.ret e :: r) m σ = some (.ret v, m, σ') := bind_eq (bind_eq h rfl) rfl
theorem exs_end : exs cl [] m σ = some (.next, m, σ) := rfl
theorem fin_step {st : MS} {r : List MS} {R : Option (V × St)} (h : ex cl st m σ = some (.next, m', σ')) (h2 : fin (exs cl r m' σ') = R) : fin (exs cl (st :: r) m σ) = R := (congrArg fin (exs_step h rfl)).trans h2
theorem fin_ret {r : List MS} (h : ev cl e m σ = some (v, σ')) : fin (exs cl (.ret e :: r) m σ) = some (v, σ') := congrArg fin (exs_ret h)
theorem fin_skip {A r : List MS} {R : Option (V × St)} (ht : evT cl t m σ = some (false, σ₁)) (h2 : fin (exs cl r m σ₁) = R) : fin (exs cl (.ite t A [] :: r) m σ) = R := fin_step (x_if0 ht exs_end) h2
theorem fin_ifR {A B r : List MS} (ht : evT cl t m σ = some (true, σ₁)) (h : exs cl A m σ₁ = some (.ret v, m', σ')) : fin (exs cl (.ite t A B :: r) m σ) = some (v, σ') := congrArg fin (bind_eq (x_if1 ht h) rfl)
theorem fin_ifR0 {A B r : List MS} (ht : evT cl t m σ = some (false, σ₁)) (h : exs cl B m σ₁ = some (.ret v, m', σ')) : fin (exs cl (.ite t A B :: r) m σ) = some (v, σ') := congrArg fin (bind_eq (x_if0 ht h) rfl)
theorem fin_nil : fin (exs cl [] m σ) = some (.none, σ) := rfl
end
end Mine
end
section
set_option maxRecDepth 100000
namespace Mine
structure Bw where
  pre : St
  shift : Nat
  stands : Bool
noncomputable def Bw.n (P : Bw) (k : Kd) : Nat := (P.pre k).length
structure Mc where
  tmp : List MObj
  stack : List V
  opens : List V
  frames : List V
  top : Nat
  made : List V
  known : List V
  notes : List V
  places : List V
  ent : Int
  well : Bool
  fr : List MObj
  up : List MObj
noncomputable def Mc.wd (P : Bw) (M : Mc) : List V := [.ref .ground (P.n .ground), .ref .frames (P.n .frames), .int M.top, .ref .made (P.n .made), .ref .known (P.n .known), .ref .notes (P.n .notes), .ref .places (P.n .places), .int P.shift, .bool P.stands, .int M.ent, .bool M.well]
noncomputable def enc (P : Bw) (M : Mc) : St := fun k => match k with
  | .tmp => M.tmp
  | .bag => P.pre .bag
  | .world => P.pre .world ++ [.dict (M.wd P)]
  | .ground => P.pre .ground ++ [.inst [.ref .stack (P.n .stack), .ref .opens (P.n .opens), .none, .bool false]]
  | .stack => P.pre .stack ++ [.list M.stack]
  | .opens => P.pre .opens ++ [.list M.opens]
  | .frames => P.pre .frames ++ [.list M.frames]
  | .made => P.pre .made ++ [.list M.made]
  | .known => P.pre .known ++ [.list M.known]
  | .notes => P.pre .notes ++ [.list M.notes]
  | .places => P.pre .places ++ [.list M.places]
  | .frame => M.fr
  | .upval => M.up
section
variable (P : Bw) (M : Mc)
theorem at_end (l : List MObj) (o : MObj) : (l ++ [o])[l.length]? = some o := by simp
theorem set_end (l : List MObj) (o o' : MObj) : (l ++ [o]).set l.length o' = l ++ [o'] := by simp
theorem e_dct : (enc P M).dct .world (P.n .world) = some (M.wd P) := by simp [St.dct, enc, Bw.n]
theorem e_gro : (enc P M).ins .ground (P.n .ground) = some [.ref .stack (P.n .stack), .ref .opens (P.n .opens), .none, .bool false] := by simp [St.ins, enc, Bw.n]
theorem e_stack : (enc P M).lst .stack (P.n .stack) = some M.stack := by simp [St.lst, enc, Bw.n]
theorem e_opens : (enc P M).lst .opens (P.n .opens) = some M.opens := by simp [St.lst, enc, Bw.n]
theorem e_frames : (enc P M).lst .frames (P.n .frames) = some M.frames := by simp [St.lst, enc, Bw.n]
theorem e_made : (enc P M).lst .made (P.n .made) = some M.made := by simp [St.lst, enc, Bw.n]
theorem e_known : (enc P M).lst .known (P.n .known) = some M.known := by simp [St.lst, enc, Bw.n]
theorem e_notes : (enc P M).lst .notes (P.n .notes) = some M.notes := by simp [St.lst, enc, Bw.n]
theorem e_places : (enc P M).lst .places (P.n .places) = some M.places := by simp [St.lst, enc, Bw.n]
theorem e_fr (i : Nat) : (enc P M).ins .frame i = match M.fr[i]? with | some (.inst vs) => some vs | _ => Option.none := rfl
theorem e_up (i : Nat) : (enc P M).ins .upval i = match M.up[i]? with | some (.inst vs) => some vs | _ => Option.none := rfl
theorem e_tmp (i : Nat) : (enc P M).lst .tmp i = match M.tmp[i]? with | some (.list vs) => some vs | _ => Option.none := rfl
theorem s_stack (l : List V) : (enc P M).setO .stack (P.n .stack) (.list l) = enc P { M with stack := l } := by
  funext k; cases k <;> simp [St.setO, St.put, enc, Bw.n, Mc.wd]
theorem s_opens (l : List V) : (enc P M).setO .opens (P.n .opens) (.list l) = enc P { M with opens := l } := by
  funext k; cases k <;> simp [St.setO, St.put, enc, Bw.n, Mc.wd]
theorem s_frames (l : List V) : (enc P M).setO .frames (P.n .frames) (.list l) = enc P { M with frames := l } := by
  funext k; cases k <;> simp [St.setO, St.put, enc, Bw.n, Mc.wd]
theorem s_made (l : List V) : (enc P M).setO .made (P.n .made) (.list l) = enc P { M with made := l } := by
  funext k; cases k <;> simp [St.setO, St.put, enc, Bw.n, Mc.wd]
theorem s_known (l : List V) : (enc P M).setO .known (P.n .known) (.list l) = enc P { M with known := l } := by
  funext k; cases k <;> simp [St.setO, St.put, enc, Bw.n, Mc.wd]
theorem s_notes (l : List V) : (enc P M).setO .notes (P.n .notes) (.list l) = enc P { M with notes := l } := by
  funext k; cases k <;> simp [St.setO, St.put, enc, Bw.n, Mc.wd]
theorem s_places (l : List V) : (enc P M).setO .places (P.n .places) (.list l) = enc P { M with places := l } := by
  funext k; cases k <;> simp [St.setO, St.put, enc, Bw.n, Mc.wd]
theorem s_fr (i : Nat) (o : MObj) : (enc P M).setO .frame i o = enc P { M with fr := M.fr.set i o } := by
  funext k; cases k <;> simp [St.setO, St.put, enc, Mc.wd]
theorem s_up (i : Nat) (o : MObj) : (enc P M).setO .upval i o = enc P { M with up := M.up.set i o } := by
  funext k; cases k <;> simp [St.setO, St.put, enc, Mc.wd]
theorem s_tmp (i : Nat) (o : MObj) : (enc P M).setO .tmp i o = enc P { M with tmp := M.tmp.set i o } := by
  funext k; cases k <;> simp [St.setO, St.put, enc, Mc.wd]
theorem p_tmp (o : MObj) : (enc P M).push .tmp o = enc P { M with tmp := M.tmp ++ [o] } := by
  funext k; cases k <;> simp [St.push, St.put, enc, Mc.wd]
theorem p_fr (o : MObj) : (enc P M).push .frame o = enc P { M with fr := M.fr ++ [o] } := by
  funext k; cases k <;> simp [St.push, St.put, enc, Mc.wd]
theorem p_up (o : MObj) : (enc P M).push .upval o = enc P { M with up := M.up ++ [o] } := by
  funext k; cases k <;> simp [St.push, St.put, enc, Mc.wd]
theorem s_top (t : Nat) : (enc P M).setO .world (P.n .world) (.dict ((M.wd P).set 2 (.int t))) = enc P { M with top := t } := by
  funext k; cases k <;> simp [St.setO, St.put, enc, Bw.n, Mc.wd]
theorem s_ent (t : Int) : (enc P M).setO .world (P.n .world) (.dict ((M.wd P).set 9 (.int t))) = enc P { M with ent := t } := by
  funext k; cases k <;> simp [St.setO, St.put, enc, Bw.n, Mc.wd]
theorem s_well (t : Bool) : (enc P M).setO .world (P.n .world) (.dict ((M.wd P).set 10 (.bool t))) = enc P { M with well := t } := by
  funext k; cases k <;> simp [St.setO, St.put, enc, Bw.n, Mc.wd]
theorem i_stack : items (enc P M) (.ref .stack (P.n .stack)) = some M.stack := e_stack P M
theorem i_opens : items (enc P M) (.ref .opens (P.n .opens)) = some M.opens := e_opens P M
theorem i_frames : items (enc P M) (.ref .frames (P.n .frames)) = some M.frames := e_frames P M
theorem i_made : items (enc P M) (.ref .made (P.n .made)) = some M.made := e_made P M
theorem i_known : items (enc P M) (.ref .known (P.n .known)) = some M.known := e_known P M
theorem i_notes : items (enc P M) (.ref .notes (P.n .notes)) = some M.notes := e_notes P M
theorem i_places : items (enc P M) (.ref .places (P.n .places)) = some M.places := e_places P M
theorem f_at {j : Nat} {vs : List V} {P : Bw} {M : Mc} (h : M.fr[j]? = some (.inst vs)) : (enc P M).ins .frame j = some vs := by rw [e_fr, h]
theorem u_at {j : Nat} {vs : List V} {P : Bw} {M : Mc} (h : M.up[j]? = some (.inst vs)) : (enc P M).ins .upval j = some vs := by rw [e_up, h]
theorem t_at {j : Nat} {vs : List V} {P : Bw} {M : Mc} (h : M.tmp[j]? = some (.list vs)) : (enc P M).lst .tmp j = some vs := by rw [e_tmp, h]
theorem s_frames' {P : Bw} {M : Mc} {l l' : List V} (h : l = l') : (enc P M).setO .frames (P.n .frames) (.list l) = enc P { M with frames := l' } := h ▸ s_frames P M l
theorem f_new (P : Bw) (M : Mc) (a : List V) : (enc P { M with fr := M.fr ++ [.inst a] }).ins .frame M.fr.length = some a := f_at (at_end _ _)
theorem f_newS (P : Bw) (M : Mc) (a b : List V) : (enc P { M with fr := M.fr ++ [.inst a] }).setO .frame M.fr.length (.inst b) = enc P { M with fr := M.fr ++ [.inst b] } := by
  rw [s_fr]; exact congrArg (fun l => enc P { M with fr := l }) (set_end _ _ _)
theorem u_new (P : Bw) (M : Mc) (a : List V) : (enc P { M with up := M.up ++ [.inst a] }).ins .upval M.up.length = some a := u_at (at_end _ _)
theorem u_newS (P : Bw) (M : Mc) (a b : List V) : (enc P { M with up := M.up ++ [.inst a] }).setO .upval M.up.length (.inst b) = enc P { M with up := M.up ++ [.inst b] } := by
  rw [s_up]; exact congrArg (fun l => enc P { M with up := l }) (set_end _ _ _)
theorem f_setS {P : Bw} {M : Mc} {j : Nat} {o o' : MObj} : (enc P { M with fr := M.fr.set j o }).setO .frame j o' = enc P { M with fr := M.fr.set j o' } := by
  rw [s_fr]; exact congrArg (fun l => enc P { M with fr := l }) (List.set_set ..)
theorem u_setS {P : Bw} {M : Mc} {j : Nat} {o o' : MObj} : (enc P { M with up := M.up.set j o }).setO .upval j o' = enc P { M with up := M.up.set j o' } := by
  rw [s_up]; exact congrArg (fun l => enc P { M with up := l }) (List.set_set ..)
theorem l_tmp : ((enc P M) .tmp).length = M.tmp.length := rfl
theorem l_fr : ((enc P M) .frame).length = M.fr.length := rfl
theorem l_up : ((enc P M) .upval).length = M.up.length := rfl
end
noncomputable def growL (l : List V) (n : Nat) : List V := l ++ List.replicate (n - l.length) .none
noncomputable abbrev sref (P : Bw) : V := .ref .stack (P.n .stack)
theorem call_eq {n d : Nat} {mf : MF} (h : fnTab n = some mf) {args : List V} {σ : St} (hl : args.length = mf.np) :
    callD tab0 (d + 1) (.fn n) args σ = fin (exs (callD tab0 d) mf.body (args ++ List.replicate (mf.vars.length - mf.np) .undef) σ) :=
  bind_eq h (if_eq hl rfl)
theorem cls_eq {k : Kd} {n d : Nat} {args : List V} {σ σ₁ : St} (h : iniTab k = some n) (e : callD tab0 d (.fn n) (.ref k (σ k).length :: args) (σ.push k (.inst [])) = some (.none, σ₁)) :
    callD tab0 (d + 1) (.cls k) args σ = some (.ref k (σ k).length, σ₁) := bind_eq h (bind_eq e rfl)
theorem call_go {n d : Nat} {mf : MF} (m0 : List V) {args : List V} {σ : St} {R : Option (V × St)} (h : fnTab n = some mf) (hl : args.length = mf.np) (hm : args ++ List.replicate (mf.vars.length - mf.np) .undef = m0)
    (h2 : fin (exs (callD tab0 d) mf.body m0 σ) = R) : callD tab0 (d + 1) (.fn n) args σ = R := by
  rw [call_eq h hl, hm, h2]
theorem place_nat {n p : Nat} (h : p < n) : place n (p : Int) = some p := if_eq ⟨Int.natCast_nonneg _, Int.ofNat_lt.mpr h⟩ rfl
theorem okLen_of {n k : Nat} (h : n ≤ k) (hk : Nat.ble k LIM = true) : okLen n = true := decide_eq_true (Nat.le_trans h (Nat.le_of_ble_eq_true hk))
theorem small_of {n k : Nat} (h : n ≤ k) (hk : Nat.ble k 1000000000 = true) : small (n : Int) = true := by
  have := Nat.le_of_ble_eq_true hk
  simp only [small, Bool.and_eq_true, decide_eq_true_eq]; lia
theorem small_sub {a b : Nat} (ha : a ≤ 1000000) (hb : b ≤ 1000000) : small ((a : Int) - b) = true := by
  simp only [small, Bool.and_eq_true, decide_eq_true_eq]; lia
theorem sub_cast {a b : Nat} (h : b ≤ a) : ((a : Int) - b) = ((a - b : Nat) : Int) := (Int.ofNat_sub h).symm
theorem sub_toNat (a b : Nat) : ((a : Int) - b).toNat = a - b := Int.toNat_sub a b
theorem clamp_sub {a b : Nat} (h : b ≤ a) : ((a : Int) - b) = ((a - b : Nat) : Int) := by lia
theorem ok_grow (P : Bw) (M : Mc) (d n : Nat) (hn : n ≤ 100000) (hl : M.stack.length ≤ 100000) :
    callD tab0 (d + 1) (.fn 0) [sref P, .int n] (enc P M) = some (.none, enc P { M with stack := growL M.stack n }) := by
  refine call_go [sref P, .int n, .undef] (n := 0) rfl rfl rfl ?_
  generalize callD tab0 d = cl
  refine fin_step (m' := [sref P, .int n, .int ((n : Int) - M.stack.length)]) (x_asg' (r_bin rfl (r_len rfl (i_stack _ _)) (b_sub rfl)) rfl) ?_
  by_cases h : n ≤ M.stack.length
  · have e : growL M.stack n = M.stack := by unfold growL; rw [Nat.sub_eq_zero_of_le h]; exact List.append_nil _
    rw [e]
    exact fin_skip (t_cmp rfl r_con (c_ngt (by lia))) fin_nil
  · exact fin_step (x_if1 (t_cmp rfl r_con (c_gt (by lia))) (exs_step (x_expr' (r_extend rfl (r_bin (r_lst (r_cons r_con r_nil)) rfl (b_mulL (sub_toNat n M.stack.length) (okLen_of (Nat.le_trans (Nat.sub_le _ _) hn) rfl) (small_sub (Nat.le_trans hn (by decide)) (Nat.le_trans hl (by decide))))) (e_stack _ _) (e_stack _ _) (okLen_of (k := 200000) (by rw [List.length_replicate]; lia) rfl) (s_stack _ _ _))) exs_end)) fin_nil
end Mine
end
section
set_option maxRecDepth 100000
namespace Mine
theorem loopF_inv {b : V → List V → St → Option (Fl × List V × St)} : ∀ (xs : List V) (I : Nat → List V → St → Prop) (m : List V) (s : St), I 0 m s → (∀ j x m s, xs[j]? = some x → I j m s → ∃ m' s', b x m s = some (.next, m', s') ∧ I (j + 1) m' s') →
    ∃ m' s', loopF b xs m s = some (.next, m', s') ∧ I xs.length m' s'
  | [], I, m, s, h, _ => ⟨m, s, rfl, h⟩
  | x :: r, I, m, s, h, hs => by
    obtain ⟨m₁, s₁, e, h₁⟩ := hs 0 x m s rfl h
    unfold loopF
    rw [e]
    exact loopF_inv r (fun j => I (j + 1)) m₁ s₁ h₁ fun j y m s hy hI => hs (j + 1) y m s hy hI
theorem range_get {a e j : Nat} {x : V} (h : (rangeV a e)[j]? = some x) : a + j < e ∧ x = .int ((a + j : Nat) : Int) := by
  have hj := (List.getElem?_eq_some_iff.mp h).1
  rw [rangeV_length] at hj
  rw [rangeV_get hj] at h
  exact ⟨by lia, by cases h; simp⟩
noncomputable def fillL (l : List V) (a e : Nat) : List V := l.mapIdx fun k v => if a ≤ k ∧ k < e then .none else v
theorem fillL_len (l : List V) (a e : Nat) : (fillL l a e).length = l.length := by simp [fillL]
theorem fillL_get (l : List V) (a e k : Nat) : (fillL l a e)[k]? = (l[k]?).map fun v => if a ≤ k ∧ k < e then .none else v := by simp [fillL, List.getElem?_mapIdx]
theorem fillL_nil (l : List V) (a : Nat) : fillL l a a = l := by
  apply List.ext_getElem?; intro k; rw [fillL_get]
  cases h : l[k]? with
  | none => rfl
  | some v => simp; lia
theorem fillL_succ (l : List V) (a e : Nat) (h : a ≤ e) : (fillL l a e).set e .none = fillL l a (e + 1) := by
  apply List.ext_getElem?; intro k
  rw [List.getElem?_set, fillL_get, fillL_get, fillL_len]
  by_cases hk : e = k
  · subst hk
    simp only [if_true]
    cases hl : l[e]? with
    | none => rw [if_neg (by have := List.getElem?_eq_none_iff.mp hl; lia)]; rfl
    | some v => rw [if_pos (List.getElem?_eq_some_iff.mp hl).1]; simp [h]
  · rw [if_neg hk]
    cases l[k]? with
    | none => rfl
    | some v =>
      simp only [Option.map_some, Option.some.injEq]
      by_cases h1 : a ≤ k ∧ k < e
      · rw [if_pos h1, if_pos ⟨h1.1, by lia⟩]
      · rw [if_neg h1, if_neg (by lia)]
theorem growL_len (l : List V) (n : Nat) : (growL l n).length = max l.length n := by simp [growL]; lia
theorem ok_fill (P : Bw) (M : Mc) (d a e : Nat) (hn : e ≤ 100000) (ha : a ≤ e) (hl : M.stack.length ≤ 100000) :
    callD tab0 (d + 2) (.fn 1) [sref P, .int a, .int e] (enc P M) = some (.none, enc P { M with stack := fillL (growL M.stack e) a e }) := by
  have hg := ok_grow P M d e hn hl
  refine call_go [sref P, .int a, .int e, .undef] (n := 1) rfl rfl rfl ?_
  generalize callD tab0 (d + 1) = cl at *
  refine fin_step (m' := [sref P, .int a, .int e, .undef]) (σ' := enc P { M with stack := growL M.stack e }) (x_expr' (r_call r_glob (r_cons rfl (r_cons rfl r_nil)) hg)) ?_
  have hL : e ≤ (growL M.stack e).length := by rw [growL_len]; exact Nat.le_max_right _ _
  generalize growL M.stack e = L at hL
  clear hg hl
  obtain ⟨m', s', h, ⟨u, rfl⟩, rfl⟩ := loopF_inv (b := fun x m τ => (putNm 3 x m).bind fun m₂ => exs cl [.asg (.idx (.loc 0) (.loc 3)) (.con .none)] m₂ τ) (rangeV a e) (fun j m s => (∃ u, m = [sref P, .int a, .int e, u]) ∧ s = enc P { M with stack := fillL L a (a + j) }) [sref P, .int a, .int e, .undef] (enc P { M with stack := L })
    ⟨⟨_, rfl⟩, by rw [Nat.add_zero, fillL_nil]⟩ fun j x m s hx ⟨⟨u, hm⟩, hs⟩ => by
      obtain ⟨h1, rfl⟩ := range_get hx
      subst hm hs
      have h2 : a + j < (fillL L a (a + j)).length := by rw [fillL_len]; exact Nat.lt_of_lt_of_le h1 hL
      rw [← Nat.add_assoc, ← fillL_succ L a (a + j) (Nat.le_add_right _ _)]
      exact ⟨[sref P, .int a, .int e, .int ((a + j : Nat) : Int)], _, bind_eq (a := [sref P, .int a, .int e, .int ((a + j : Nat) : Int)]) (if_eq (Nat.le_of_ble_eq_true rfl) rfl) (exs_step (x_asg' r_con (s_idx rfl rfl (e_stack _ _) h2 (s_stack _ _ _))) exs_end), ⟨_, rfl⟩, rfl⟩
  rw [rangeV_length, sub_toNat, Nat.add_sub_cancel' ha] at h
  exact fin_step (x_forR' rfl rfl (okLen_of (k := 100000) (by rw [sub_toNat]; exact Nat.le_trans (Nat.sub_le _ _) hn) rfl) (small_of (Nat.le_trans ha hn) rfl) (small_of hn rfl) h) fin_nil
end Mine
end
section
set_option maxRecDepth 100000
namespace Mine
theorem int_min (a b : Nat) : (if (b : Int) < a then (b : Int) else a) = ((min a b : Nat) : Int) := by split <;> lia
theorem ok_cut (d : Nat) (σ : St) (func top fixed : Nat) : callD tab0 (d + 1) (.fn 2) [.int func, .int top, .int fixed] σ = some (.int (min top (func + 1 + fixed) : Nat), σ) :=
  call_go [.int func, .int top, .int fixed] (n := 2) rfl rfl rfl (fin_ret (r_min rfl (r_bin (r_bin rfl r_con (b_add rfl)) rfl (b_add rfl)) (int_min top (func + 1 + fixed))))
theorem pos_sub (a b : Nat) : (if (0 : Int) > (a : Int) - b then (0 : Int) else (a : Int) - b) = ((a - b : Nat) : Int) := by split <;> lia
theorem ok_padded (P : Bw) (M : Mc) (d top actual fixed : Nat) (ht : top + (fixed - actual) ≤ 100000) (hl : M.stack.length ≤ 100000) :
    callD tab0 (d + 3) (.fn 3) [sref P, .int top, .int actual, .int fixed] (enc P M) = some (.int (top + (fixed - actual) : Nat), enc P { M with stack := fillL (growL M.stack (top + (fixed - actual))) top (top + (fixed - actual)) }) := by
  have hf := ok_fill P M d top (top + (fixed - actual)) ht (Nat.le_add_right _ _) hl
  refine call_go [sref P, .int top, .int actual, .int fixed, .undef] (n := 3) rfl rfl rfl ?_
  generalize callD tab0 (d + 2) = cl at *
  exact fin_step (m' := [sref P, .int top, .int actual, .int fixed, .int (top + (fixed - actual) : Nat)]) (x_asg' (r_bin rfl (r_max (r_bin rfl rfl (b_sub rfl)) r_con (pos_sub fixed actual)) (b_add rfl)) rfl)
    (fin_step (x_expr' (r_call r_glob (r_cons rfl (r_cons rfl (r_cons rfl r_nil))) hf)) (fin_ret rfl))
noncomputable def liftL (l : List V) (top first n : Nat) : List V := l.mapIdx fun k v => if top ≤ k ∧ k < top + n then (l[first + (k - top)]?).getD .none else if first ≤ k ∧ k < first + n then .none else v
theorem liftL_len (l : List V) (top first n : Nat) : (liftL l top first n).length = l.length := by simp [liftL]
theorem liftL_get (l : List V) (top first n k : Nat) : (liftL l top first n)[k]? = (l[k]?).map fun v => if top ≤ k ∧ k < top + n then (l[first + (k - top)]?).getD .none else if first ≤ k ∧ k < first + n then .none else v := by simp [liftL, List.getElem?_mapIdx]
theorem liftL_nil (l : List V) (top first : Nat) : liftL l top first 0 = l := by
  apply List.ext_getElem?; intro k; rw [liftL_get]
  cases l[k]? with
  | none => rfl
  | some v => simp only [Option.map_some]; rw [if_neg (by lia), if_neg (by lia)]
theorem liftL_succ (l : List V) (top first n : Nat) (h : first + n < top) (hl : top + n < l.length) :
    ((liftL l top first n).set (top + n) ((l[first + n]?).getD .none)).set (first + n) .none = liftL l top first (n + 1) := by
  apply List.ext_getElem?; intro k
  simp only [List.getElem?_set, liftL_get, List.length_set, liftL_len]
  by_cases h1 : first + n = k
  · subst h1
    rw [if_pos rfl, if_pos (by lia), List.getElem?_eq_getElem (by lia : first + n < l.length)]
    simp only [Option.map_some, Option.some.injEq]
    rw [if_neg (by lia), if_pos (by lia)]
  · rw [if_neg h1]
    by_cases h2 : top + n = k
    · subst h2
      rw [if_pos rfl, if_pos (by lia), List.getElem?_eq_getElem hl]
      simp only [Option.map_some, Option.some.injEq]
      rw [if_pos (by lia), show top + n - top = n by lia]
    · rw [if_neg h2]
      cases l[k]? with
      | none => rfl
      | some v =>
        simp only [Option.map_some, Option.some.injEq]
        by_cases h3 : top ≤ k ∧ k < top + n
        · rw [if_pos h3, if_pos (by lia)]
        · rw [if_neg h3, if_neg (c := top ≤ k ∧ k < top + (n + 1)) (by lia)]
          by_cases h4 : first ≤ k ∧ k < first + n
          · rw [if_pos h4, if_pos (by lia)]
          · rw [if_neg h4, if_neg (by lia)]
theorem ok_lifted (P : Bw) (M : Mc) (d top fixed actual : Nat) (ht : top + fixed ≤ 100000) (ha : actual ≤ top) (hf : fixed ≤ actual) (hl : M.stack.length ≤ 100000) :
    callD tab0 (d + 2) (.fn 4) [sref P, .int top, .int fixed, .int actual] (enc P M) = some (.int top, enc P { M with stack := liftL (growL M.stack (top + fixed)) top (top - actual) fixed }) := by
  have hg := ok_grow P M d (top + fixed) ht hl
  have hfx := Nat.le_trans (Nat.le_add_left fixed top) ht
  have hL : top + fixed ≤ (growL M.stack (top + fixed)).length := by rw [growL_len]; exact Nat.le_max_right _ _
  refine call_go [sref P, .int top, .int fixed, .int actual, .undef, .undef] (n := 4) rfl rfl rfl ?_
  generalize callD tab0 (d + 1) = cl at *
  refine fin_step (m' := [sref P, .int top, .int fixed, .int actual, .undef, .undef]) (x_expr' (r_call r_glob (r_cons rfl (r_cons (r_bin rfl rfl (b_add rfl)) r_nil)) hg)) ?_
  clear hg
  generalize growL M.stack (top + fixed) = l₀ at hL ⊢
  refine fin_step (m' := [sref P, .int top, .int fixed, .int actual, .int (top - actual : Nat), .undef]) (σ' := enc P { M with stack := l₀ }) (x_asg' (r_bin rfl rfl (b_sub (sub_cast ha))) rfl) ?_
  have hF2 : top - actual + fixed ≤ top := by clear hL hl ht; lia
  generalize top - actual = first at hF2
  clear hf ha ht hl
  obtain ⟨m', s', h, ⟨u, rfl⟩, rfl⟩ := loopF_inv (b := fun x m τ => (putNm 5 x m).bind fun m₂ => exs cl [.asg (.idx (.loc 0) (.bin .Add (.loc 1) (.loc 5))) (.idx (.loc 0) (.bin .Add (.loc 4) (.loc 5))), .asg (.idx (.loc 0) (.bin .Add (.loc 4) (.loc 5))) (.con .none)] m₂ τ) (rangeV ((0 : Nat) : Int) fixed)
    (fun j m s => (∃ u, m = [sref P, .int top, .int fixed, .int actual, .int first, u]) ∧ s = enc P { M with stack := liftL l₀ top first j }) [sref P, .int top, .int fixed, .int actual, .int first, .undef] (enc P { M with stack := l₀ }) ⟨⟨_, rfl⟩, by rw [liftL_nil]⟩ fun j x m s hx ⟨⟨u, hm⟩, hs⟩ => by
      obtain ⟨h1, rfl⟩ := range_get hx
      subst hm hs
      rw [Nat.zero_add] at h1 ⊢
      clear hx
      have h7 : first + j < l₀.length := by lia
      have h8 : top + j < l₀.length := by lia
      have h4 := liftL_succ l₀ top first j (by lia) h8
      have h5 : (liftL l₀ top first j)[first + j]? = some ((l₀[first + j]?).getD .none) := by
        rw [liftL_get, List.getElem?_eq_getElem h7]
        simp only [Option.map_some, Option.some.injEq]
        rw [if_neg (by lia), if_neg (by lia)]; rfl
      rw [← liftL_len l₀ top first j] at h7 h8
      refine ⟨[sref P, .int top, .int fixed, .int actual, .int first, .int (j : Int)], _, bind_eq (a := [sref P, .int top, .int fixed, .int actual, .int first, .int (j : Int)]) (if_eq (Nat.le_of_ble_eq_true rfl) rfl) (exs_step (x_asg' (r_idx rfl (r_bin rfl rfl (b_add rfl)) (i_stack _ _) (place_nat h7) h5) (s_idx rfl (r_bin rfl rfl (b_add rfl)) (e_stack _ _) h8 (s_stack _ _ _)))
        (exs_step (x_asg' r_con (s_idx rfl (r_bin rfl rfl (b_add rfl)) (e_stack _ _) ?_ (s_stack _ _ _))) exs_end)), ⟨_, rfl⟩, ?_⟩
      · rw [List.length_set]; exact h7
      · rw [← h4]
  rw [rangeV_length] at h
  exact fin_step (x_forR1' rfl (okLen_of (k := 100000) hfx rfl) (small_of hfx rfl) h) (fin_ret rfl)
end Mine
end
section
set_option maxRecDepth 100000
namespace Mine
noncomputable def mvL (l : List V) (goal first n : Nat) : List V := l.mapIdx fun k v => if goal ≤ k ∧ k < goal + n then (l[first + (k - goal)]?).getD .none else v
theorem mvL_len (l : List V) (goal first n : Nat) : (mvL l goal first n).length = l.length := by simp [mvL]
theorem mvL_get (l : List V) (goal first n k : Nat) : (mvL l goal first n)[k]? = (l[k]?).map fun v => if goal ≤ k ∧ k < goal + n then (l[first + (k - goal)]?).getD .none else v := by simp [mvL, List.getElem?_mapIdx]
theorem mvL_nil (l : List V) (goal first : Nat) : mvL l goal first 0 = l := by
  apply List.ext_getElem?; intro k; rw [mvL_get]
  cases l[k]? with
  | none => rfl
  | some v => exact congrArg some (if_neg fun h => Nat.not_lt.mpr h.1 h.2)
theorem mvL_succ (l : List V) (goal first n : Nat) (h : goal ≤ first) (hl : first + n < l.length) :
    (mvL l goal first n).set (goal + n) ((l[first + n]?).getD .none) = mvL l goal first (n + 1) := by
  apply List.ext_getElem?; intro k
  rw [List.getElem?_set, mvL_len, mvL_get, mvL_get]
  by_cases h1 : goal + n = k
  · subst h1
    have h8 := Nat.lt_of_le_of_lt (Nat.add_le_add_right h n) hl
    rw [if_pos rfl, if_pos h8, List.getElem?_eq_getElem h8]
    exact congrArg some ((if_pos ⟨Nat.le_add_right _ _, Nat.lt_succ_self _⟩).trans (by rw [Nat.add_sub_cancel_left])).symm
  · rw [if_neg h1]
    cases l[k]? with
    | none => rfl
    | some v =>
      refine congrArg some ?_
      by_cases h3 : goal ≤ k ∧ k < goal + n
      · exact (if_pos h3).trans (if_pos ⟨h3.1, Nat.lt_succ_of_lt h3.2⟩).symm
      · exact (if_neg h3).trans (if_neg fun q => h3 ⟨q.1, Nat.lt_of_le_of_ne (Nat.le_of_lt_succ q.2) (Ne.symm h1)⟩).symm
theorem mvL_at (l : List V) (goal first n : Nat) (h : goal ≤ first) (hl : first + n < l.length) : (mvL l goal first n)[first + n]? = some ((l[first + n]?).getD .none) := by
  rw [mvL_get, List.getElem?_eq_getElem hl]
  exact congrArg some (if_neg fun q => Nat.not_lt.mpr (Nat.add_le_add_right h n) q.2)
theorem ok_moved_down (P : Bw) (M : Mc) (d first top goal : Nat) (hg : goal ≤ first) (hft : first ≤ top) (ht : top ≤ M.stack.length) (hl : M.stack.length ≤ 100000) :
    callD tab0 (d + 1) (.fn 6) [sref P, .int first, .int top, .int goal] (enc P M) = some (.int (goal + (top - first) : Nat), enc P { M with stack := mvL M.stack goal first (top - first) }) := by
  have htl := Nat.le_trans ht hl
  refine call_go [sref P, .int first, .int top, .int goal, .undef] (n := 6) rfl rfl rfl ?_
  generalize callD tab0 d = cl
  obtain ⟨m', s', h, ⟨u, rfl⟩, rfl⟩ := loopF_inv (b := fun x m τ => (putNm 4 x m).bind fun m₂ => exs cl [.asg (.idx (.loc 0) (.bin .Sub (.bin .Add (.loc 3) (.loc 4)) (.loc 1))) (.idx (.loc 0) (.loc 4))] m₂ τ) (rangeV first top)
    (fun j m s => (∃ u, m = [sref P, .int first, .int top, .int goal, u]) ∧ s = enc P { M with stack := mvL M.stack goal first j }) [sref P, .int first, .int top, .int goal, .undef] (enc P M) ⟨⟨_, rfl⟩, by rw [mvL_nil]⟩ fun j x m s hx ⟨⟨u, hm⟩, hs⟩ => by
      obtain ⟨h1, rfl⟩ := range_get hx
      subst hm hs
      clear hx
      have h7 : first + j < M.stack.length := Nat.lt_of_lt_of_le h1 ht
      have h4 := mvL_succ M.stack goal first j hg h7
      have h5 := mvL_at M.stack goal first j hg h7
      have h8 : goal + j < M.stack.length := Nat.lt_of_le_of_lt (Nat.add_le_add_right hg j) h7
      rw [← mvL_len M.stack goal first j] at h7 h8
      have e2 : (goal : Int) + (first + j : Nat) - first = ((goal + j : Nat) : Int) := by rw [Int.add_sub_assoc, Int.natCast_add first, Int.add_comm (first : Int) j, Int.add_sub_cancel]; rfl
      rw [← h4]
      exact ⟨[sref P, .int first, .int top, .int goal, .int ((first + j : Nat) : Int)], _, bind_eq (a := [sref P, .int first, .int top, .int goal, .int ((first + j : Nat) : Int)]) (if_eq (Nat.le_of_ble_eq_true rfl) rfl)
        (exs_step (x_asg' (r_idx rfl rfl (i_stack _ _) (place_nat h7) h5) (s_idx rfl (r_bin (r_bin rfl rfl (b_add rfl)) rfl (b_sub e2)) (e_stack _ _) h8 (s_stack _ _ _))) exs_end), ⟨_, rfl⟩, rfl⟩
  rw [rangeV_length, sub_toNat] at h
  refine fin_step (x_forR' rfl rfl (okLen_of (k := 100000) (by rw [sub_toNat]; exact Nat.le_trans (Nat.sub_le _ _) htl) rfl) (small_of (Nat.le_trans hft htl) rfl) (small_of htl rfl) h) (fin_ret (r_bin (r_bin rfl rfl (b_add rfl)) rfl (b_sub (by rw [Int.add_sub_assoc, ← Int.ofNat_sub hft]; rfl))))
section
variable {t : List V → St → Option (Bool × St)} {b : List V → St → Option (Fl × List V × St)} {W : Nat} {m m' : List V} {σ σ' : St} {R : Option (Fl × List V × St)}
theorem loopW_done (h : t m σ = some (false, σ')) : loopW t b (W + 1) m σ = some (.next, m, σ') := bind_eq h rfl
theorem loopW_next (h : t m σ = some (true, σ)) (h2 : b m σ = some (.next, m', σ')) (h3 : loopW t b W m' σ' = R) : loopW t b (W + 1) m σ = R := bind_eq h (if_eq rfl (bind_eq h2 h3))
end
theorem loopW_inv {t : List V → St → Option (Bool × St)} {b : List V → St → Option (Fl × List V × St)} (n : Nat) (I : Nat → List V → St → Prop)
    (hs : ∀ j m s, j < n → I j m s → t m s = some (true, s) ∧ ∃ m' s', b m s = some (.next, m', s') ∧ I (j + 1) m' s') (he : ∀ m s, I n m s → t m s = some (false, s)) (k : Nat) :
    ∀ j W m s, j + k = n → k < W → I j m s → ∃ m' s', loopW t b W m s = some (.next, m', s') ∧ I n m' s' := by
  induction k with
  | zero =>
    intro j W m s hj hW h
    obtain rfl : j = n := hj
    cases W with
    | zero => exact absurd hW (Nat.not_lt_zero _)
    | succ W => exact ⟨m, s, loopW_done (he m s h), h⟩
  | succ k ih =>
    intro j W m s hj hW h
    cases W with
    | zero => exact absurd hW (Nat.not_lt_zero _)
    | succ W =>
      obtain ⟨e, m', s', e', h'⟩ := hs j m s (hj ▸ Nat.lt_add_of_pos_right (Nat.succ_pos k)) h
      obtain ⟨m2, s2, e2, h2⟩ := ih (j + 1) W m' s' ((Nat.succ_add_eq_add_succ j k).trans hj) (Nat.lt_of_succ_lt_succ hW) h'
      exact ⟨m2, s2, loopW_next e e' e2, h2⟩
noncomputable def howMany (wanted : Int) (m : Nat) : Nat := if wanted < 0 then m else min wanted.toNat m
noncomputable def endAt (wanted : Int) (goal m : Nat) : Nat := if wanted < 0 then goal + m else goal + wanted.toNat
noncomputable def settledL (l : List V) (goal first m : Nat) (wanted : Int) : List V := fillL (growL (mvL l goal first (howMany wanted m)) (endAt wanted goal m)) (goal + howMany wanted m) (endAt wanted goal m)
theorem howMany_all {wanted : Int} {m : Nat} (h : wanted < 0) : howMany wanted m = m := if_pos h
theorem howMany_min {wanted : Int} {m : Nat} (h : ¬ wanted < 0) : howMany wanted m = min wanted.toNat m := if_neg h
theorem settled_step {wanted : Int} {first top j : Nat} (h : j < howMany wanted (top - first)) : first + j < top ∧ ¬ wanted - j = 0 := by
  by_cases q : wanted < 0
  · rw [howMany_all q] at h
    exact ⟨Nat.add_lt_of_lt_sub' h, fun e => Int.not_lt.mpr (Int.natCast_nonneg j) (Int.eq_of_sub_eq_zero e ▸ q)⟩
  · rw [howMany_min q] at h
    obtain ⟨h1, h2⟩ := Nat.lt_min.mp h
    refine ⟨Nat.add_lt_of_lt_sub' h2, fun e => ?_⟩
    rw [Int.eq_of_sub_eq_zero e, Int.toNat_natCast] at h1
    exact Nat.lt_irrefl _ h1
theorem settled_stop {wanted : Int} {first top : Nat} : ¬ (¬ wanted - howMany wanted (top - first) = 0 ∧ first + howMany wanted (top - first) < top) := by
  have hl : top ≤ first + (top - first) := Nat.sub_le_iff_le_add'.mp (Nat.le_refl _)
  by_cases q : wanted < 0
  · rw [howMany_all q]; exact fun h => Nat.not_lt.mpr hl h.2
  · rw [howMany_min q]
    rcases Nat.le_total wanted.toNat (top - first) with h | h
    · rw [Nat.min_eq_left h, Int.toNat_of_nonneg (Int.not_lt.mp q)]; exact fun h => h.1 (Int.sub_self _)
    · rw [Nat.min_eq_right h]; exact fun h => Nat.not_lt.mpr hl h.2
theorem howMany_le (wanted : Int) (m : Nat) : howMany wanted m ≤ m := by
  by_cases q : wanted < 0
  · rw [howMany_all q]; exact Nat.le_refl _
  · rw [howMany_min q]; exact Nat.min_le_right _ _
theorem howMany_fuel {wanted : Int} (m : Nat) (hm : m ≤ 50000) : howMany wanted m < WF := Nat.lt_of_le_of_lt (Nat.le_trans (howMany_le ..) hm) (by decide)
theorem endAt_nat (w goal m : Nat) : endAt (w : Int) goal m = goal + w := if_neg (Int.not_lt.mpr (Int.natCast_nonneg w))
theorem endAt_all {wanted : Int} {goal m : Nat} (h : ¬ 0 < wanted - howMany wanted m) : endAt wanted goal m = goal + howMany wanted m := by
  by_cases q : wanted < 0
  · rw [howMany_all q]; exact if_pos q
  · rw [howMany_min q] at h ⊢
    refine (if_neg q).trans (congrArg (goal + ·) (Nat.le_antisymm ?_ (Nat.min_le_left _ _)))
    exact Int.toNat_le.mpr (Int.le_of_sub_nonpos (Int.not_lt.mp h))
theorem ok_settled (P : Bw) (M : Mc) (d goal first top : Nat) (wanted : Int) (hw : wanted ≤ 1000) (hg : goal ≤ first) (hft : first ≤ top) (ht : top ≤ M.stack.length) (hl : M.stack.length ≤ 50000) :
    callD tab0 (d + 3) (.fn 5) [sref P, .int goal, .int first, .int top, .int wanted] (enc P M) =
      some (.int (endAt wanted goal (top - first)), enc P { M with stack := settledL M.stack goal first (top - first) wanted }) := by
  refine call_go [sref P, .int goal, .int first, .int top, .int wanted, .undef] (n := 5) rfl rfl rfl ?_
  have hfill := fun M' a e h1 h2 h3 => ok_fill P M' d a e h1 h2 h3
  generalize callD tab0 (d + 2) = cl at *
  refine fin_step (m' := [sref P, .int goal, .int first, .int top, .int wanted, .int wanted]) (x_asg' rfl rfl) ?_
  obtain ⟨m', s', h, rfl, rfl⟩ := loopW_inv (t := evT cl (.bop true [.cmp .NotEq (.loc 5) (.con (.int 0)), .cmp .Lt (.loc 2) (.loc 3)])) (b := exs cl [.asg (.idx (.loc 0) (.loc 1)) (.idx (.loc 0) (.loc 2)), .augL 1 .Add (.con (.int 1)), .augL 2 .Add (.con (.int 1)), .augL 5 .Sub (.con (.int 1))])
    (howMany wanted (top - first)) (fun j m s => (m = [sref P, .int (goal + j : Nat), .int (first + j : Nat), .int top, .int wanted, .int (wanted - j)]) ∧ s = enc P { M with stack := mvL M.stack goal first j }) (fun j m s hj ⟨hm, hs⟩ => by
      subst hm hs
      obtain ⟨hj1, hj2⟩ := settled_step hj
      have h7 : first + j < M.stack.length := Nat.lt_of_lt_of_le hj1 ht
      have h4 := mvL_succ M.stack goal first j hg h7
      have h5 := mvL_at M.stack goal first j hg h7
      have h8 : goal + j < M.stack.length := Nat.lt_of_le_of_lt (Nat.add_le_add_right hg j) h7
      rw [← mvL_len M.stack goal first j] at h7 h8
      rw [← h4]
      refine ⟨t_bop (t_and1 (t_cmp rfl r_con (c_ne hj2)) (t_and1 (t_cmp rfl rfl (c_lt (Int.ofNat_lt.mpr hj1))) rfl)), _, _, exs_step (x_asg' (r_idx rfl rfl (i_stack _ _) (place_nat h7) h5) (s_idx rfl rfl (e_stack _ _) h8 (s_stack _ _ _))) (exs_step (x_addL rfl r_con rfl) (exs_step (x_addL rfl r_con rfl) (exs_step (x_subL rfl r_con ?_) exs_end))), rfl, rfl⟩
      rw [Int.sub_sub]; rfl) (fun m s ⟨hm, hs⟩ => by
      subst hm hs
      have hj' := settled_stop (wanted := wanted) (first := first) (top := top)
      generalize howMany wanted (top - first) = n at hj' ⊢
      by_cases h0 : wanted - n = 0
      · exact t_bop (t_and0 (t_cmp rfl r_con (c_nne h0)))
      · exact t_bop (t_and1 (t_cmp rfl r_con (c_ne h0)) (t_and0 (t_cmp rfl rfl (c_nlt fun q => hj' ⟨h0, Int.ofNat_lt.mp q⟩))))) _ 0 WF [sref P, .int goal, .int first, .int top, .int wanted, .int wanted] (enc P M) (Nat.zero_add _) (howMany_fuel _ (Nat.le_trans (Nat.sub_le _ _) (Nat.le_trans ht hl))) ⟨by rw [Int.natCast_zero, Int.sub_zero]; rfl, by rw [mvL_nil]⟩
  refine fin_step h ?_
  clear h
  have hml := mvL_len M.stack goal first (howMany wanted (top - first))
  have hn := howMany_le wanted (top - first)
  by_cases h0 : 0 < wanted - howMany wanted (top - first)
  · obtain ⟨w, rfl⟩ : ∃ w : Nat, wanted = (w : Int) := ⟨wanted.toNat, (Int.toNat_of_nonneg (Int.le_trans (Int.natCast_nonneg _) (Int.le_of_lt (Int.lt_of_sub_pos h0)))).symm⟩
    unfold settledL
    rw [endAt_nat]
    generalize howMany w (top - first) = n at *
    have hf := hfill { M with stack := mvL M.stack goal first n } (goal + n) (goal + w) (Nat.le_trans (Nat.add_le_add (Nat.le_trans hg (Nat.le_trans hft (Nat.le_trans ht hl))) (show w ≤ 1000 from Int.ofNat_le.mp hw)) (by decide)) (Nat.add_le_add_left (Nat.le_of_lt (Int.ofNat_lt.mp (Int.lt_of_sub_pos h0))) _) (by show (mvL M.stack goal first n).length ≤ _; rw [mvL_len]; exact Nat.le_trans hl (by decide))
    have e1 : (((goal + n : Nat) : Int) + (w - n)) = ((goal + w : Nat) : Int) := by rw [Int.natCast_add, Int.add_assoc, Int.add_comm (n : Int), Int.sub_add_cancel]; rfl
    exact fin_step (x_if1 (t_cmp rfl r_con (c_gt h0)) (exs_step (x_expr' (r_call r_glob (r_cons rfl (r_cons rfl (r_cons (r_bin rfl rfl (b_add e1)) r_nil))) hf)) (exs_step (x_addL rfl rfl e1) exs_end))) (fin_ret rfl)
  · have e2 := endAt_all (goal := goal) h0
    have e3 : settledL M.stack goal first (top - first) wanted = mvL M.stack goal first (howMany wanted (top - first)) := by
      have e4 : goal + howMany wanted (top - first) - (mvL M.stack goal first (howMany wanted (top - first))).length = 0 := Nat.sub_eq_zero_of_le (by rw [hml]; exact Nat.le_trans (Nat.add_le_add hg hn) (Nat.le_trans (Nat.le_of_eq (Nat.add_sub_of_le hft)) ht))
      unfold settledL; rw [e2, fillL_nil]; unfold growL; rw [e4]; exact List.append_nil _
    rw [e2, e3]
    exact fin_step (x_if0 (t_cmp rfl r_con (c_ngt h0)) exs_end) (fin_ret rfl)
end Mine
end
section
set_option maxRecDepth 100000
namespace Mine
theorem ok_plain_base (d : Nat) (σ : St) (func top fixed : Nat) : callD tab0 (d + 2) (.fn 7) [.int func, .int top, .int fixed] σ = some (.tup [.int (func + 1 : Nat), .int (min top (func + 1 + fixed) : Nat)], σ) :=
  call_go [.int func, .int top, .int fixed] (n := 7) rfl rfl rfl (fin_ret (r_tup (r_cons (r_bin rfl r_con (b_add rfl)) (r_cons (r_call r_glob (r_cons rfl (r_cons rfl (r_cons rfl r_nil))) (ok_cut d σ func top fixed)) r_nil))))
theorem int_max (a b : Nat) : (if (b : Int) > a then (b : Int) else a) = ((max a b : Nat) : Int) := by
  by_cases h : (b : Int) > a
  · rw [if_pos h, Nat.max_eq_right (Nat.le_of_lt (Int.ofNat_lt.mp h))]
  · rw [if_neg h, Nat.max_eq_left (Int.ofNat_le.mp (Int.not_lt.mp h))]
theorem ok_told_all (P : Bw) (M : Mc) (d top actual fixed : Nat) (ht : top + (fixed - actual) ≤ 100000) (hl : M.stack.length ≤ 100000) :
    callD tab0 (d + 4) (.fn 8) [sref P, .int top, .int actual, .int fixed] (enc P M) =
      some (.tup [.int (top + (fixed - actual) : Nat), .int (max actual fixed : Nat)], enc P { M with stack := fillL (growL M.stack (top + (fixed - actual))) top (top + (fixed - actual)) }) :=
  call_go [sref P, .int top, .int actual, .int fixed] (n := 8) rfl rfl rfl (fin_ret (r_tup (r_cons (r_call r_glob (r_cons rfl (r_cons rfl (r_cons rfl (r_cons rfl r_nil)))) (ok_padded P M d top actual fixed ht hl)) (r_cons (r_max rfl rfl (int_max actual fixed)) r_nil))))
theorem ok_open_base (P : Bw) (M : Mc) (d top fixed actual : Nat) (ht : top + fixed ≤ 100000) (ha : actual ≤ top) (hf : fixed ≤ actual) (hl : M.stack.length ≤ 100000) :
    callD tab0 (d + 3) (.fn 9) [sref P, .int top, .int fixed, .int actual] (enc P M) = some (.tup [.int top, .int (top + fixed : Nat)], enc P { M with stack := liftL (growL M.stack (top + fixed)) top (top - actual) fixed }) :=
  call_go [sref P, .int top, .int fixed, .int actual, .undef] (n := 9) rfl rfl rfl
    (fin_step (m' := [sref P, .int top, .int fixed, .int actual, .int top]) (x_asg' (r_call r_glob (r_cons rfl (r_cons rfl (r_cons rfl (r_cons rfl r_nil)))) (ok_lifted P M d top fixed actual ht ha hf hl)) rfl) (fin_ret (r_tup (r_cons rfl (r_cons (r_bin rfl rfl (b_add rfl)) r_nil)))))
theorem ok_with_registers (P : Bw) (M : Mc) (d top e : Nat) (hn : e ≤ 100000) (ha : top ≤ e) (hl : M.stack.length ≤ 100000) :
    callD tab0 (d + 3) (.fn 10) [sref P, .int top, .int e] (enc P M) = some (.int e, enc P { M with stack := fillL (growL M.stack e) top e }) :=
  call_go [sref P, .int top, .int e] (n := 10) rfl rfl rfl (fin_step (x_expr' (r_call r_glob (r_cons rfl (r_cons rfl (r_cons rfl r_nil))) (ok_fill P M d top e hn ha hl))) (fin_ret rfl))
noncomputable abbrev frO (func base top : Nat) (wanted : Int) (tails : Int) : MObj := .inst [.int func, .int base, .int top, .int wanted, .int 0, .int tails, .bool false]
theorem ok_frame (P : Bw) (M : Mc) (d : Nat) (func base top : Nat) (wanted : Int) :
    callD tab0 (d + 2) (.cls .frame) [.int func, .int base, .int top, .int wanted] (enc P M) = some (.ref .frame M.fr.length, enc P { M with fr := M.fr ++ [frO func base top wanted 0] }) := by
  refine cls_eq (k := .frame) (n := 16) rfl ?_
  rw [p_fr]
  exact call_go [.ref .frame M.fr.length, .int func, .int base, .int top, .int wanted] (n := 16) rfl rfl rfl (fin_step (x_asg' rfl (s_attrN rfl (f_new P M _) rfl (f_newS P M _ _))) (fin_step (x_asg' rfl (s_attrN rfl (f_new P M _) rfl (f_newS P M _ _))) (fin_step (x_asg' rfl (s_attrN rfl (f_new P M _) rfl (f_newS P M _ _)))
    (fin_step (x_asg' rfl (s_attrN rfl (f_new P M _) rfl (f_newS P M _ _))) (fin_step (x_asg' r_con (s_attrN rfl (f_new P M _) rfl (f_newS P M _ _))) (fin_step (x_asg' r_con (s_attrN rfl (f_new P M _) rfl (f_newS P M _ _))) (fin_step (x_asg' r_con (s_attrN rfl (f_new P M _) rfl (f_newS P M _ _))) fin_nil)))))))
theorem last_of {l fs : List V} {x : V} (h : l = fs ++ [x]) : l.getLast? = some x ∧ l.dropLast = fs := by rw [h]; exact ⟨List.getLast?_concat, List.dropLast_concat⟩
theorem is_all (w : Int) (σ : St) : cmpop σ .NotEq (deref σ (.int w)) (deref σ (.int (-1))) = some (!(w == -1)) := rfl
theorem ok_left_behind (P : Bw) (M : Mc) (d : Nat) (fs : List V) (j func base tp first top : Nat) (wanted tails : Int) (hfs : M.frames = fs ++ [.ref .frame j]) (hj : M.fr[j]? = some (frO func base tp wanted tails))
    (hw : wanted ≤ 1000) (hg : func ≤ first) (hft : first ≤ top) (ht : top ≤ M.stack.length) (hl : M.stack.length ≤ 50000) :
    callD tab0 (d + 4) (.fn 11) [sref P, .ref .frames (P.n .frames), .int first, .int top] (enc P M) =
      some (.tup [.int (endAt wanted func (top - first)), .bool (!(wanted == -1))], enc P { M with stack := settledL M.stack func first (top - first) wanted, frames := fs }) := by
  have h := ok_settled P { M with frames := fs } d func first top wanted hw hg hft ht hl
  refine call_go [sref P, .ref .frames (P.n .frames), .int first, .int top, .undef] (n := 11) rfl rfl rfl ?_
  generalize callD tab0 (d + 3) = cl at *
  exact fin_step (m' := [sref P, .ref .frames (P.n .frames), .int first, .int top, .ref .frame j]) (σ' := enc P { M with frames := fs }) (x_asg' (r_pop rfl (e_frames _ _) (last_of hfs).1 (s_frames' (last_of hfs).2)) rfl)
    (fin_ret (r_tup (r_cons (r_call r_glob (r_cons rfl (r_cons (r_attr rfl (f_at hj) rfl) (r_cons rfl (r_cons rfl (r_cons (r_attr rfl (f_at hj) rfl) r_nil))))) h) (r_cons (r_cmp (r_attr rfl (f_at (by exact hj)) rfl) r_glob (is_all wanted _)) r_nil))))
theorem place_last {n : Nat} : place (n + 1) (-1) = some n := by
  refine (if_neg fun h => absurd h.1 (by decide)).trans ((if_pos ⟨by decide, Int.neg_le_neg (Int.ofNat_le.mpr (Nat.succ_le_succ (Nat.zero_le n)))⟩).trans (congrArg some ?_))
  show (((n : Int) + 1) + -1).toNat = n
  rw [Int.add_neg_cancel_right, Int.toNat_natCast]
theorem place_end {α : Type} (l : List α) (x : α) : place (l ++ [x]).length (-1) = some l.length := by rw [List.length_append]; exact place_last
theorem at_last (l : List V) (x : V) : (l ++ [x])[l.length]? = some x := List.getElem?_concat_length
theorem ok_top_behind (P : Bw) (M : Mc) (d : Nat) (fs : List V) (j func base tp top : Nat) (w wanted tails : Int) (hfs : M.frames = fs ++ [.ref .frame j]) (hj : M.fr[j]? = some (frO func base tp w tails)) :
    callD tab0 (d + 1) (.fn 12) [.ref .frames (P.n .frames), .int wanted, .int top] (enc P M) = some (.int (if wanted = -1 then top else tp), enc P M) := by
  refine call_go [.ref .frames (P.n .frames), .int wanted, .int top] (n := 12) rfl rfl rfl ?_
  by_cases h : wanted = -1
  · rw [if_pos h]
    exact fin_ret (r_iteT (t_cmp rfl r_glob (c_eq h)) rfl)
  · rw [if_neg h]
    exact fin_ret (r_iteF (t_cmp rfl r_glob (c_neq h)) (r_attr (r_idx rfl (r_neg r_con) (i_frames _ _) (hfs ▸ place_end fs _) (hfs ▸ at_last fs _)) (f_at hj) rfl))
theorem ok_stood_in (P : Bw) (M : Mc) (d : Nat) (fs : List V) (j j' func base tp func' base' tp' top : Nat) (wanted tails wanted' tails' : Int) (hne : j ≠ j') (hfs : M.frames = fs ++ [.ref .frame j, .ref .frame j']) (hj : M.fr[j]? = some (frO func base tp wanted tails))
    (hj' : M.fr[j']? = some (frO func' base' tp' wanted' tails')) (hg : func ≤ func') (hb : func' ≤ base') (hft : func' ≤ top) (ht : top ≤ M.stack.length) (hl : M.stack.length ≤ 100000) :
    callD tab0 (d + 2) (.fn 13) [sref P, .ref .frames (P.n .frames), .int top] (enc P M) =
      some (.int (func + (top - func') : Nat), enc P { M with stack := mvL M.stack func func' (top - func'), frames := fs ++ [.ref .frame j], fr := M.fr.set j (frO func (func + (base' - func')) (func + (top - func')) wanted (tails + 1)) }) := by
  have hjl : j < M.fr.length := (List.getElem?_eq_some_iff.mp hj).1
  have hs : ∀ o, (M.fr.set j o)[j]? = some o := fun o => by rw [List.getElem?_set, if_pos rfl, if_pos hjl]
  have hs' : ∀ o, (M.fr.set j o)[j']? = some (frO func' base' tp' wanted' tails') := fun o => by rw [List.getElem?_set, if_neg hne, hj']
  have h := ok_moved_down P { M with frames := fs ++ [.ref .frame j], fr := M.fr.set j (frO func (func + (base' - func')) tp wanted tails) } d func' top func hg hft ht hl
  have e1 : ((func : Int) + base') - func' = ((func + (base' - func') : Nat) : Int) := by rw [Int.add_sub_assoc, ← Int.ofNat_sub hb]; rfl
  have hd := last_of (l := M.frames) (fs := fs ++ [.ref .frame j]) (x := .ref .frame j') (by rw [hfs, List.append_assoc]; rfl)
  clear hfs hjl hl ht hft hb hg
  generalize func + (base' - func') = b at h e1
  generalize func + (top - func') = t at h
  refine call_go [sref P, .ref .frames (P.n .frames), .int top, .undef, .undef] (n := 13) rfl rfl rfl ?_
  generalize callD tab0 (d + 1) = cl at *
  refine fin_step (m' := [sref P, .ref .frames (P.n .frames), .int top, .ref .frame j', .undef]) (σ' := enc P { M with frames := fs ++ [.ref .frame j] }) (x_asg' (r_pop rfl (e_frames _ _) hd.1 (s_frames' hd.2)) rfl) ?_
  refine fin_step (m' := [sref P, .ref .frames (P.n .frames), .int top, .ref .frame j', .ref .frame j]) (x_asg' (r_idx rfl (r_neg r_con) (i_frames _ _) (place_end fs _) (at_last fs _)) rfl) ?_
  refine fin_step (x_asg' (r_bin (r_bin (r_attr rfl (f_at hj) rfl) (r_attr rfl (f_at hj') rfl) (b_add rfl)) (r_attr rfl (f_at hj') rfl) (b_sub e1)) (s_attr rfl (f_at hj) rfl (s_fr P _ _ _))) ?_
  refine fin_step (x_asg' (r_call r_glob (r_cons rfl (r_cons (r_attr rfl (f_at (hs' _)) rfl) (r_cons rfl (r_cons (r_attr rfl (f_at (hs _)) rfl) r_nil)))) h) (s_attr rfl (f_at (hs _)) rfl (f_setS (M := { M with stack := _, frames := _ })))) ?_
  refine fin_step (x_asg' (r_attr rfl (f_at (hs' _)) rfl) (s_attr rfl (f_at (hs _)) rfl (f_setS (M := { M with stack := _, frames := _ })))) ?_
  refine fin_step (x_addA rfl (f_at (hs _)) rfl r_con (f_at (hs _)) rfl (f_setS (M := { M with stack := _, frames := _ }))) ?_
  exact fin_ret (r_attr rfl (f_at (hs _)) rfl)
theorem ok_unwound (P : Bw) (M : Mc) (d dep : Nat) (hl : M.frames.length ≤ 50000) :
    callD tab0 (d + 1) (.fn 14) [.ref .frames (P.n .frames), .int dep] (enc P M) = some (.none, enc P { M with frames := M.frames.take dep }) := by
  refine call_go [.ref .frames (P.n .frames), .int dep] (n := 14) rfl rfl rfl ?_
  generalize callD tab0 d = cl
  have hge : M.frames.length ≤ M.frames.length - dep + dep := Nat.sub_le_iff_le_add.mp (Nat.le_refl _)
  obtain ⟨m', s', h, rfl, fr, rfl, hl, ht⟩ := loopW_inv (t := evT cl (.cmp .Gt (.len (.loc 0)) (.loc 1))) (b := exs cl [.expr (.pop (.loc 0))]) (M.frames.length - dep) (fun j m s => m = [.ref .frames (P.n .frames), .int dep] ∧ ∃ fr, s = enc P { M with frames := fr } ∧ j + fr.length = M.frames.length ∧ fr.take dep = M.frames.take dep) (fun j m s hj ⟨hm, fr, hs, h1, h2⟩ => by
      subst hm hs
      have e5 : dep < fr.length := Nat.lt_of_add_lt_add_left (h1.symm ▸ Nat.add_lt_of_lt_sub hj)
      have ne : fr ≠ [] := List.ne_nil_of_length_pos (Nat.zero_lt_of_lt e5)
      obtain ⟨fr, y, rfl⟩ : ∃ fr' y, fr = fr' ++ [y] := ⟨fr.dropLast, fr.getLast ne, (List.dropLast_concat_getLast ne).symm⟩
      have hd := last_of (l := fr ++ [y]) (fs := fr) (x := y) rfl
      have e6 : dep < fr.length + 1 := List.length_append (as := fr) (bs := [y]) ▸ e5
      exact ⟨t_cmp (r_len rfl (i_frames _ _)) rfl (c_gt (Int.ofNat_lt.mpr e5)), _, _, exs_step (x_expr' (r_pop rfl (e_frames _ _) hd.1 (s_frames' hd.2))) exs_end, rfl, fr, rfl, by rw [← h1, List.length_append, Nat.add_right_comm]; rfl, by rw [← h2, List.take_append_of_le_length (Nat.le_of_lt_succ e6)]⟩) (fun m s ⟨hm, fr, hs, h1, h2⟩ => by
      subst hm hs
      exact t_cmp (r_len rfl (i_frames _ _)) rfl (c_ngt fun q => Nat.not_lt.mpr hge (Nat.lt_of_lt_of_eq (Nat.add_lt_add_left (Int.ofNat_lt.mp q) _) h1))) _ 0 WF _ (enc P M) (Nat.zero_add _) (Nat.lt_of_le_of_lt (Nat.le_trans (Nat.sub_le _ _) hl) (by decide)) ⟨rfl, M.frames, rfl, Nat.zero_add _, rfl⟩
  have e : fr.length ≤ dep := Nat.le_of_add_le_add_left (a := M.frames.length - dep) (Nat.le_trans (Nat.le_of_eq hl) hge)
  rw [List.take_of_length_le e] at ht
  subst ht
  exact fin_step h fin_nil
end Mine
end
section
set_option maxRecDepth 100000
namespace Mine
noncomputable abbrev gref (P : Bw) : V := .ref .ground (P.n .ground)
noncomputable abbrev uref (i : Nat) : V := .ref .upval i
noncomputable abbrev opU (P : Bw) (p : Nat) : MObj := .inst [.int 0, .int 0, .int 4, .ref .ground (P.n .ground), .int p, .none]
noncomputable abbrev clU (v : V) : MObj := .inst [.int 0, .int 0, .int 4, .none, .int (-1), v]
theorem deref_ref {σ : St} {k : Kd} {i : Nat} (h : σ.lst k i = Option.none) : deref σ (.ref k i) = .ref k i := by
  show (match σ.lst k i with | some vs => V.lst vs | Option.none => V.ref k i) = _
  rw [h]
theorem is_ref {σ : St} {k : Kd} {i : Nat} (h : σ.lst k i = Option.none) : cmpop σ .Is (deref σ (.ref k i)) (deref σ .none) = some false ∧ cmpop σ .IsNot (deref σ (.ref k i)) (deref σ .none) = some true := by
  rw [deref_ref h]; exact ⟨rfl, rfl⟩
theorem is_gro (P : Bw) (M : Mc) : cmpop (enc P M) .Is (deref (enc P M) (gref P)) (deref (enc P M) .none) = some false ∧ cmpop (enc P M) .IsNot (deref (enc P M) (gref P)) (deref (enc P M) .none) = some true :=
  is_ref (by unfold St.lst; show (match (P.pre .ground ++ [_])[(P.pre .ground).length]? with | some (.list vs) => some vs | _ => Option.none) = _; rw [at_end])
theorem ok_upval (P : Bw) (M : Mc) (d p : Nat) :
    callD tab0 (d + 3) (.cls .upval) [gref P, .int p] (enc P M) = some (uref M.up.length, enc P { M with up := M.up ++ [opU P p] }) := by
  have e0 : callD tab0 (d + 1) (.fn 15) [uref M.up.length, .int 0, .int 4] (enc P { M with up := M.up ++ [.inst []] }) = some (.none, enc P { M with up := M.up ++ [.inst [.int 0, .int 0, .int 4]] }) :=
    call_go [uref M.up.length, .int 0, .int 4] (n := 15) rfl rfl rfl (fin_step (x_asg' rfl (s_attrN rfl (u_new P M _) rfl (u_newS P M _ _))) (fin_step (x_asg' r_con (s_attrN rfl (u_new P M _) rfl (u_newS P M _ _))) (fin_step (x_asg' rfl (s_attrN rfl (u_new P M _) rfl (u_newS P M _ _))) fin_nil)))
  refine cls_eq (k := .upval) (n := 17) rfl ?_
  rw [p_up]
  exact call_go [uref M.up.length, gref P, .int p] (n := 17) rfl rfl rfl (fin_step (x_expr' (r_cmeth (r_cons rfl (r_cons r_con (r_cons r_glob r_nil))) e0)) (fin_step (x_asg' rfl (s_attrN rfl (u_new P M _) rfl (u_newS P M _ _))) (fin_step (x_asg' rfl (s_attrN rfl (u_new P M _) rfl (u_newS P M _ _)))
    (fin_step (x_asg' r_con (s_attrN rfl (u_new P M _) rfl (u_newS P M _ _))) fin_nil))))
theorem ok_get_o (P : Bw) (M : Mc) (d i p : Nat) (v : V) (hi : M.up[i]? = some (opU P p)) (hv : M.stack[p]? = some v) : callD tab0 (d + 1) (.fn 18) [uref i] (enc P M) = some (v, enc P M) := by
  have hp := (List.getElem?_eq_some_iff.mp hv).1
  exact call_go [uref i] (n := 18) rfl rfl rfl (fin_skip (t_cmp (r_attr rfl (u_at hi) rfl) r_con (is_gro P M).1) (fin_ret (r_idx (r_attr (r_attr rfl (u_at hi) rfl) (e_gro P M) rfl) (r_attr rfl (u_at hi) rfl) (i_stack _ _) (place_nat hp) hv)))
theorem ok_get_c (P : Bw) (M : Mc) (d i : Nat) (v : V) (hi : M.up[i]? = some (clU v)) : callD tab0 (d + 1) (.fn 18) [uref i] (enc P M) = some (v, enc P M) :=
  call_go [uref i] (n := 18) rfl rfl rfl (fin_ifR (t_cmp (r_attr rfl (u_at hi) rfl) r_con rfl) (exs_ret (r_attr rfl (u_at hi) rfl)))
theorem ok_set_o (P : Bw) (M : Mc) (d i p : Nat) (v : V) (hv : v ≠ .undef) (hi : M.up[i]? = some (opU P p)) (hp : p < M.stack.length) : callD tab0 (d + 1) (.fn 19) [uref i, v] (enc P M) = some (.none, enc P { M with stack := M.stack.set p v }) :=
  call_go [uref i, v] (n := 19) rfl rfl rfl (fin_step (x_if0 (t_cmp (r_attr rfl (u_at hi) rfl) r_con (is_gro P M).1) (exs_step (x_asg' (r_locu rfl hv) (s_idx (r_attr (r_attr rfl (u_at hi) rfl) (e_gro P M) rfl) (r_attr rfl (u_at hi) rfl) (e_stack _ _) hp (s_stack _ _ _))) exs_end)) fin_nil)
theorem ok_set_c (P : Bw) (M : Mc) (d i : Nat) (v w : V) (hv : v ≠ .undef) (hi : M.up[i]? = some (clU w)) : callD tab0 (d + 1) (.fn 19) [uref i, v] (enc P M) = some (.none, enc P { M with up := M.up.set i (clU v) }) :=
  call_go [uref i, v] (n := 19) rfl rfl rfl (fin_step (x_if1 (t_cmp (r_attr rfl (u_at hi) rfl) r_con rfl) (exs_step (x_asg' (r_locu rfl hv) (s_attr rfl (u_at hi) rfl (s_up _ _ _ _))) exs_end)) fin_nil)
theorem ok_close (P : Bw) (M : Mc) (d i p : Nat) (v : V) (hi : M.up[i]? = some (opU P p)) (hv : M.stack[p]? = some v) : callD tab0 (d + 1) (.fn 20) [uref i] (enc P M) = some (.none, enc P { M with up := M.up.set i (clU v) }) := by
  have hp := (List.getElem?_eq_some_iff.mp hv).1
  have hil := (List.getElem?_eq_some_iff.mp hi).1
  have hs : ∀ o, (M.up.set i o)[i]? = some o := fun o => by rw [List.getElem?_set, if_pos rfl, if_pos hil]
  exact call_go [uref i] (n := 20) rfl rfl rfl (fin_step (x_if1 (t_cmp (r_attr rfl (u_at hi) rfl) r_con (is_gro P M).2) (exs_step (x_asg' (r_idx (r_attr (r_attr rfl (u_at hi) rfl) (e_gro P M) rfl) (r_attr rfl (u_at hi) rfl) (i_stack _ _) (place_nat hp) hv) (s_attr rfl (u_at hi) rfl (s_up _ _ _ _)))
    (exs_step (x_asg' r_con (s_attr rfl (u_at (hs _)) rfl (u_setS (M := M)))) (exs_step (x_asg' (r_neg r_con) (s_attr rfl (u_at (hs _)) rfl (u_setS (M := M)))) exs_end)))) fin_nil)
structure OpsOk (P : Bw) (M : Mc) (ops : List (Nat × Nat)) : Prop where
  opens : M.opens = ops.map fun q => uref q.1
  up : ∀ q ∈ ops, M.up[q.1]? = some (opU P q.2)
  nodup : (ops.map (·.1)).Nodup
  few : ops.length ≤ 50000
noncomputable def spot (ops : List (Nat × Nat)) (index : Nat) : Nat := (ops.takeWhile fun q => decide (index < q.2)).length
theorem spot_le (ops : List (Nat × Nat)) (index : Nat) : spot ops index ≤ ops.length := by unfold spot; exact (List.takeWhile_sublist _).length_le
theorem spot_lt : ∀ (ops : List (Nat × Nat)) (index j : Nat), j < spot ops index → ∃ q, ops[j]? = some q ∧ index < q.2
  | [], index, j, h => by simp [spot] at h
  | q :: r, index, j, h => by
    unfold spot at h
    rw [List.takeWhile_cons] at h
    by_cases hq : index < q.2
    · rw [if_pos (decide_eq_true hq)] at h
      cases j with
      | zero => exact ⟨q, rfl, hq⟩
      | succ j => exact spot_lt r index j (by simpa [spot] using h)
    · rw [if_neg (by simpa using hq)] at h; simp at h
theorem spot_at : ∀ (ops : List (Nat × Nat)) (index : Nat) (q : Nat × Nat), ops[spot ops index]? = some q → q.2 ≤ index
  | [], index, q, h => by simp at h
  | p :: r, index, q, h => by
    unfold spot at h
    rw [List.takeWhile_cons] at h
    by_cases hq : index < p.2
    · rw [if_pos (decide_eq_true hq)] at h
      exact spot_at r index q (by simpa [spot] using h)
    · rw [if_neg (by simpa using hq)] at h; simp at h; subst h; lia
theorem OpsOk.at {P : Bw} {M : Mc} {ops : List (Nat × Nat)} (O : OpsOk P M ops) {j : Nat} {q : Nat × Nat} (h : ops[j]? = some q) : M.opens[j]? = some (uref q.1) ∧ M.up[q.1]? = some (opU P q.2) ∧ j < M.opens.length := by
  have h4 : M.opens[j]? = some (uref q.1) := by rw [O.opens, List.getElem?_map, h]; rfl
  exact ⟨h4, O.up q (List.mem_of_getElem? h), (List.getElem?_eq_some_iff.mp h4).1⟩
theorem OpsOk.len {P : Bw} {M : Mc} {ops : List (Nat × Nat)} (O : OpsOk P M ops) : M.opens.length = ops.length := by rw [O.opens, List.length_map]
theorem ok_spot_of (P : Bw) (M : Mc) (d index : Nat) (ops : List (Nat × Nat)) (O : OpsOk P M ops) :
    callD tab0 (d + 1) (.fn 25) [gref P, .int index] (enc P M) = some (.int (spot ops index), enc P M) := by
  refine call_go [gref P, .int index, .undef] (n := 25) rfl rfl rfl ?_
  generalize callD tab0 d = cl
  refine fin_step (m' := [gref P, .int index, .int 0]) (x_asg' r_con rfl) ?_
  obtain ⟨m', s', h, rfl, rfl⟩ := loopW_inv (t := evT cl (.bop true [.cmp .Lt (.loc 2) (.len (.attr (.loc 0) .ground 1)), .cmp .Gt (.attr (.idx (.attr (.loc 0) .ground 1) (.loc 2)) .upval 4) (.loc 1)])) (b := exs cl [.augL 2 .Add (.con (.int 1))])
    (spot ops index) (fun j m s => m = [gref P, .int index, .int (j : Nat)] ∧ s = enc P M) (fun j m s hj ⟨hm, hs⟩ => by
      subst hm hs
      obtain ⟨q, h1, h2⟩ := spot_lt ops index j hj
      obtain ⟨h4, h3, h5⟩ := O.at h1
      exact ⟨t_bop (t_and1 (t_cmp rfl (r_len (r_attr rfl (e_gro P M) rfl) (i_opens _ _)) (c_lt (Int.ofNat_lt.mpr h5))) (t_and1 (t_cmp (r_attr (r_idx (r_attr rfl (e_gro P M) rfl) rfl (i_opens _ _) (place_nat h5) h4) (u_at h3) rfl) rfl (c_gt (Int.ofNat_lt.mpr h2))) rfl)), _, _, exs_step (x_addL rfl r_con rfl) exs_end, rfl, rfl⟩) (fun m s ⟨hm, hs⟩ => by
      subst hm hs
      by_cases h5 : spot ops index < ops.length
      · have h1 := List.getElem?_eq_getElem h5
        have h2 := spot_at ops index _ h1
        obtain ⟨h4, h3, h5⟩ := O.at h1
        exact t_bop (t_and1 (t_cmp rfl (r_len (r_attr rfl (e_gro P M) rfl) (i_opens _ _)) (c_lt (Int.ofNat_lt.mpr h5))) (t_and0 (t_cmp (r_attr (r_idx (r_attr rfl (e_gro P M) rfl) rfl (i_opens _ _) (place_nat h5) h4) (u_at h3) rfl) rfl (c_ngt fun z => Nat.not_lt.mpr h2 (Int.ofNat_lt.mp z)))))
      · exact t_bop (t_and0 (t_cmp rfl (r_len (r_attr rfl (e_gro P M) rfl) (i_opens _ _)) (c_nlt fun z => h5 (by rw [← O.len]; exact Int.ofNat_lt.mp z))))) _ 0 WF [gref P, .int index, .int 0] (enc P M) (Nat.zero_add _) (Nat.lt_of_le_of_lt (Nat.le_trans (spot_le ops index) O.few) (by decide)) ⟨rfl, rfl⟩
  exact fin_step h (fin_ret rfl)
theorem ok_open_at (P : Bw) (M : Mc) (d index : Nat) (ops : List (Nat × Nat)) (O : OpsOk P M ops) :
    callD tab0 (d + 2) (.fn 26) [gref P, .int index] (enc P M) = some ((match ops[spot ops index]? with | some q => if q.2 = index then uref q.1 else .none | Option.none => .none), enc P M) := by
  refine call_go [gref P, .int index, .undef] (n := 26) rfl rfl rfl ?_
  refine fin_step (m' := [gref P, .int index, .int (spot ops index)]) (x_asg' (r_call r_glob (r_cons rfl (r_cons rfl r_nil)) (ok_spot_of P M d index ops O)) rfl) ?_
  generalize callD tab0 (d + 1) = cl
  by_cases h5 : spot ops index < ops.length
  · have h1 := List.getElem?_eq_getElem h5
    obtain ⟨h4, h3, h5'⟩ := O.at h1
    generalize ops[spot ops index] = q at h1 h3 h4
    rw [h1]
    by_cases h6 : q.2 = index
    · show _ = some (if q.2 = index then uref q.1 else .none, enc P M)
      rw [if_pos h6]
      exact fin_ifR (t_bop (t_and1 (t_cmp rfl (r_len (r_attr rfl (e_gro P M) rfl) (i_opens _ _)) (c_lt (Int.ofNat_lt.mpr h5'))) (t_and1 (t_cmp (r_attr (r_idx (r_attr rfl (e_gro P M) rfl) rfl (i_opens _ _) (place_nat h5') h4) (u_at h3) rfl) rfl (c_eq (congrArg Int.ofNat h6))) rfl))) (exs_ret (r_idx (r_attr rfl (e_gro P M) rfl) rfl (i_opens _ _) (place_nat h5') h4))
    · show _ = some (if q.2 = index then uref q.1 else .none, enc P M)
      rw [if_neg h6]
      exact fin_skip (t_bop (t_and1 (t_cmp rfl (r_len (r_attr rfl (e_gro P M) rfl) (i_opens _ _)) (c_lt (Int.ofNat_lt.mpr h5'))) (t_and0 (t_cmp (r_attr (r_idx (r_attr rfl (e_gro P M) rfl) rfl (i_opens _ _) (place_nat h5') h4) (u_at h3) rfl) rfl (c_neq fun z => h6 (Int.ofNat_inj.mp z)))))) (fin_ret r_con)
  · rw [List.getElem?_eq_none_iff.mpr (Nat.not_lt.mp h5)]
    exact fin_skip (t_bop (t_and0 (t_cmp rfl (r_len (r_attr rfl (e_gro P M) rfl) (i_opens _ _)) (c_nlt fun z => h5 (by rw [← O.len]; exact Int.ofNat_lt.mp z))))) (fin_ret r_con)
theorem ok_put_open (P : Bw) (M : Mc) (d i index : Nat) (ops : List (Nat × Nat)) (O : OpsOk P M ops) (hi : M.up[i]? = some (opU P index)) :
    callD tab0 (d + 2) (.fn 27) [gref P, uref i] (enc P M) = some (.none, enc P { M with opens := (ops.take (spot ops index) ++ (i, index) :: ops.drop (spot ops index)).map fun q => uref q.1 }) := by
  have h1 := spot_le ops index
  refine call_go [gref P, uref i] (n := 27) rfl rfl rfl (fin_step (x_expr' (r_insert (r_attr rfl (e_gro P M) rfl) (r_call r_glob (r_cons rfl (r_cons (r_attr rfl (u_at hi) rfl) r_nil)) (ok_spot_of P M d index ops O)) rfl (e_opens _ _) (e_opens _ _) ⟨Int.natCast_nonneg _, Int.ofNat_le.mpr (O.len ▸ h1), okLen_of (k := 50001) (by rw [O.len]; exact Nat.succ_le_succ O.few) rfl⟩ ?_)) fin_nil)
  rw [Int.toNat_natCast, s_opens, O.opens, List.map_append, List.map_cons, List.map_take, List.map_drop]
noncomputable def addO (ops : List (Nat × Nat)) (i index : Nat) : List (Nat × Nat) := ops.take (spot ops index) ++ (i, index) :: ops.drop (spot ops index)
theorem is_none (σ : St) : cmpop σ .Is (deref σ .none) (deref σ .none) = some true := rfl
theorem is_up {P : Bw} {M : Mc} {i : Nat} {vs : List V} (h : M.up[i]? = some (.inst vs)) : cmpop (enc P M) .Is (deref (enc P M) (uref i)) (deref (enc P M) .none) = some false :=
  (is_ref (by unfold St.lst; show (match M.up[i]? with | some (.list vs) => some vs | _ => Option.none) = _; rw [h])).1
theorem ok_find_old (P : Bw) (M : Mc) (d index : Nat) (ops : List (Nat × Nat)) (O : OpsOk P M ops) (q : Nat × Nat) (hq : ops[spot ops index]? = some q) (h2 : q.2 = index) :
    callD tab0 (d + 5) (.fn 28) [gref P, .int index] (enc P M) = some (uref q.1, enc P M) := by
  have h := ok_open_at P M (d + 2) index ops O
  rw [hq] at h
  have h := h.trans (congrArg (fun v => some (v, enc P M)) (if_pos h2))
  exact call_go [gref P, .int index, .undef] (n := 28) rfl rfl rfl (fin_step (m' := [gref P, .int index, uref q.1]) (x_asg' (r_call r_glob (r_cons rfl (r_cons rfl r_nil)) h) rfl) (fin_skip (t_cmp rfl r_con (is_up (O.at hq).2.1)) (fin_ret rfl)))
theorem ok_find_new (P : Bw) (M : Mc) (d index : Nat) (ops : List (Nat × Nat)) (O : OpsOk P M ops) (hq : ∀ q, ops[spot ops index]? = some q → q.2 ≠ index) :
    callD tab0 (d + 5) (.fn 28) [gref P, .int index] (enc P M) = some (uref M.up.length, enc P { M with up := M.up ++ [opU P index], opens := (addO ops M.up.length index).map fun q => uref q.1 }) := by
  have h := ok_open_at P M (d + 2) index ops O
  have e : (match ops[spot ops index]? with | some q => if q.2 = index then uref q.1 else .none | Option.none => .none) = V.none := by
    split
    · rename_i q hq'; exact if_neg (hq q hq')
    · rfl
  rw [e] at h
  have O' : OpsOk P { M with up := M.up ++ [opU P index] } ops := ⟨O.opens, fun q hm => by
    have := O.up q hm
    rw [List.getElem?_append_left (List.getElem?_eq_some_iff.mp this).1]; exact this, O.nodup, O.few⟩
  have h2 := ok_put_open P { M with up := M.up ++ [opU P index] } (d + 2) M.up.length index ops O' (at_end _ _)
  exact call_go [gref P, .int index, .undef] (n := 28) rfl rfl rfl (fin_step (m' := [gref P, .int index, .none]) (x_asg' (r_call r_glob (r_cons rfl (r_cons rfl r_nil)) h) rfl)
    (fin_step (x_if1 (t_cmp rfl r_con (is_none _)) (exs_step (m' := [gref P, .int index, uref M.up.length]) (x_asg' (r_call r_glob (r_cons rfl (r_cons rfl r_nil)) (ok_upval P M (d + 1) index)) rfl) (exs_step (x_expr' (r_call r_glob (r_cons rfl (r_cons rfl r_nil)) h2)) exs_end))) (fin_ret rfl)))
noncomputable def closeUp (stack : List V) : List (Nat × Nat) → List MObj → List MObj
  | [], up => up
  | q :: r, up => closeUp stack r (up.set q.1 (clU ((stack[q.2]?).getD .none)))
theorem closeUp_len (stack : List V) : ∀ (ops : List (Nat × Nat)) (up : List MObj), (closeUp stack ops up).length = up.length
  | [], up => rfl
  | q :: r, up => by unfold closeUp; rw [closeUp_len stack r]; simp
theorem closeUp_other (stack : List V) : ∀ (ops : List (Nat × Nat)) (up : List MObj) (i : Nat), i ∉ ops.map (·.1) → (closeUp stack ops up)[i]? = up[i]?
  | [], up, i, h => rfl
  | q :: r, up, i, h => by
    rw [List.map_cons, List.mem_cons, not_or] at h
    unfold closeUp
    rw [closeUp_other stack r _ i h.2, List.getElem?_set, if_neg (fun e => h.1 e.symm)]
theorem closeUp_at (stack : List V) : ∀ (ops : List (Nat × Nat)) (up : List MObj) (q : Nat × Nat), (ops.map (·.1)).Nodup → q ∈ ops → q.1 < up.length → (closeUp stack ops up)[q.1]? = some (clU ((stack[q.2]?).getD .none))
  | [], up, q, hn, h, _ => by simp at h
  | p :: r, up, q, hn, h, hl => by
    rw [List.map_cons, List.nodup_cons] at hn
    unfold closeUp
    rcases List.mem_cons.mp h with rfl | h
    · rw [closeUp_other stack r _ _ hn.1, List.getElem?_set, if_pos rfl, if_pos hl]
    · exact closeUp_at stack r _ q hn.2 h (by rw [List.length_set]; exact hl)
theorem closeUp_snoc (stack : List V) (q : Nat × Nat) : ∀ (ops : List (Nat × Nat)) (up : List MObj), closeUp stack (ops ++ [q]) up = (closeUp stack ops up).set q.1 (clU ((stack[q.2]?).getD .none))
  | [], up => rfl
  | p :: r, up => by rw [List.cons_append]; unfold closeUp; exact closeUp_snoc stack q r _
noncomputable def high (ops : List (Nat × Nat)) (level : Nat) : Nat := (ops.takeWhile fun q => decide (level ≤ q.2)).length
theorem high_spot (ops : List (Nat × Nat)) (level : Nat) : ∀ j, (j < high ops (level + 1) ↔ j < spot ops level) := fun j => by unfold high spot; rfl
theorem high_le (ops : List (Nat × Nat)) (level : Nat) : high ops level ≤ ops.length := by unfold high; exact (List.takeWhile_sublist _).length_le
theorem high_lt : ∀ (ops : List (Nat × Nat)) (index j : Nat), j < high ops index → ∃ q, ops[j]? = some q ∧ index ≤ q.2
  | [], index, j, h => by simp [high] at h
  | q :: r, index, j, h => by
    unfold high at h
    rw [List.takeWhile_cons] at h
    by_cases hq : index ≤ q.2
    · rw [if_pos (decide_eq_true hq)] at h
      cases j with
      | zero => exact ⟨q, rfl, hq⟩
      | succ j => exact high_lt r index j (by simpa [high] using h)
    · rw [if_neg (by simpa using hq)] at h; simp at h
theorem high_at : ∀ (ops : List (Nat × Nat)) (index : Nat) (q : Nat × Nat), ops[high ops index]? = some q → q.2 < index
  | [], index, q, h => by simp at h
  | p :: r, index, q, h => by
    unfold high at h
    rw [List.takeWhile_cons] at h
    by_cases hq : index ≤ p.2
    · rw [if_pos (decide_eq_true hq)] at h
      exact high_at r index q (by simpa [high] using h)
    · rw [if_neg (by simpa using hq)] at h; simp at h; subst h; lia
theorem high_next (P : Bw) (M : Mc) {ops : List (Nat × Nat)} (O : OpsOk P M ops) {j : Nat} {q : Nat × Nat} (h1 : ops[j]? = some q) :
    (closeUp M.stack (ops.take j) M.up)[q.1]? = some (opU P q.2) ∧ ((ops.drop j).map fun q => uref q.1) = uref q.1 :: ((ops.drop (j + 1)).map fun q => uref q.1) := by
  obtain ⟨hjl, hje⟩ := List.getElem?_eq_some_iff.mp h1
  have h0 := List.drop_eq_getElem_cons hjl
  rw [hje] at h0
  have hnot : q.1 ∉ (ops.take j).map (·.1) := fun hm => by
    have hn := O.nodup
    rw [← List.take_append_drop j ops, h0, List.map_append, List.nodup_append] at hn
    exact hn.2.2 _ hm _ (.head _) rfl
  exact ⟨by rw [closeUp_other _ _ _ _ hnot]; exact O.up q (List.mem_of_getElem? h1), by rw [h0]; rfl⟩
theorem place_first (n : Nat) : place (n + 1) 0 = some 0 := place_nat (Nat.succ_pos n)
theorem t_new {P : Bw} {M : Mc} {l : List MObj} {a : List V} {n : Nat} (h : M.tmp = l ++ [.list a]) (hn : n = l.length) : (enc P M).lst .tmp n = some a := by subst hn; exact t_at (by rw [h]; exact at_end _ _)
theorem t_newS {P : Bw} {M : Mc} {l : List MObj} {a : List V} {o : MObj} (h : M.tmp = l ++ [.list a]) : (enc P M).setO .tmp l.length o = enc P { M with tmp := l ++ [o] } := by
  rw [s_tmp, h]; exact congrArg (fun l => enc P { M with tmp := l }) (set_end _ _ _)
theorem ok_take_closed (P : Bw) (M : Mc) (d level : Nat) (ops : List (Nat × Nat)) (O : OpsOk P M ops) (hs : ∀ q ∈ ops, q.2 < M.stack.length) :
    ∃ v, callD tab0 (d + 2) (.fn 29) [gref P, .int level] (enc P M) =
      some (v, enc P { M with tmp := M.tmp ++ [.gone], opens := (ops.drop (high ops level)).map fun q => uref q.1, up := closeUp M.stack (ops.take (high ops level)) M.up }) := by
  refine ⟨.lst ((ops.take (high ops level)).map fun q => uref q.1), ?_⟩
  refine call_go [gref P, .int level, .undef, .undef] (n := 29) rfl rfl rfl ?_
  have hclose := fun M' i p v h1 h2 => ok_close P M' d i p v h1 h2
  generalize callD tab0 (d + 1) = cl at *
  refine fin_step (m' := [gref P, .int level, .ref .tmp M.tmp.length, .undef]) (x_asg' (r_newl r_nil (p_tmp P M _)) rfl) ?_
  obtain ⟨m', s', h, ⟨u, rfl⟩, rfl⟩ := loopW_inv (t := evT cl (.bop true [.cmp .Gt (.len (.attr (.loc 0) .ground 1)) (.con (.int 0)), .cmp .GtE (.attr (.idx (.attr (.loc 0) .ground 1) (.con (.int 0))) .upval 4) (.loc 1)]))
    (b := exs cl [.asg (.loc 3) (.pop0 (.attr (.loc 0) .ground 1)), .expr (.meth (.loc 3) .upval 20 []), .expr (.append (.loc 2) (.loc 3))])
    (high ops level) (fun j m s => (∃ u, m = [gref P, .int level, .ref .tmp M.tmp.length, u]) ∧ s = enc P { M with tmp := M.tmp ++ [.list ((ops.take j).map fun q => uref q.1)], opens := (ops.drop j).map fun q => uref q.1, up := closeUp M.stack (ops.take j) M.up }) (fun j m s hj ⟨⟨u, hm⟩, hs'⟩ => by
      subst hm hs'
      obtain ⟨q, h1, h2⟩ := high_lt ops level j hj
      obtain ⟨h3, h8⟩ := high_next P M O h1
      obtain ⟨v, hv⟩ : ∃ v, M.stack[q.2]? = some v := ⟨_, List.getElem?_eq_getElem (hs q (List.mem_of_getElem? h1))⟩
      have ht : ops.take (j + 1) = ops.take j ++ [q] := by rw [List.take_add_one, h1]; rfl
      have h6 : okLen (((ops.take j).map fun q => uref q.1).length + 1) = true := okLen_of (k := 50001) (by rw [List.length_map, List.length_take]; exact Nat.succ_le_succ (Nat.le_trans (Nat.min_le_right _ _) O.few)) rfl
      rw [h8, ht, closeUp_snoc, hv, List.map_append]
      clear hj hs h1 ht h8 O
      generalize closeUp M.stack (ops.take j) M.up = up at h3 ⊢
      generalize ((ops.take j).map fun q => uref q.1) = tl at h6 ⊢
      generalize ((ops.drop (j + 1)).map fun q => uref q.1) = rl
      have hc := hclose { M with tmp := M.tmp ++ [.list tl], opens := rl, up := up } q.1 q.2 v h3 hv
      exact ⟨t_bop (t_and1 (t_cmp (r_len (r_attr rfl (e_gro P _) rfl) (i_opens P _)) r_con (c_gt (Int.ofNat_lt.mpr (Nat.succ_pos rl.length)))) (t_and1 (t_cmp (r_attr (r_idx (r_attr rfl (e_gro P _) rfl) r_con (i_opens P _) (place_first rl.length) rfl) (u_at h3) rfl) rfl (c_ge (Int.ofNat_le.mpr h2))) rfl)), _, _,
        exs_step (m' := [gref P, .int level, .ref .tmp M.tmp.length, uref q.1]) (x_asg' (r_pop0 (r_attr rfl (e_gro P _) rfl) (e_opens P _) (s_opens P _ _)) rfl) (exs_step (x_expr' (r_meth rfl (u_at h3) r_nil hc)) (exs_step (x_expr' (r_append rfl rfl (t_new rfl rfl) (t_new rfl rfl) h6 (t_newS (a := tl) rfl))) exs_end)), ⟨uref q.1, rfl⟩, rfl⟩) (fun m s ⟨⟨u, hm⟩, hs'⟩ => by
      subst hm hs'
      by_cases hl : high ops level < ops.length
      · have h1 := List.getElem?_eq_getElem hl
        have h2 := high_at ops level _ h1
        obtain ⟨h3, h8⟩ := high_next P M O h1
        rw [h8]
        exact t_bop (t_and1 (t_cmp (r_len (r_attr rfl (e_gro P _) rfl) (i_opens P _)) r_con (c_gt (Int.ofNat_lt.mpr (Nat.succ_pos _)))) (t_and0 (t_cmp (r_attr (r_idx (r_attr rfl (e_gro P _) rfl) r_con (i_opens P _) (place_first _) rfl) (u_at h3) rfl) rfl (c_nge fun z => Nat.not_le.mpr h2 (Int.ofNat_le.mp z)))))
      · rw [List.drop_eq_nil_of_le (Nat.not_lt.mp hl)]
        exact t_bop (t_and0 (t_cmp (r_len (r_attr rfl (e_gro P _) rfl) (i_opens P _)) r_con rfl))) _ 0 WF [gref P, .int level, .ref .tmp M.tmp.length, .undef] (enc P { M with tmp := M.tmp ++ [.list []] }) (Nat.zero_add _) (Nat.lt_of_le_of_lt (Nat.le_trans (high_le ops level) O.few) (by decide)) ⟨⟨_, rfl⟩, by rw [List.drop_zero, ← O.opens]; rfl⟩
  exact fin_step h (fin_ret (r_freeze rfl (t_new rfl rfl) (t_newS rfl)))
end Mine
end
section
set_option maxRecDepth 100000
namespace Mine
noncomputable abbrev wref (P : Bw) : V := .ref .world (P.n .world)
noncomputable abbrev fref (i : Nat) : V := .ref .frame i
theorem w0 (P : Bw) (M : Mc) : (M.wd P)[0]? = some (gref P) := rfl
theorem w1 (P : Bw) (M : Mc) : (M.wd P)[1]? = some (.ref .frames (P.n .frames)) := rfl
theorem w2 (P : Bw) (M : Mc) : (M.wd P)[2]? = some (.int M.top) := rfl
theorem w3 (P : Bw) (M : Mc) : (M.wd P)[3]? = some (.ref .made (P.n .made)) := rfl
theorem w4 (P : Bw) (M : Mc) : (M.wd P)[4]? = some (.ref .known (P.n .known)) := rfl
theorem w5 (P : Bw) (M : Mc) : (M.wd P)[5]? = some (.ref .notes (P.n .notes)) := rfl
theorem w6 (P : Bw) (M : Mc) : (M.wd P)[6]? = some (.ref .places (P.n .places)) := rfl
theorem w7 (P : Bw) (M : Mc) : (M.wd P)[7]? = some (.int P.shift) := rfl
theorem w8 (P : Bw) (M : Mc) : (M.wd P)[8]? = some (.bool P.stands) := rfl
theorem w9 (P : Bw) (M : Mc) : (M.wd P)[9]? = some (.int M.ent) := rfl
theorem w10 (P : Bw) (M : Mc) : (M.wd P)[10]? = some (.bool M.well) := rfl
theorem wlen (P : Bw) (M : Mc) : (M.wd P).length = 11 := rfl
noncomputable def pushL (l : List V) (t : Nat) (vs : List V) : List V :=
  (l ++ List.replicate (t + vs.length - l.length) (V.int 99)).take t ++ vs ++ (l ++ List.replicate (t + vs.length - l.length) (V.int 99)).drop (t + vs.length)
theorem ok_push (P : Bw) (M : Mc) (d : Nat) (vs : List V) (ht : M.top + vs.length ≤ 100000) (hl : M.stack.length ≤ 100000) :
    callD tab0 (d + 1) (.fn 34) [wref P, .lst vs] (enc P M) = some (.int M.top, enc P { M with stack := pushL M.stack M.top vs, top := M.top + vs.length }) := by
  have h1 : M.top + vs.length ≤ (M.stack ++ List.replicate (M.top + vs.length - M.stack.length) (V.int 99)).length := by rw [List.length_append, List.length_replicate]; lia
  refine call_go [wref P, .lst vs, .undef, .undef] (n := 34) rfl rfl rfl ?_
  generalize callD tab0 d = cl
  refine fin_step (m' := [wref P, .lst vs, sref P, .int M.top]) (x_asgT' (r_tup (r_cons (r_attr (r_key rfl (e_dct P M) rfl) (e_gro P M) rfl) (r_cons (r_key rfl (e_dct P M) rfl) r_nil))) rfl) ?_
  refine fin_step (x_expr' (r_extend rfl (r_bin (r_lst (r_cons r_con r_nil)) (r_bin (r_bin rfl (r_len rfl rfl) (b_add rfl)) (r_len rfl (i_stack _ _)) (b_sub rfl)) (b_mulL (sub_toNat (M.top + vs.length) M.stack.length) (okLen_of (Nat.le_trans (Nat.sub_le _ _) ht) rfl) (small_sub (Nat.le_trans ht (by decide)) (Nat.le_trans hl (by decide))))) (e_stack _ _) (e_stack _ _)
    (okLen_of (k := 200000) (by rw [List.length_replicate]; lia) rfl) (s_stack _ _ _))) ?_
  refine fin_step (σ' := enc P { M with stack := pushL M.stack M.top vs }) (x_asg' rfl (s_slc rfl rfl (r_bin rfl (r_len rfl rfl) (b_add rfl)) (e_stack _ _) ⟨Int.natCast_nonneg _, rfl, Int.ofNat_le.mpr h1⟩ (s_stack _ _ _))) ?_
  exact fin_step (x_asg' (r_bin rfl (r_len rfl rfl) (b_add rfl)) (s_key rfl (e_dct P _) rfl (s_top P _ (M.top + vs.length)))) (fin_ret rfl)
end Mine
end
section
set_option maxRecDepth 100000
namespace Mine
noncomputable def baseOf (isOpen : Bool) (place params top : Nat) : Nat := if isOpen then top + (params - (top - place - 1)) else place + 1
noncomputable def enterL (l : List V) (isOpen : Bool) (place params size top : Nat) : List V :=
  let base := baseOf isOpen place params top
  let l2 := if isOpen then liftL (growL (fillL (growL l base) top base) (base + params)) base (base - max (top - place - 1) params) params else l
  fillL (growL l2 (base + size)) (if isOpen then base + params else min top (place + 1 + params)) (base + size)
theorem ok_enter (P : Bw) (M : Mc) (d : Nat) (pls : List V) (place n params size : Nat) (io : Bool) (ds la : List V) (wanted : Int) (hp : M.stack[place]? = some (.int n)) (hpl : pls[n]? = some (.tup [.int params, .bool io, .int size, .lst ds, .tup la]))
    (hs : params ≤ size) (hsz : size ≤ 1000) (ht : place < M.top) (hl : M.stack.length ≤ 50000) (ht2 : M.top ≤ 40000) (hfl : M.frames.length ≤ 50000) :
    callD tab0 (d + 5) (.fn 35) [wref P, .lst pls, .int place, .int wanted] (enc P M) = some (.none, enc P { M with
      stack := enterL M.stack io place params size M.top, frames := M.frames ++ [fref M.fr.length], fr := M.fr ++ [frO place (baseOf io place params M.top) (baseOf io place params M.top + size) wanted 0],
      top := baseOf io place params M.top + size }) := by
  have hpl' : place < M.stack.length := (List.getElem?_eq_some_iff.mp hp).1
  have hn := (List.getElem?_eq_some_iff.mp hpl).1
  refine call_go [wref P, .lst pls, .int place, .int wanted, .undef, .undef, .undef, .undef, .undef, .undef, .undef] (n := 35) rfl rfl rfl ?_
  refine fin_step (m' := [wref P, .lst pls, .int place, .int wanted, sref P, .undef, .undef, .undef, .undef, .undef, .undef]) (x_asg' (r_attr (r_key rfl (e_dct P M) rfl) (e_gro P M) rfl) rfl) ?_
  refine fin_step (m' := [wref P, .lst pls, .int place, .int wanted, sref P, .int params, .bool io, .int size, .undef, .undef, .undef]) (x_asgT' (r_slcB (r_idx rfl (r_idx rfl rfl (i_stack _ _) (place_nat hpl') hp) rfl (place_nat hn) hpl) r_con rfl) rfl) ?_
  have hbs : baseOf io place params M.top ≤ 42000 := by
    cases io with
    | false => exact Nat.le_trans ht (Nat.le_trans ht2 (by decide))
    | true => exact Nat.le_trans (Nat.add_le_add ht2 (Nat.le_trans (Nat.sub_le _ _) (Nat.le_trans hs hsz))) (by decide)
  have way : ∃ (l2 : List V) (t2 : Nat) (u : V), fillL (growL l2 (baseOf io place params M.top + size)) t2 (baseOf io place params M.top + size) = enterL M.stack io place params size M.top ∧ l2.length ≤ 100000 ∧ t2 ≤ baseOf io place params M.top + size ∧
      ex (callD tab0 (d + 4)) (.ite (.loc 6) [.asgT [.loc 8, .loc 9] (.call (.glob "told_all" (.fn 8)) [.loc 4, .key (.loc 0) .world 2, .bin .Sub (.bin .Sub (.key (.loc 0) .world 2) (.loc 2)) (.con (.int 1)), .loc 5]),
        .asgT [.loc 10, .loc 8] (.call (.glob "open_base" (.fn 9)) [.loc 4, .loc 8, .loc 5, .loc 9])] [.asgT [.loc 10, .loc 8] (.call (.glob "plain_base" (.fn 7)) [.loc 2, .key (.loc 0) .world 2, .loc 5])])
        [wref P, .lst pls, .int place, .int wanted, sref P, .int params, .bool io, .int size, .undef, .undef, .undef] (enc P M) =
        some (.next, [wref P, .lst pls, .int place, .int wanted, sref P, .int params, .bool io, .int size, .int t2, u, .int (baseOf io place params M.top)], enc P { M with stack := l2 }) := by
    clear hp hpl hn hpl'
    cases io with
    | false =>
      refine ⟨M.stack, min M.top (place + 1 + params), .undef, rfl, Nat.le_trans hl (by decide), Nat.le_trans (Nat.min_le_right _ _) (Nat.add_le_add_left hs _), ?_⟩
      exact x_if0 (t_loc rfl) (exs_step (x_asgT' (r_call r_glob (r_cons rfl (r_cons (r_key rfl (e_dct P M) rfl) (r_cons rfl r_nil))) (ok_plain_base (d + 2) (enc P M) place M.top params)) rfl) exs_end)
    | true =>
      have hb : baseOf true place params M.top = M.top + (params - (M.top - place - 1)) := rfl
      generalize hB : baseOf true place params M.top = base at *
      have h1 := ok_told_all P M d M.top (M.top - place - 1) params (by rw [← hb]; exact Nat.le_trans hbs (by decide)) (Nat.le_trans hl (by decide))
      rw [← hb] at h1
      have hq : params ≤ max (M.top - place - 1) params ∧ max (M.top - place - 1) params ≤ base := by
        rw [hb]
        generalize ha : M.top - place - 1 = a
        have h2 : a ≤ M.top := ha ▸ Nat.le_trans (Nat.sub_le _ _) (Nat.sub_le _ _)
        exact ⟨Nat.le_max_right _ _, Nat.max_le.mpr ⟨Nat.le_trans h2 (Nat.le_add_right _ _), Nat.le_trans (Nat.sub_le_iff_le_add'.mp (Nat.le_refl (params - a))) (Nat.add_le_add_right h2 _)⟩⟩
      have hU : enterL M.stack true place params size M.top = fillL (growL (liftL (growL (fillL (growL M.stack base) M.top base) (base + params)) base (base - max (M.top - place - 1) params) params) (base + size)) (base + params) (base + size) := by unfold enterL; rw [hB]; rfl
      have hlen : (growL (fillL (growL M.stack base) M.top base) (base + params)).length ≤ 100000 ∧ (fillL (growL M.stack base) M.top base).length ≤ 100000 := by
        have h3 := Nat.le_trans hs hsz
        rw [growL_len, fillL_len, growL_len]
        have h4 : max M.stack.length base ≤ 100000 := Nat.max_le.mpr ⟨Nat.le_trans hl (by decide), Nat.le_trans hbs (by decide)⟩
        exact ⟨Nat.max_le.mpr ⟨h4, Nat.le_trans (Nat.add_le_add hbs h3) (by decide)⟩, h4⟩
      have h2 := ok_open_base P { M with stack := fillL (growL M.stack base) M.top base } (d + 1) base params (max (M.top - place - 1) params) (Nat.le_trans (Nat.add_le_add hbs (Nat.le_trans hs hsz)) (by decide)) hq.2 hq.1 hlen.2
      have e1 : (M.top : Int) - place - 1 = ((M.top - place - 1 : Nat) : Int) := by rw [Int.ofNat_sub (Nat.le_sub_of_add_le' ht), Int.ofNat_sub (Nat.le_of_lt ht)]; rfl
      rw [hU]
      generalize callD tab0 (d + 4) = cl at *
      generalize M.top - place - 1 = a at *
      refine ⟨_, base + params, .int (max a params : Nat), rfl, by rw [liftL_len]; exact hlen.1, Nat.add_le_add_left hs _, ?_⟩
      exact x_if1 (t_loc rfl) (exs_step (m' := [wref P, .lst pls, .int place, .int wanted, sref P, .int params, .bool true, .int size, .int base, .int (max a params : Nat), .undef]) (x_asgT' (r_call r_glob (r_cons rfl (r_cons (r_key rfl (e_dct P M) rfl) (r_cons (r_bin (r_bin (r_key rfl (e_dct P M) rfl) rfl (b_sub rfl)) r_con (b_sub e1)) (r_cons rfl r_nil)))) h1) rfl)
        (exs_step (x_asgT' (r_call r_glob (r_cons rfl (r_cons rfl (r_cons rfl (r_cons rfl r_nil)))) h2) rfl) exs_end))
  obtain ⟨l2, t2, u, hl2, hlen2, ht2', hex⟩ := way
  refine fin_step hex ?_
  rw [← hl2]
  clear hl2 hex hp hpl hn hpl'
  generalize baseOf io place params M.top = base at *
  have hf := ok_frame P { M with stack := l2 } (d + 2) place base (base + size) wanted
  have hw := ok_with_registers P { M with stack := l2, frames := M.frames ++ [fref M.fr.length], fr := M.fr ++ [frO place base (base + size) wanted 0] } (d + 1) t2 (base + size) (Nat.le_trans (Nat.add_le_add hbs hsz) (by decide)) ht2' hlen2
  generalize callD tab0 (d + 4) = cl at *
  refine fin_step (σ' := enc P { M with stack := l2, frames := M.frames ++ [fref M.fr.length], fr := M.fr ++ [frO place base (base + size) wanted 0] }) (x_expr' (r_append (r_key rfl (e_dct P _) rfl) (r_call r_glob (r_cons rfl (r_cons rfl (r_cons (r_bin rfl rfl (b_add rfl)) (r_cons rfl r_nil)))) hf) (e_frames _ _) (e_frames _ _) (okLen_of (k := 50001) (Nat.succ_le_succ hfl) rfl) (s_frames _ _ _))) ?_
  exact fin_step (x_asg' (r_call r_glob (r_cons rfl (r_cons rfl (r_cons (r_bin rfl rfl (b_add rfl)) r_nil))) hw) (s_key rfl (e_dct P _) rfl (s_top P _ (base + size)))) fin_nil
theorem gather_map {f : Nat → St → Option (List V × St)} {σ : St} (g : Nat → V) : ∀ (n j : Nat), (∀ i, i < n → f (j + i) σ = some ([g (j + i)], σ)) → gather f n j σ = some ((List.range n).map fun i => g (j + i), σ)
  | 0, j, h => rfl
  | n + 1, j, h => by
    unfold gather
    have h0 := h 0 (by lia)
    rw [Nat.add_zero] at h0
    rw [h0]
    simp only [Option.bind_some]
    rw [gather_map g n (j + 1) fun i hi => by have := h (i + 1) (by lia); rw [show j + 1 + i = j + (i + 1) by lia]; exact this]
    simp only [Option.bind_some, List.range_succ_eq_map, List.map_cons, List.map_map, Nat.add_zero, List.singleton_append]
    rw [show (fun i => g (j + 1 + i)) = ((fun i => g (j + i)) ∘ Nat.succ) from funext fun i => by show g (j + 1 + i) = g (j + (i + 1)); rw [show j + 1 + i = j + (i + 1) by lia]]
theorem gather_over {f : Nat → St → Option (List V × St)} {σ : St} (xs : List V) (h : V → V) (hf : ∀ i x, xs[i]? = some x → f i σ = some ([h x], σ)) : gather f xs.length 0 σ = some (xs.map h, σ) := by
  have := gather_map (f := f) (σ := σ) (fun i => h ((xs[i]?).getD .none)) xs.length 0 fun i hi => by
    rw [Nat.zero_add, hf i _ (List.getElem?_eq_getElem hi), List.getElem?_eq_getElem hi]; rfl
  rw [this]
  congr 2
  apply List.ext_getElem?
  intro i
  rw [List.getElem?_map, List.getElem?_map]
  by_cases hi : i < xs.length
  · rw [List.getElem?_range hi]; simp [List.getElem?_eq_getElem hi]
  · rw [List.getElem?_eq_none_iff.mpr (by simpa using hi), List.getElem?_eq_none_iff.mpr (by simpa using hi)]; rfl
noncomputable def getV (P : Bw) (M : Mc) (x : V) : V := match x with
  | .ref .upval i => (match M.up[i]? with
    | some (.inst [_, _, _, .ref .ground _, .int p, _]) => (M.stack[p.toNat]?).getD .none
    | some (.inst [_, _, _, .none, _, v]) => v
    | _ => .none)
  | _ => .none
inductive UpOk (P : Bw) (M : Mc) : V → Prop
  | op {i p : Nat} {v : V} : M.up[i]? = some (opU P p) → M.stack[p]? = some v → UpOk P M (uref i)
  | cl {i : Nat} {v : V} : M.up[i]? = some (clU v) → UpOk P M (uref i)
theorem ok_get (P : Bw) (M : Mc) (d : Nat) {x : V} (h : UpOk P M x) : ∃ i, x = uref i ∧ (∃ vs, M.up[i]? = some (.inst vs)) ∧ callD tab0 (d + 1) (.fn 18) [x] (enc P M) = some (getV P M x, enc P M) := by
  cases h with
  | op h1 h2 => exact ⟨_, rfl, ⟨_, h1⟩, by rw [ok_get_o P M d _ _ _ h1 h2]; simp [getV, h1, h2]⟩
  | cl h1 => exact ⟨_, rfl, ⟨_, h1⟩, by rw [ok_get_c P M d _ _ h1]; simp [getV, h1]⟩
theorem clip_of {n a : Nat} (h : a ≤ n) : PySem.clipAt n (a : Int) = a := (PySem.clipAt_nat ..).trans (Nat.min_eq_left h)
theorem cut_some (vs : List V) (a b : Nat) (h : a ≤ b) (hb : b ≤ vs.length) : cutAB vs (some (a : Int)) (some (b : Int)) = (vs.drop a).take (b - a) := by
  show (vs.drop (PySem.clipAt vs.length a)).take (PySem.clipAt vs.length b - PySem.clipAt vs.length a) = _
  rw [clip_of (Nat.le_trans h hb), clip_of hb]
theorem clip_neg {n k : Nat} (h : 0 < k) : PySem.clipAt n (-(k : Int)) = n - k := by
  unfold PySem.clipAt
  rw [if_pos (Int.neg_neg_of_pos (Int.natCast_pos.mpr h)), Int.add_comm, ← Int.sub_eq_add_neg, Int.min_eq_left (Int.sub_le_self _ (Int.natCast_nonneg k))]
  rcases Nat.le_total k n with q | q
  · rw [← Int.ofNat_sub q, Int.max_eq_right (Int.natCast_nonneg _), Int.toNat_natCast]
  · rw [Int.max_eq_left (Int.sub_nonpos_of_le (Int.ofNat_le.mpr q)), Nat.sub_eq_zero_of_le q]; rfl
theorem cut_end {vs : List V} {k : Nat} (h : 0 < k) : cutAB vs (some (-(k : Int))) Option.none = vs.drop (vs.length - k) := by
  show (vs.drop (PySem.clipAt vs.length (-(k : Int)))).take (vs.length - PySem.clipAt vs.length (-(k : Int))) = _
  rw [clip_neg h]
  exact List.take_of_length_le (Nat.le_of_eq (List.length_drop ..))
theorem cut_last4 (vs : List V) : cutAB vs (some (-4)) Option.none = vs.drop (vs.length - 4) := cut_end (k := 4) (by decide)
end Mine
end
section
set_option maxRecDepth 100000
namespace Mine
theorem gather_all {α : Type} {f : Nat → St → Option (List V × St)} {σ : St} (h : α → V) : ∀ (xs : List α) (j : Nat), (∀ i x, xs[i]? = some x → f (j + i) σ = some ([h x], σ)) → gather f xs.length j σ = some (xs.map h, σ)
  | [], j, hf => rfl
  | x :: r, j, hf => by
    have h0 := hf 0 x rfl
    rw [Nat.add_zero] at h0
    simp only [List.length_cons, gather, h0, Option.bind_some]
    rw [gather_all h r (j + 1) fun i y hi => by rw [show j + 1 + i = j + (i + 1) by lia]; exact hf (i + 1) y hi]
    rfl
noncomputable def noteV (P : Bw) (M : Mc) (base size : Nat) (news : V) : V := .tup [news, .lst ((M.stack.drop base).take size), .lst ((M.known.drop (M.known.length - 4)).map (getV P M))]
noncomputable def placeV (P : Bw) (M : Mc) (func base tp : Nat) (ops : List (Nat × Nat)) : V :=
  .lst ([.int ((func : Int) - P.shift), .int ((base : Int) - P.shift), .int ((tp : Int) - P.shift), .int ((M.top : Int) - P.shift)] ++ ops.map fun q => .int ((q.2 : Int) - P.shift))
theorem r_compS {cl : CallF} {elt src : ME} {m : List V} {σ σ₁ σ₂ : St} {x : V} {c : Nat} {ys : List V} (h1 : ev cl src m σ = some (x, σ₁)) (h2 : turns σ₁ x = some c)
    (h3 : gather (fun j τ => (turnItem τ x c j).bind fun z => (ev cl elt (m ++ [z]) τ).bind fun (y, τ₁) => some ([y], τ₁)) c 0 σ₁ = some (ys, σ₂)) (h4 : turns σ₂ x = some c) : ev cl (.compS elt src) m σ = some (.lst ys, σ₂) :=
  bind_eq h1 (bind_eq h2 (bind_eq h3 (if_eq h4 rfl)))
theorem ok_note (P : Bw) (M : Mc) (d j func base tp size : Nat) (wanted tails : Int) (news : V) (ops : List (Nat × Nat)) (hj : M.fr[j]? = some (frO func base tp wanted tails)) (hn : news ≠ .undef)
    (hs : base + size ≤ M.stack.length) (hk : ∀ x ∈ M.known, UpOk P M x) (O : OpsOk P M ops) (hnl : M.notes.length ≤ 50000) (hpl : M.places.length ≤ 50000) :
    callD tab0 (d + 2) (.fn 36) [wref P, fref j, .int size, news] (enc P M) = some (.none, enc P { M with notes := M.notes ++ [noteV P M base size news], places := M.places ++ [placeV P M func base tp ops] }) := by
  have c2 := cut_some M.stack base (base + size) (Nat.le_add_right _ _) hs
  rw [Nat.add_sub_cancel_left] at c2
  have c3 := cut_last4 M.known
  refine call_go [wref P, fref j, .int size, news, .undef, .undef, .undef] (n := 36) rfl rfl rfl ?_
  have hg : gather (fun j τ => (turnItem τ (.lst (M.known.drop (M.known.length - 4))) (M.known.drop (M.known.length - 4)).length j).bind fun z => (ev (callD tab0 (d + 1)) (.meth (.loc 7) .upval 18 []) ([wref P, fref j, .int size, news, .int P.shift, gref P, .undef] ++ [z]) τ).bind fun (y, τ₁) => some ([y], τ₁)) (M.known.drop (M.known.length - 4)).length 0 (enc P M) = some ((M.known.drop (M.known.length - 4)).map (getV P M), enc P M) := by
    refine gather_over _ _ fun i x hx => ?_
    obtain ⟨u, rfl, ⟨vs, hu⟩, hgv⟩ := ok_get P M d (hk x (List.mem_of_mem_drop (List.mem_of_getElem? hx)))
    exact bind_eq hx (bind_eq (r_meth rfl (u_at hu) r_nil hgv) rfl)
  generalize callD tab0 (d + 1) = cl at *
  refine fin_step (m' := [wref P, fref j, .int size, news, .int P.shift, gref P, .undef]) (x_asgT' (r_tup (r_cons (r_key rfl (e_dct P M) rfl) (r_cons (r_key rfl (e_dct P M) rfl) r_nil))) rfl) ?_
  refine fin_step (σ' := enc P { M with notes := M.notes ++ [noteV P M base size news] }) (x_expr' (r_append (r_key rfl (e_dct P M) rfl) (r_tup (r_cons (r_locu rfl hn) (r_cons (r_slcAB (r_attr rfl (e_gro P M) rfl) (r_attr rfl (f_at hj) rfl) (r_bin (r_attr rfl (f_at hj) rfl) rfl (b_add rfl)) ?h1) (r_cons (r_compS (r_slcA (r_key rfl (e_dct P M) rfl) (r_neg r_con) ?h2) rfl hg rfl) r_nil))))
    (e_notes _ _) (e_notes _ _) (okLen_of (k := 50001) (Nat.succ_le_succ hnl) rfl) (s_notes _ _ _))) ?_
  case h1 =>
    show ((enc P M).lst .stack (P.n .stack)).map _ = _
    rw [e_stack]; exact congrArg (fun l => some (V.lst l)) c2
  case h2 =>
    show ((enc P M).lst .known (P.n .known)).map _ = _
    rw [e_known]; exact congrArg (fun l => some (V.lst l)) c3
  refine fin_step (m' := [wref P, fref j, .int size, news, .int P.shift, gref P, .lst [.int ((func : Int) - P.shift), .int ((base : Int) - P.shift), .int ((tp : Int) - P.shift), .int ((M.top : Int) - P.shift)]])
    (x_asg' (r_lst (r_cons (r_bin (r_attr rfl (f_at hj) rfl) rfl (b_sub rfl)) (r_cons (r_bin (r_attr rfl (f_at hj) rfl) rfl (b_sub rfl)) (r_cons (r_bin (r_attr rfl (f_at hj) rfl) rfl (b_sub rfl)) (r_cons (r_bin (r_key rfl (e_dct P _) rfl) rfl (b_sub rfl)) r_nil))))) rfl) ?_
  clear hg
  have hg : gather (fun j τ => (turnItem τ (.ref .opens (P.n .opens)) ops.length j).bind fun z => (ev cl (.bin .Sub (.attr (.loc 7) .upval 4) (.loc 4)) ([wref P, fref j, .int size, news, .int P.shift, gref P, .lst [.int ((func : Int) - P.shift), .int ((base : Int) - P.shift), .int ((tp : Int) - P.shift), .int ((M.top : Int) - P.shift)]] ++ [z]) τ).bind fun (y, τ₁) => some ([y], τ₁)) ops.length 0 (enc P { M with notes := M.notes ++ [noteV P M base size news] }) =
      some (ops.map fun q => V.int ((q.2 : Int) - P.shift), enc P { M with notes := M.notes ++ [noteV P M base size news] }) := by
    refine gather_all _ ops 0 fun i q hi => ?_
    obtain ⟨h4, h3, _⟩ := O.at hi
    rw [Nat.zero_add]
    refine bind_eq (a := uref q.1) ?_ (bind_eq (r_bin (r_attr rfl (u_at h3) rfl) rfl (b_sub rfl)) rfl)
    show (match (enc P _).lst .opens (P.n .opens) with | some vs => if vs.length = ops.length then vs[i]? else Option.none | Option.none => Option.none) = _
    rw [e_opens]
    exact if_eq O.len h4
  have ht : ∀ M' : Mc, M'.opens = M.opens → turns (enc P M') (.ref .opens (P.n .opens)) = some ops.length := fun M' e => by
    show ((enc P M').lst .opens (P.n .opens)).map List.length = _
    rw [e_opens, e, ← O.len]; rfl
  refine fin_step (σ' := enc P { M with notes := M.notes ++ [noteV P M base size news], places := M.places ++ [placeV P M func base tp ops] }) (x_expr' (r_append (r_key rfl (e_dct P _) rfl) (r_bin rfl (r_compS (r_attr rfl (e_gro P _) rfl) (ht _ rfl) hg (ht _ rfl)) (b_addL (okLen_of (k := 50004) ?_ rfl))) (e_places _ _) (e_places _ _) (okLen_of (k := 50001) (Nat.succ_le_succ hpl) rfl) (s_places _ _ _))) fin_nil
  rw [List.length_map]; exact Nat.add_le_add_left O.few 4
end Mine
end
section
set_option maxRecDepth 100000
namespace Mine
noncomputable def wordOf (ik : Bool) (num : Nat) : Nat := (if ik then 4 else 0) ||| (num * 2 ^ 23)
theorem ok_word_of (d : Nat) (σ : St) (ik : Bool) (num : Nat) (hn : num < 4) : callD tab0 (d + 1) (.fn 22) [.bool ik, .int num] σ = some (.int (wordOf ik num), σ) := by
  refine call_go [.bool ik, .int num] (n := 22) rfl rfl rfl (fin_ret ?_)
  rcases (by lia : num = 0 ∨ num = 1 ∨ num = 2 ∨ num = 3) with rfl | rfl | rfl | rfl <;> cases ik <;> rfl
theorem ok_is_kept_word (d : Nat) (σ : St) (ik : Bool) (num : Nat) (hn : num < 4) : callD tab0 (d + 1) (.fn 23) [.int (wordOf ik num)] σ = some (.bool ik, σ) := by
  refine call_go [.int (wordOf ik num)] (n := 23) rfl rfl rfl (fin_ret ?_)
  rcases (by lia : num = 0 ∨ num = 1 ∨ num = 2 ∨ num = 3) with rfl | rfl | rfl | rfl <;> cases ik <;> rfl
theorem word_shift (ik : Bool) (num : Nat) (hn : num < 4) : ((wordOf ik num : Nat) : Int) / 8388608 = num := by
  rcases (by lia : num = 0 ∨ num = 1 ∨ num = 2 ∨ num = 3) with rfl | rfl | rfl | rfl <;> cases ik <;> rfl
noncomputable def pick (P : Bw) (kept : List Nat) (base : Nat) (w : Bool × Nat) (s : List (Nat × Nat) × List MObj) : Nat × List (Nat × Nat) × List MObj :=
  if w.1 then ((kept[w.2]?).getD 0, s) else match (s.1[spot s.1 (base + w.2)]?).filter (fun q => q.2 == base + w.2) with
    | some q => (q.1, s)
    | Option.none => (s.2.length, addO s.1 s.2.length (base + w.2), s.2 ++ [opU P (base + w.2)])
noncomputable def picks (P : Bw) (kept : List Nat) (base : Nat) : List (Bool × Nat) → List (Nat × Nat) × List MObj → List Nat × List (Nat × Nat) × List MObj
  | [], s => ([], s)
  | w :: r, s => ((pick P kept base w s).1 :: (picks P kept base r (pick P kept base w s).2).1, (picks P kept base r (pick P kept base w s).2).2)
noncomputable abbrev Mc.ops (M : Mc) (s : List (Nat × Nat) × List MObj) : Mc := { M with opens := s.1.map fun q => uref q.1, up := s.2 }
theorem addO_len (ops : List (Nat × Nat)) (i p : Nat) : (addO ops i p).length = ops.length + 1 := by
  unfold addO; have := spot_le ops p; simp; lia
theorem addO_mem {ops : List (Nat × Nat)} {i p : Nat} {q : Nat × Nat} : q ∈ addO ops i p ↔ q = (i, p) ∨ q ∈ ops := by
  unfold addO
  constructor
  · intro h
    rcases List.mem_append.mp h with h | h
    · exact .inr (List.mem_of_mem_take h)
    · rcases List.mem_cons.mp h with h | h
      · exact .inl h
      · exact .inr (List.mem_of_mem_drop h)
  · rintro (h | h)
    · exact List.mem_append_right _ (by rw [h]; exact List.mem_cons_self)
    · rw [← List.take_append_drop (spot ops p) ops] at h
      rcases List.mem_append.mp h with h | h
      · exact List.mem_append_left _ h
      · exact List.mem_append_right _ (List.mem_cons_of_mem _ h)
theorem addO_nodup {ops : List (Nat × Nat)} {i p : Nat} (h : (ops.map (·.1)).Nodup) (hi : i ∉ ops.map (·.1)) : ((addO ops i p).map (·.1)).Nodup := by
  unfold addO
  have e : (ops.take (spot ops p) ++ (i, p) :: ops.drop (spot ops p)).map (·.1) = (ops.map (·.1)).take (spot ops p) ++ i :: (ops.map (·.1)).drop (spot ops p) := by simp
  rw [e]
  generalize ops.map (·.1) = l at *
  generalize spot ops p = k
  have h2 : (l.take k ++ i :: l.drop k).Perm (i :: l) := by
    have := List.perm_middle (a := i) (l₁ := l.take k) (l₂ := l.drop k)
    rwa [List.take_append_drop] at this
  exact h2.nodup_iff.mpr (List.nodup_cons.mpr ⟨hi, h⟩)
theorem OpsOk.add {P : Bw} {M : Mc} {ops : List (Nat × Nat)} {up : List MObj} (O : OpsOk P (M.ops (ops, up)) ops) (p : Nat) (hf : ops.length + 1 ≤ 50000) :
    OpsOk P (M.ops (addO ops up.length p, up ++ [opU P p])) (addO ops up.length p) := by
  have hlt : ∀ q ∈ ops, q.1 < up.length := fun q hq => (List.getElem?_eq_some_iff.mp (O.up q hq)).1
  refine ⟨rfl, fun q hq => ?_, addO_nodup O.nodup (fun hm => ?_), by rw [addO_len]; exact hf⟩
  · rcases addO_mem.mp hq with rfl | hq
    · simp
    · have := O.up q hq
      show (up ++ [opU P p])[q.1]? = _
      rw [List.getElem?_append_left (hlt q hq)]; exact this
  · obtain ⟨q, hq, e⟩ := List.mem_map.mp hm
    have := hlt q hq
    lia
theorem ok_pick (P : Bw) (M : Mc) (d base : Nat) (kept : List Nat) (w : Bool × Nat) (s : List (Nat × Nat) × List MObj) (O : OpsOk P (M.ops s) s.1) (hw : w.1 = false) :
    callD tab0 (d + 5) (.fn 28) [gref P, .int (base + w.2 : Nat)] (enc P (M.ops s)) = some (uref (pick P kept base w s).1, enc P (M.ops (pick P kept base w s).2)) := by
  obtain ⟨ops, up⟩ := s
  unfold pick
  rw [hw]
  simp only [Bool.false_eq_true, if_false]
  cases h : (ops[spot ops (base + w.2)]?).filter (fun q => q.2 == base + w.2) with
  | some q =>
    obtain ⟨h1, h2⟩ := Option.filter_eq_some_iff.mp h
    exact ok_find_old P (M.ops (ops, up)) d (base + w.2) ops O q h1 (by simpa using h2)
  | none =>
    refine ok_find_new P (M.ops (ops, up)) d (base + w.2) ops O fun q hq => ?_
    intro e
    rw [hq] at h
    simp [Option.filter, e] at h
theorem OpsOk.pick {P : Bw} {M : Mc} {base : Nat} {kept : List Nat} {w : Bool × Nat} {s : List (Nat × Nat) × List MObj} (O : OpsOk P (M.ops s) s.1) (hf : s.1.length + 1 ≤ 50000) :
    OpsOk P (M.ops (pick P kept base w s).2) (pick P kept base w s).2.1 := by
  obtain ⟨ops, up⟩ := s
  unfold Mine.pick
  split
  · exact O
  · split
    · exact O
    · exact OpsOk.add O _ hf
theorem pick_len (P : Bw) (kept : List Nat) (base : Nat) (w : Bool × Nat) (s : List (Nat × Nat) × List MObj) : (pick P kept base w s).2.1.length ≤ s.1.length + 1 := by
  unfold pick
  split
  · simp
  · split
    · simp
    · simp [addO_len]
theorem shr (ik : Bool) (num : Nat) (hn : num < 4) : binop .RShift (.int (wordOf ik num)) (.int 23) = some (.int num) := by
  have e : binop .RShift (.int (wordOf ik num)) (.int 23) = some (.int (((wordOf ik num : Nat) : Int) / 8388608)) := by
    show (if 0 ≤ ((wordOf ik num : Nat) : Int) ∧ (0 : Int) ≤ 23 ∧ (23 : Int) < 64 then some (V.int (((wordOf ik num : Nat) : Int) / 2 ^ (23 : Int).toNat)) else Option.none) = _
    rw [if_pos ⟨Int.natCast_nonneg _, by decide, by decide⟩]
    congr 2
  rw [e, word_shift ik num hn]
end Mine
end
section
set_option maxRecDepth 100000
namespace Mine
noncomputable abbrev Mc.tm (M : Mc) (t : List MObj) : Mc := { M with tmp := t }
theorem OpsOk.tm {P : Bw} {M : Mc} {ops : List (Nat × Nat)} (O : OpsOk P M ops) (t : List MObj) : OpsOk P (M.tm t) ops := ⟨O.opens, O.up, O.nodup, O.few⟩
theorem loopF_list {α : Type} {b : V → List V → St → Option (Fl × List V × St)} (f : α → V) (I : List α → List V → St → Prop) (step : ∀ x r m s, I (x :: r) m s → ∃ m' s', b (f x) m s = some (.next, m', s') ∧ I r m' s') :
    ∀ (xs : List α) (m : List V) (s : St), I xs m s → ∃ m' s', loopF b (xs.map f) m s = some (.next, m', s') ∧ I [] m' s' := by
  intro xs
  induction xs with
  | nil => exact fun m s h => ⟨m, s, rfl, h⟩
  | cons x r ih =>
    intro m s h
    obtain ⟨m₁, s₁, e, h₁⟩ := step x r m s h
    obtain ⟨m₂, s₂, e₂, h₂⟩ := ih m₁ s₁ h₁
    exact ⟨m₂, s₂, bind_eq e e₂, h₂⟩
noncomputable def sharedB : List MS := [.asg (.loc 9) (.bin .RShift (.loc 8) (.glob "TOLD_AT" (.int 23))),
      .expr (.append (.loc 7) (.ite (.call (.glob "is_kept_word" (.fn 23)) [.loc 8]) (.idx (.loc 3) (.loc 9)) (.call (.loc 6) [.loc 4, .bin .Add (.loc 5) (.loc 9)])))]
theorem turn_shared (P : Bw) (M : Mc) (d base c n : Nat) (kept : List Nat) (w : Bool × Nat) (wd : Nat) (s0 : List (Nat × Nat) × List MObj) (fnd : List Nat) (b : V)
    (k1 : ∀ σ, callD tab0 (d + 5) (.fn 23) [.int wd] σ = some (.bool w.1, σ)) (k2 : binop .RShift (.int wd) (.int 23) = some (.int w.2)) (hwk : w.1 = true → w.2 < kept.length) (hl : fnd.length ≤ 1000) (O : OpsOk P (M.ops s0) s0.1) :
    exs (callD tab0 (d + 5)) sharedB [.ref .tmp c, .int 0, .int n, .lst (kept.map uref), gref P, .int base, .fn 28, .ref .tmp M.tmp.length, .int wd, b] (enc P ((M.tm (M.tmp ++ [.list (fnd.map uref)])).ops s0)) =
      some (.next, [.ref .tmp c, .int 0, .int n, .lst (kept.map uref), gref P, .int base, .fn 28, .ref .tmp M.tmp.length, .int wd, .int w.2], enc P ((M.tm (M.tmp ++ [.list ((fnd ++ [(pick P kept base w s0).1]).map uref)])).ops (pick P kept base w s0).2)) := by
  have c1 : okLen ((fnd.map uref).length + 1) = true := okLen_of (k := 1001) (by rw [List.length_map]; exact Nat.succ_le_succ hl) rfl
  refine exs_step (m' := [.ref .tmp c, .int 0, .int n, .lst (kept.map uref), gref P, .int base, .fn 28, .ref .tmp M.tmp.length, .int wd, .int w.2]) (x_asg' (r_bin rfl r_glob k2) rfl) ?_
  rw [List.map_append]
  clear k2
  generalize fnd.map uref = fl at c1 ⊢
  obtain ⟨ik, num⟩ := w
  cases ik with
  | true =>
    have hlt : num < (kept.map uref).length := by rw [List.length_map]; exact hwk rfl
    have k3 : (kept.map uref)[num]? = some (uref ((kept[num]?).getD 0)) := by rw [List.getElem?_map, List.getElem?_eq_getElem (hwk rfl)]; rfl
    exact exs_step (x_expr' (r_append rfl (r_iteT (t_call r_glob (r_cons rfl r_nil) (k1 _)) (r_idx rfl rfl rfl (place_nat hlt) k3)) (t_new rfl rfl) (t_new rfl rfl) c1 (t_newS rfl))) exs_end
  | false =>
    have k6 := ok_pick P (M.tm (M.tmp ++ [.list fl])) d base kept (false, num) s0 (O.tm _) rfl
    generalize callD tab0 (d + 5) = cl at *
    generalize pick P kept base (false, num) s0 = pk at k6 ⊢
    exact exs_step (x_expr' (r_append rfl (r_iteF (t_call r_glob (r_cons rfl r_nil) (k1 _)) (r_call rfl (r_cons rfl (r_cons (r_bin rfl rfl (b_add rfl)) r_nil)) k6)) (t_new rfl rfl) (t_new rfl rfl) c1 (t_newS rfl))) exs_end
noncomputable def mSh (P : Bw) (M : Mc) (c n base : Nat) (kept : List Nat) (a b : V) : List V := [.ref .tmp c, .int 0, .int n, .lst (kept.map uref), gref P, .int base, .fn 28, .ref .tmp M.tmp.length, a, b]
noncomputable def sSh (P : Bw) (M : Mc) (fnd : List Nat) (s0 : List (Nat × Nat) × List MObj) : St := enc P ((M.tm (M.tmp ++ [.list (fnd.map uref)])).ops s0)
structure ShOk (P : Bw) (M : Mc) (base : Nat) (kept : List Nat) (F : List Nat × List (Nat × Nat) × List MObj) (rest : List (Bool × Nat)) (s0 : List (Nat × Nat) × List MObj) (fnd : List Nat) : Prop where
  got : fnd ++ (picks P kept base rest s0).1 = F.1
  left : (picks P kept base rest s0).2 = F.2
  ops : OpsOk P (M.ops s0) s0.1
  room : s0.1.length + rest.length ≤ 40000
  few : fnd.length + rest.length ≤ 1000
  words : ∀ w ∈ rest, w.2 < 4 ∧ (w.1 = true → w.2 < kept.length)
theorem ShOk.turn {P : Bw} {M : Mc} {base : Nat} {kept : List Nat} {F : List Nat × List (Nat × Nat) × List MObj} {w : Bool × Nat} {r : List (Bool × Nat)} {s0 : List (Nat × Nat) × List MObj} {fnd : List Nat} (h : ShOk P M base kept F (w :: r) s0 fnd) :
    ShOk P M base kept F r (pick P kept base w s0).2 (fnd ++ [(pick P kept base w s0).1]) where
  got := by rw [List.append_assoc]; exact h.got
  left := h.left
  ops := OpsOk.pick h.ops (Nat.lt_of_le_of_lt (Nat.le_trans (Nat.le_add_right _ _) h.room) (by decide))
  room := by
    have q : (pick P kept base w s0).2.1.length + r.length ≤ s0.1.length + 1 + r.length := Nat.add_le_add_right (pick_len P kept base w s0) _
    rw [Nat.add_assoc, Nat.add_comm 1] at q
    exact Nat.le_trans q h.room
  few := by
    have q := h.few
    rw [List.length_append, Nat.add_assoc, Nat.add_comm [_].length]
    exact q
  words := fun w' hw' => h.words w' (List.mem_cons_of_mem _ hw')
inductive ShAt (P : Bw) (M : Mc) (c n base : Nat) (kept : List Nat) (F : List Nat × List (Nat × Nat) × List MObj) : List (Bool × Nat) → List V → St → Prop
  | mk {rest : List (Bool × Nat)} {s0 : List (Nat × Nat) × List MObj} {fnd : List Nat} {a b : V} : ShOk P M base kept F rest s0 fnd → ShAt P M c n base kept F rest (mSh P M c n base kept a b) (sSh P M fnd s0)
theorem ShAt.inv {P : Bw} {M : Mc} {c n base : Nat} {kept : List Nat} {F : List Nat × List (Nat × Nat) × List MObj} {rest : List (Bool × Nat)} {m : List V} {σ : St} (h : ShAt P M c n base kept F rest m σ) :
    ∃ s0 fnd a b, ShOk P M base kept F rest s0 fnd ∧ m = mSh P M c n base kept a b ∧ σ = sSh P M fnd s0 := by
  cases h with
  | mk h => exact ⟨_, _, _, _, h, rfl, rfl⟩
theorem shared_loop (P : Bw) (M : Mc) (d base c n : Nat) (kept : List Nat) (ws : List (Bool × Nat)) (s : List (Nat × Nat) × List MObj) (h : ShOk P M base kept (picks P kept base ws s) ws s []) :
    ∃ m' s', loopF (fun x m τ => (putNm 8 x m).bind fun m₂ => exs (callD tab0 (d + 5)) sharedB m₂ τ) (ws.map fun w => .int (wordOf w.1 w.2)) (mSh P M c n base kept .undef .undef) (sSh P M [] s) = some (.next, m', s') ∧ ShAt P M c n base kept (picks P kept base ws s) [] m' s' := by
  refine loopF_list (b := fun x m τ => (putNm 8 x m).bind fun m₂ => exs (callD tab0 (d + 5)) sharedB m₂ τ) (fun w : Bool × Nat => .int (wordOf w.1 w.2)) (ShAt P M c n base kept (picks P kept base ws s)) (fun w r m τ h => ?_) ws _ _ (.mk h)
  obtain ⟨s0, fnd, a, b, h, e1, e2⟩ := h.inv
  obtain ⟨hw4, hwk⟩ := h.words w List.mem_cons_self
  have ht := turn_shared P M d base c n kept w (wordOf w.1 w.2) s0 fnd b (fun σ => ok_is_kept_word (d + 4) σ w.1 w.2 hw4) (shr w.1 w.2 hw4) hwk (Nat.le_trans (Nat.le_add_right _ _) h.few) h.ops
  rw [e1, e2]
  exact ⟨_, _, bind_eq (if_eq (Nat.le_of_ble_eq_true rfl) rfl) ht, .mk h.turn⟩
theorem ok_shared (P : Bw) (M : Mc) (d base c : Nat) (kept : List Nat) (ws : List (Bool × Nat)) (hc : M.tmp[c]? = some (.list (ws.map fun w => .int (wordOf w.1 w.2)))) (hw : ∀ w ∈ ws, w.2 < 4 ∧ (w.1 = true → w.2 < kept.length))
    (s : List (Nat × Nat) × List MObj) (O : OpsOk P (M.ops s) s.1) (hf : s.1.length + ws.length ≤ 40000) (hl : ws.length ≤ 1000) :
    callD tab0 (d + 6) (.fn 24) [.ref .tmp c, .int 0, .int ws.length, .lst (kept.map uref), gref P, .int base, .fn 28] (enc P (M.ops s)) =
      some (.tup [.lst ((picks P kept base ws s).1.map uref), .int ws.length], enc P ((M.tm (M.tmp ++ [.gone])).ops (picks P kept base ws s).2)) := by
  have hcl := (List.getElem?_eq_some_iff.mp hc).1
  refine call_go [.ref .tmp c, .int 0, .int ws.length, .lst (kept.map uref), gref P, .int base, .fn 28, .undef, .undef, .undef] (n := 24) rfl rfl rfl ?_
  refine fin_step (m' := [.ref .tmp c, .int 0, .int ws.length, .lst (kept.map uref), gref P, .int base, .fn 28, .ref .tmp M.tmp.length, .undef, .undef]) (σ' := enc P ((M.tm (M.tmp ++ [.list []])).ops s)) (x_asg' (r_newl r_nil (p_tmp P _ _)) rfl) ?_
  obtain ⟨m', s', hL, hI⟩ := shared_loop P M d base c ws.length kept ws s ⟨rfl, rfl, O, hf, (Nat.zero_add _).symm ▸ hl, hw⟩
  obtain ⟨s0, fnd, a, b, hJ, rfl, rfl⟩ := hI.inv
  clear hI
  rw [← hJ.got, ← hJ.left, show picks P kept base [] s0 = ([], s0) from rfl, List.append_nil]
  have c2 := cut_some (ws.map fun w => V.int (wordOf w.1 w.2)) 0 ws.length (Nat.zero_le _) (by rw [List.length_map]; exact Nat.le_refl _)
  rw [List.drop_zero, Nat.sub_zero, List.take_of_length_le (by rw [List.length_map]; exact Nat.le_refl _)] at c2
  refine fin_step (x_forS' (r_slcAB rfl rfl (r_bin rfl rfl (b_add (Int.zero_add _))) ?_) hL) ?_
  · show ((enc P _).lst .tmp c).map _ = _
    rw [t_at (show (M.tmp ++ [.list []])[c]? = _ by rw [List.getElem?_append_left hcl]; exact hc)]
    exact congrArg (fun l => some (V.lst l)) c2
  · exact fin_ret (r_tup (r_cons (r_freeze rfl (t_new rfl rfl) (t_newS rfl)) (r_cons (r_bin rfl rfl (b_add (Int.zero_add _))) r_nil)))
end Mine
end
section
set_option maxRecDepth 100000
namespace Mine
noncomputable def lay (kept : List Nat) (size : Nat) (w : Nat × Nat) : Bool × Nat := (w.1 == 1 && !kept.isEmpty, if w.1 == 1 && !kept.isEmpty then w.2 % kept.length else w.2 % size)
theorem mod_nat (a b : Nat) (h : b ≠ 0) : binop .Mod (.int a) (.int b) = some (.int (a % b : Nat)) := by
  show (if ¬ ((b : Nat) : Int) = 0 then some (V.int (Int.fmod (a : Int) (b : Int))) else Option.none) = _
  rw [if_pos (by lia)]
  rw [Int.fmod_eq_emod_of_nonneg _ (Int.natCast_nonneg _)]
  rfl
noncomputable def madeB : List MS := [.asg (.loc 9) (.bop true [.cmp .Eq (.loc 7) (.con (.int 1)), .cmp .NotEq (.loc 2) (.lst [])]),
  .expr (.append (.loc 5) (.call (.glob "word_of" (.fn 22)) [.loc 9, .ite (.loc 9) (.bin .Mod (.loc 8) (.len (.loc 2))) (.bin .Mod (.loc 8) (.loc 4))]))]
theorem turn_made (P : Bw) (M : Mc) (d size j : Nat) (kept : List Nat) (words : V) (w : Nat × Nat) (ws : List (Bool × Nat)) (b : V) (hsz : size ≠ 0) (hw : w.2 < 4) (hl : ws.length ≤ 1000) :
    exs (callD tab0 (d + 1)) madeB [wref P, words, .lst (kept.map uref), fref j, .int size, .ref .tmp M.tmp.length, .ref .known (P.n .known), .int w.1, .int w.2, b, .undef, .undef, .undef] (enc P (M.tm (M.tmp ++ [.list (ws.map fun w => .int (wordOf w.1 w.2))]))) =
      some (.next, [wref P, words, .lst (kept.map uref), fref j, .int size, .ref .tmp M.tmp.length, .ref .known (P.n .known), .int w.1, .int w.2, .bool (lay kept size w).1, .undef, .undef, .undef], enc P (M.tm (M.tmp ++ [.list ((ws ++ [lay kept size w]).map fun w => .int (wordOf w.1 w.2))]))) := by
  obtain ⟨w1, w2⟩ := w
  have hlay : ev (callD tab0 (d + 1)) (.bop true [.cmp .Eq (.loc 7) (.con (.int 1)), .cmp .NotEq (.loc 2) (.lst [])]) [wref P, words, .lst (kept.map uref), fref j, .int size, .ref .tmp M.tmp.length, .ref .known (P.n .known), .int w1, .int w2, b, .undef, .undef, .undef] (enc P (M.tm (M.tmp ++ [.list (ws.map fun w => .int (wordOf w.1 w.2))]))) = some (.bool (lay kept size (w1, w2)).1, enc P (M.tm (M.tmp ++ [.list (ws.map fun w => .int (wordOf w.1 w.2))]))) := by
    by_cases h1 : w1 = 1
    · subst h1
      refine r_bop (v_and1 (r_cmp rfl r_con (c_eq rfl)) (v_one (r_cmp rfl (r_lst r_nil) ?_)))
      cases kept <;> rfl
    · have e : (lay kept size (w1, w2)).1 = false := congrArg (fun b => b && !kept.isEmpty) (beq_eq_false_iff_ne.mpr h1)
      rw [e]
      exact r_bop (v_and0 (r_cmp rfl r_con (c_neq fun h => h1 (Int.ofNat_inj.mp h))))
  refine exs_step (m' := [wref P, words, .lst (kept.map uref), fref j, .int size, .ref .tmp M.tmp.length, .ref .known (P.n .known), .int w1, .int w2, .bool (lay kept size (w1, w2)).1, .undef, .undef, .undef]) (x_asg' hlay rfl) ?_
  clear hlay
  have h4 : (lay kept size (w1, w2)).2 < 4 := by
    unfold lay; simp only
    split
    · exact Nat.lt_of_le_of_lt (Nat.mod_le _ _) hw
    · exact Nat.lt_of_le_of_lt (Nat.mod_le _ _) hw
  have hwd := ok_word_of d (enc P (M.tm (M.tmp ++ [.list (ws.map fun w => .int (wordOf w.1 w.2))]))) (lay kept size (w1, w2)).1 (lay kept size (w1, w2)).2 h4
  have hev : ev (callD tab0 (d + 1)) (.ite (.loc 9) (.bin .Mod (.loc 8) (.len (.loc 2))) (.bin .Mod (.loc 8) (.loc 4))) [wref P, words, .lst (kept.map uref), fref j, .int size, .ref .tmp M.tmp.length, .ref .known (P.n .known), .int w1, .int w2, .bool (lay kept size (w1, w2)).1, .undef, .undef, .undef] (enc P (M.tm (M.tmp ++ [.list (ws.map fun w => .int (wordOf w.1 w.2))]))) = some (.int (lay kept size (w1, w2)).2, enc P (M.tm (M.tmp ++ [.list (ws.map fun w => .int (wordOf w.1 w.2))]))) := by
    generalize enc P (M.tm (M.tmp ++ [.list (ws.map fun w => .int (wordOf w.1 w.2))])) = σ
    generalize callD tab0 (d + 1) = cl
    cases hb : (lay kept size (w1, w2)).1 with
    | true =>
      have e : (lay kept size (w1, w2)).2 = w2 % kept.length := if_pos hb
      have hk : kept.length ≠ 0 := by
        intro h0; have := List.length_eq_zero_iff.mp h0; subst this
        exact absurd (b2 hb) Bool.false_ne_true
      refine r_iteT (t_loc rfl) (r_bin rfl (r_len rfl rfl) ?_)
      rw [e, List.length_map]
      exact mod_nat w2 kept.length hk
    | false =>
      have e : (lay kept size (w1, w2)).2 = w2 % size := if_neg (by rw [show (w1 == 1 && !kept.isEmpty) = false from hb]; exact Bool.false_ne_true)
      rw [e]
      exact r_iteF (t_loc rfl) (r_bin rfl rfl (mod_nat w2 size hsz))
  rw [List.map_append]
  have c1 : okLen ((ws.map fun w => V.int (wordOf w.1 w.2)).length + 1) = true := okLen_of (k := 1001) (by rw [List.length_map]; exact Nat.succ_le_succ hl) rfl
  generalize callD tab0 (d + 1) = cl at *
  exact exs_step (x_expr' (r_append rfl (r_call r_glob (r_cons rfl (r_cons hev r_nil)) hwd) (t_new rfl rfl) (t_new rfl rfl) c1 (t_newS rfl))) exs_end
inductive Grows (u0 : Nat) : Nat → List Nat → Nat → Prop
  | nil (n : Nat) : Grows u0 n [] n
  | old {n n' i : Nat} {r : List Nat} : u0 ≤ i → i < n → Grows u0 n r n' → Grows u0 n (i :: r) n'
  | new {n n' : Nat} {r : List Nat} : u0 ≤ n → Grows u0 (n + 1) r n' → Grows u0 n (n :: r) n'
theorem Grows.le {u0 n n' : Nat} {r : List Nat} (g : Grows u0 n r n') : n ≤ n' := by
  induction g with
  | nil => exact Nat.le_refl _
  | old _ _ _ ih => exact ih
  | new _ _ ih => omega
theorem Grows.mem {u0 n n' : Nat} {r : List Nat} (g : Grows u0 n r n') : ∀ i ∈ r, u0 ≤ i ∧ i < n' := by
  induction g with
  | nil => simp
  | old h1 h2 g ih => intro i hi; rcases List.mem_cons.mp hi with rfl | hi
                      · exact ⟨h1, Nat.lt_of_lt_of_le h2 g.le⟩
                      · exact ih i hi
  | new h1 g ih => intro i hi; rcases List.mem_cons.mp hi with rfl | hi
                   · exact ⟨h1, Nat.lt_of_lt_of_le (Nat.lt_succ_self _) g.le⟩
                   · exact ih i hi
theorem gather_flat {α : Type} {f : Nat → St → Option (List V × St)} {σ : St} (h : Nat → α → List V) : ∀ (xs : List α) (j : Nat), (∀ i x, xs[i]? = some x → f (j + i) σ = some (h (j + i) x, σ)) → gather f xs.length j σ = some ((xs.zipIdx j).flatMap (fun p => h p.2 p.1), σ)
  | [], j, hf => rfl
  | x :: r, j, hf => by
    have h0 := hf 0 x rfl
    rw [Nat.add_zero] at h0
    simp only [List.length_cons, gather, h0, Option.bind_some]
    rw [gather_flat h r (j + 1) fun i y hi => by rw [show j + 1 + i = j + (i + 1) by lia]; exact hf (i + 1) y hi]
    rfl
noncomputable def kn (u0 n : Nat) : List V := (List.range' u0 (n - u0)).map uref
theorem kn_len (u0 n : Nat) : (kn u0 n).length = n - u0 := by simp [kn]
theorem kn_get {u0 n i : Nat} {x : V} (h : (kn u0 n)[i]? = some x) : x = uref (u0 + i) ∧ u0 + i < n := by
  have hi := (List.getElem?_eq_some_iff.mp h).1
  rw [kn_len] at hi
  unfold kn at h
  rw [List.getElem?_map, List.getElem?_range' hi] at h
  simp at h
  exact ⟨h.symm, by lia⟩
theorem kn_succ {u0 n : Nat} (h : u0 ≤ n) : kn u0 (n + 1) = kn u0 n ++ [uref n] := by
  unfold kn
  rw [show n + 1 - u0 = (n - u0) + 1 by lia, List.range'_concat]
  simp
  lia
end Mine
end
section
set_option maxRecDepth 100000
namespace Mine
theorem flat_range (g : Nat → Nat → List V) (id : Nat) : ∀ (m u j : Nat), ((List.range' u m).zipIdx j).flatMap (fun p => if p.1 = id then g p.2 p.1 else []) = if u ≤ id ∧ id < u + m then g (j + (id - u)) id else []
  | 0, u, j => by rw [if_neg (by lia)]; rfl
  | m + 1, u, j => by
    rw [List.range'_succ, List.zipIdx_cons, List.flatMap_cons, flat_range g id m (u + 1) (j + 1)]
    by_cases h : u = id
    · subst h
      rw [if_pos rfl, if_neg (by lia), if_pos (by lia)]; simp
    · rw [if_neg h]
      by_cases h2 : u + 1 ≤ id ∧ id < u + 1 + m
      · rw [if_pos h2, if_pos (by lia), show j + 1 + (id - (u + 1)) = j + (id - u) by lia]; rfl
      · rw [if_neg h2, if_neg (by lia)]; rfl
noncomputable def UpsIn (u0 : Nat) (up : List MObj) : Prop := ∀ i, u0 ≤ i → i < up.length → ∃ vs, up[i]? = some (.inst vs)
theorem up_ins {P : Bw} {M : Mc} {i : Nat} {vs : List V} (h : M.up[i]? = some (.inst vs)) : (enc P M).ins .upval i = some vs := u_at h
theorem up_lst0 {P : Bw} {M : Mc} {i : Nat} {vs : List V} (h : M.up[i]? = some (.inst vs)) : (enc P M).lst .upval i = Option.none := by
  show (match M.up[i]? with | some (.list vs) => some vs | _ => Option.none) = _
  rw [h]
theorem up_eq {P : Bw} {M : Mc} {i k : Nat} {vs ws : List V} (h : M.up[i]? = some (.inst vs)) (h2 : M.up[k]? = some (.inst ws)) : cmpop (enc P M) .Eq (deref (enc P M) (uref i)) (deref (enc P M) (uref k)) = some (i == k) := by
  rw [deref_ref (up_lst0 h), deref_ref (up_lst0 h2)]
  exact if_pos ⟨rfl, rfl, some_is (up_ins h), some_is (up_ins h2)⟩
theorem item_known {P : Bw} {M : Mc} {l : List V} (hk : M.known = l) {n : Nat} (hn : l.length = n) (i : Nat) : turnItem (enc P M) (.ref .known (P.n .known)) n i = l[i]? := by
  show (match (enc P M).lst .known (P.n .known) with | some vs => if vs.length = n then vs[i]? else Option.none | Option.none => Option.none) = _
  rw [e_known, hk]; exact if_pos hn
theorem turns_known {P : Bw} {M : Mc} {l : List V} (hk : M.known = l) {n : Nat} (hn : l.length = n) : turns (enc P M) (.ref .known (P.n .known)) = some n := by
  show ((enc P M).lst .known (P.n .known)).map List.length = _
  rw [e_known, hk, ← hn]; rfl
theorem r_compSC {cl : CallF} {elt src cond : ME} {m : List V} {σ σ₁ σ₂ : St} {x : V} {c : Nat} {ys : List V} (h1 : ev cl src m σ = some (x, σ₁)) (h2 : turns σ₁ x = some c)
    (h3 : gather (fun j τ => (turnItem τ x c j).bind fun z => (evT cl cond (m ++ [z]) τ).bind fun (b, τ₀) => if b then (ev cl elt (m ++ [z]) τ₀).bind fun (y, τ₁) => some ([y], τ₁) else some ([], τ₀)) c 0 σ₁ = some (ys, σ₂)) (h4 : turns σ₂ x = some c) : ev cl (.compSC elt src cond) m σ = some (.lst ys, σ₂) :=
  bind_eq h1 (bind_eq h2 (bind_eq h3 (if_eq h4 rfl)))
theorem r_compEC {cl : CallF} {elt src cond : ME} {m : List V} {σ σ₁ σ₂ : St} {x : V} {c : Nat} {ys : List V} (h1 : ev cl src m σ = some (x, σ₁)) (h2 : turns σ₁ x = some c)
    (h3 : gather (fun j τ => (turnItem τ x c j).bind fun z => (evT cl cond (m ++ [.int j, z]) τ).bind fun (b, τ₀) => if b then (ev cl elt (m ++ [.int j, z]) τ₀).bind fun (y, τ₁) => some ([y], τ₁) else some ([], τ₀)) c 0 σ₁ = some (ys, σ₂)) (h4 : turns σ₂ x = some c) : ev cl (.compEC elt src cond) m σ = some (.lst ys, σ₂) :=
  bind_eq h1 (bind_eq h2 (bind_eq h3 (if_eq h4 rfl)))
theorem gather_same (P : Bw) (M : Mc) (u0 n id : Nat) (f : Nat → St → Option (List V × St)) (g : Nat → Nat → List V) (hn : n ≤ M.up.length) (hid : id < M.up.length) (h0 : u0 ≤ id) (U : UpsIn u0 M.up)
    (hf : ∀ i k b, cmpop (enc P M) .Eq (deref (enc P M) (uref k)) (deref (enc P M) (uref id)) = some b → (kn u0 n)[i]? = some (uref k) → f i (enc P M) = some (if b then g i k else [], enc P M)) :
    gather f (n - u0) 0 (enc P M) = some (if id < n then g (id - u0) id else [], enc P M) := by
  have hl : n - u0 = (List.range' u0 (n - u0)).length := List.length_range'.symm
  have h := gather_flat (f := f) (σ := enc P M) (fun i k => if k = id then g i k else []) (List.range' u0 (n - u0)) 0 fun i k hx => by
    obtain ⟨q1, q2⟩ := List.mem_range'_1.mp (List.mem_of_getElem? hx)
    obtain ⟨vs, hv⟩ := U k q1 (by lia)
    obtain ⟨ws, hw⟩ := U id h0 hid
    rw [Nat.zero_add]
    refine (hf i k (k == id) (up_eq hv hw) (by unfold kn; rw [List.getElem?_map, hx]; rfl)).trans ?_
    by_cases e : k = id
    · rw [if_pos e, if_pos (beq_iff_eq.mpr e)]
    · rw [if_neg e, if_neg (by rw [beq_eq_false_iff_ne.mpr e]; exact Bool.false_ne_true)]
  rw [← hl, flat_range g id, Nat.zero_add] at h
  rw [h]
  by_cases q : id < n
  · rw [if_pos (by lia), if_pos q]
  · rw [if_neg (by lia), if_neg q]
noncomputable def knownB : List MS := [.ite (.cmp .Eq (.compSC (.loc 13) (.loc 6) (.cmp .Eq (.loc 13) (.loc 12))) (.lst [])) [.expr (.append (.loc 6) (.loc 12))] []]
theorem turn_known (P : Bw) (M : Mc) (cl : CallF) (u0 n id : Nat) (m0 m1 m2 m3 m4 m5 a b c d e : V) (hk : M.known = kn u0 n) (hn : n ≤ M.up.length) (hid : id < M.up.length) (h0 : u0 ≤ id) (U : UpsIn u0 M.up) (hl : n ≤ 50000) (hid2 : id < n ∨ id = n ∧ u0 ≤ n) :
    exs cl knownB [m0, m1, m2, m3, m4, m5, .ref .known (P.n .known), a, b, c, d, e, uref id] (enc P M) =
      some (.next, [m0, m1, m2, m3, m4, m5, .ref .known (P.n .known), a, b, c, d, e, uref id], enc P { M with known := kn u0 (max n (id + 1)) }) := by
  have hg : ev cl (.compSC (.loc 13) (.loc 6) (.cmp .Eq (.loc 13) (.loc 12))) [m0, m1, m2, m3, m4, m5, .ref .known (P.n .known), a, b, c, d, e, uref id] (enc P M) = some (.lst (if id < n then [uref id] else []), enc P M) := by
    refine r_compSC rfl (turns_known hk (kn_len u0 n)) (gather_same P M u0 n id _ (fun _ k => [uref k]) hn hid h0 U fun i k q hq hkk => ?_) (turns_known hk (kn_len u0 n))
    refine bind_eq ((item_known hk (kn_len u0 n) i).trans hkk) (bind_eq (t_cmp rfl rfl hq) ?_)
    cases q <;> rfl
  have st : ex cl (.ite (.cmp .Eq (.compSC (.loc 13) (.loc 6) (.cmp .Eq (.loc 13) (.loc 12))) (.lst [])) [.expr (.append (.loc 6) (.loc 12))] []) [m0, m1, m2, m3, m4, m5, .ref .known (P.n .known), a, b, c, d, e, uref id] (enc P M) =
      some (.next, [m0, m1, m2, m3, m4, m5, .ref .known (P.n .known), a, b, c, d, e, uref id], enc P { M with known := kn u0 (max n (id + 1)) }) := by
    clear U hn hid h0
    by_cases h : id < n
    · rw [if_pos h] at hg
      rw [Nat.max_eq_left h, ← hk]
      exact x_if0 (t_cmp hg (r_lst r_nil) rfl) exs_end
    · rw [if_neg h] at hg
      obtain ⟨h2, h3⟩ := hid2.resolve_left h
      subst h2
      rw [Nat.max_eq_right (Nat.le_succ id), kn_succ h3, ← hk]
      exact x_if1 (t_cmp hg (r_lst r_nil) rfl) (exs_step (x_expr' (r_append rfl rfl (e_known _ _) (e_known _ _) (okLen_of (k := 50001) (by rw [hk, kn_len]; exact Nat.succ_le_succ (Nat.le_trans (Nat.sub_le _ _) hl)) rfl) (s_known _ _ _))) exs_end)
  exact exs_step st exs_end
theorem loop_known (P : Bw) (cl : CallF) (u0 : Nat) (m0 m1 m2 m3 m4 m5 a b c d : V) (M : Mc) (e : V) : ∀ (ids : List Nat) (n n' : Nat) (x : V), Grows u0 n ids n' → n' ≤ M.up.length → u0 ≤ n → UpsIn u0 M.up → n' ≤ 50000 → ids.length ≤ 1000 →
    ∃ y, loopF (fun x m τ => (putNm 12 x m).bind fun m₂ => exs cl knownB m₂ τ) (ids.map uref) [m0, m1, m2, m3, m4, m5, .ref .known (P.n .known), a, b, c, d, e, x] (enc P { M with known := kn u0 n }) =
      some (.next, [m0, m1, m2, m3, m4, m5, .ref .known (P.n .known), a, b, c, d, e, y], enc P { M with known := kn u0 n' })
  | [], n, n', x, g, _, _, _, _, _ => by cases g; exact ⟨x, rfl⟩
  | id :: r, n, n', x, g, h1, h2, U, h3, h4 => by
    have hm := g.mem id List.mem_cons_self
    have hle := g.le
    have key : id < n ∨ id = n ∧ u0 ≤ n := by
      cases g with
      | old q1 q2 _ => exact .inl q2
      | new q _ => exact .inr ⟨rfl, q⟩
    have gr : Grows u0 (max n (id + 1)) r n' := by
      cases g with
      | old q1 q2 g => rw [show max n (id + 1) = n by lia]; exact g
      | new q g => rw [show max id (id + 1) = id + 1 by lia]; exact g
    have ht := turn_known P { M with known := kn u0 n } cl u0 n id m0 m1 m2 m3 m4 m5 a b c d e rfl (by simp only; lia) (by simp only; lia) hm.1 U (by lia) key
    obtain ⟨y, hy⟩ := loop_known P cl u0 m0 m1 m2 m3 m4 m5 a b c d M e r (max n (id + 1)) n' (uref id) gr h1 (by lia) U h3 (by simp only [List.length_cons] at h4; lia)
    refine ⟨y, ?_⟩
    rw [List.map_cons]
    unfold loopF
    exact bind_eq (bind_eq (if_eq (Nat.le_of_ble_eq_true rfl) rfl) ht) hy
end Mine
end
section
set_option maxRecDepth 100000
namespace Mine
theorem picks_grows (P : Bw) (kept : List Nat) (base u0 : Nat) : ∀ (ws : List (Bool × Nat)) (s : List (Nat × Nat) × List MObj), (∀ i ∈ kept, u0 ≤ i ∧ i < s.2.length) → (∀ q ∈ s.1, u0 ≤ q.1 ∧ q.1 < s.2.length) → (∀ w ∈ ws, w.1 = true → w.2 < kept.length) → u0 ≤ s.2.length →
    Grows u0 s.2.length (picks P kept base ws s).1 (picks P kept base ws s).2.2.length
  | [], s, _, _, _, _ => .nil _
  | w :: r, s, hk, hq, hw, hu => by
    have hr : ∀ w' ∈ r, w'.1 = true → w'.2 < kept.length := fun w' h => hw w' (List.mem_cons_of_mem _ h)
    unfold picks
    cases hb : w.1 with
    | true =>
      have hlt := hw w List.mem_cons_self hb
      have e : pick P kept base w s = ((kept[w.2]?).getD 0, s) := by unfold pick; rw [hb]; rfl
      rw [e]
      have hm : (kept[w.2]?).getD 0 ∈ kept := by rw [List.getElem?_eq_getElem hlt]; exact List.getElem_mem hlt
      exact .old (hk _ hm).1 (hk _ hm).2 (picks_grows P kept base u0 r s hk hq hr hu)
    | false =>
      cases hf : (s.1[spot s.1 (base + w.2)]?).filter (fun q => q.2 == base + w.2) with
      | some q =>
        have e : pick P kept base w s = (q.1, s) := by unfold pick; rw [hb, hf]; rfl
        rw [e]
        have hm := List.mem_of_getElem? (Option.filter_eq_some_iff.mp hf).1
        exact .old (hq _ hm).1 (hq _ hm).2 (picks_grows P kept base u0 r s hk hq hr hu)
      | none =>
        have e : pick P kept base w s = (s.2.length, addO s.1 s.2.length (base + w.2), s.2 ++ [opU P (base + w.2)]) := by unfold pick; rw [hb, hf]; rfl
        rw [e]
        have hl : (s.2 ++ [opU P (base + w.2)]).length = s.2.length + 1 := by simp
        refine .new hu ?_
        have := picks_grows P kept base u0 r (addO s.1 s.2.length (base + w.2), s.2 ++ [opU P (base + w.2)]) (fun i hi => ⟨(hk i hi).1, by simp only [hl]; have := (hk i hi).2; lia⟩) (fun q hm => by
          simp only [hl]
          rcases addO_mem.mp hm with rfl | hm
          · exact ⟨hu, by simp⟩
          · have := hq q hm; exact ⟨this.1, by lia⟩) hr (by simp only [hl]; lia)
        simp only [hl] at this
        exact this
theorem picks_ups (P : Bw) (kept : List Nat) (base u0 : Nat) : ∀ (ws : List (Bool × Nat)) (s : List (Nat × Nat) × List MObj), UpsIn u0 s.2 → UpsIn u0 (picks P kept base ws s).2.2
  | [], s, h => h
  | w :: r, s, h => by
    unfold picks
    refine picks_ups P kept base u0 r _ ?_
    unfold pick
    split
    · exact h
    · split
      · exact h
      · intro i h1 h2
        simp only [List.length_append, List.length_cons, List.length_nil] at h2
        by_cases hi : i < s.2.length
        · obtain ⟨vs, hv⟩ := h i h1 hi
          exact ⟨vs, by rw [List.getElem?_append_left hi]; exact hv⟩
        · have : i = s.2.length := by lia
          subst this
          exact ⟨[.int 0, .int 0, .int 4, .ref .ground (P.n .ground), .int ((base + w.2 : Nat) : Int), .none], by simp⟩
theorem picks_len (P : Bw) (kept : List Nat) (base : Nat) : ∀ (ws : List (Bool × Nat)) (s : List (Nat × Nat) × List MObj), (picks P kept base ws s).1.length = ws.length ∧ (picks P kept base ws s).2.1.length ≤ s.1.length + ws.length ∧ (picks P kept base ws s).2.2.length ≤ s.2.length + ws.length
  | [], s => ⟨rfl, Nat.le_refl _, Nat.le_refl _⟩
  | w :: r, s => by
    have h := picks_len P kept base r (pick P kept base w s).2
    have h1 := pick_len P kept base w s
    have h2 : (pick P kept base w s).2.2.length ≤ s.2.length + 1 := by
      unfold pick
      split
      · simp
      · split <;> simp
    unfold picks
    simp only [List.length_cons]
    lia
theorem ev_which (P : Bw) (M : Mc) (cl : CallF) (u0 n : Nat) (ids : List Nat) (m0 m1 m2 m3 m4 m5 a b c : V) (k : Nat) (y : V) (hk : M.known = kn u0 n) (hn : n = M.up.length) (U : UpsIn u0 M.up) (hl : n ≤ 50000) (hids : ∀ i ∈ ids, u0 ≤ i ∧ i < n) (hlen : ids.length ≤ 50000) :
    ev cl (.bin .Add (.compS (.compEC (.loc 14) (.loc 6) (.cmp .Eq (.loc 15) (.loc 13))) (.loc 10)) (.lst [.loc 11])) [m0, m1, m2, m3, m4, m5, .ref .known (P.n .known), a, b, c, .lst (ids.map uref), .int k, y] (enc P M) =
      some (.lst (ids.map (fun id => .lst [.int ((id : Int) - u0)]) ++ [.int k]), enc P M) := by
  have hin : ∀ id, u0 ≤ id → id < n → ev cl (.compEC (.loc 14) (.loc 6) (.cmp .Eq (.loc 15) (.loc 13))) [m0, m1, m2, m3, m4, m5, .ref .known (P.n .known), a, b, c, .lst (ids.map uref), .int k, y, uref id] (enc P M) = some (.lst [.int ((id : Int) - u0)], enc P M) := by
    intro id h0 h1
    have hs := gather_same P M u0 n id (fun j τ => (turnItem τ (.ref .known (P.n .known)) (n - u0) j).bind fun z => (evT cl (.cmp .Eq (.loc 15) (.loc 13)) ([m0, m1, m2, m3, m4, m5, .ref .known (P.n .known), a, b, c, .lst (ids.map uref), .int k, y, uref id] ++ [.int j, z]) τ).bind fun (q, τ₀) => if q then (ev cl (.loc 14) ([m0, m1, m2, m3, m4, m5, .ref .known (P.n .known), a, b, c, .lst (ids.map uref), .int k, y, uref id] ++ [.int j, z]) τ₀).bind fun (y, τ₁) => some ([y], τ₁) else some ([], τ₀))
      (fun i _ => [.int (i : Nat)]) (Nat.le_of_eq hn) (hn ▸ h1) h0 U fun i k q hq hkk => by
        refine bind_eq ((item_known hk (kn_len u0 n) i).trans hkk) (bind_eq (t_cmp rfl rfl hq) ?_)
        cases q <;> rfl
    rw [if_pos h1, ← sub_cast h0] at hs
    exact r_compEC rfl (turns_known hk (kn_len u0 n)) hs (turns_known hk (kn_len u0 n))
  refine r_bin (r_compS rfl rfl (σ₂ := enc P M) (ys := ids.map (fun (id : Nat) => V.lst [V.int ((id : Int) - u0)])) ?_ rfl) (r_lst (r_cons rfl r_nil)) (b_addL (okLen_of (k := 50001) (by rw [List.length_map]; exact Nat.succ_le_succ hlen) rfl))
  rw [List.length_map]
  refine gather_all _ ids 0 fun i id hi => ?_
  have hm := hids id (List.mem_of_getElem? hi)
  rw [Nat.zero_add]
  exact bind_eq (show (ids.map uref)[i]? = some (uref id) by rw [List.getElem?_map, hi]; rfl) (bind_eq (hin id hm.1 hm.2) rfl)
noncomputable def madeM (P : Bw) (M : Mc) (ops : List (Nat × Nat)) (u0 base size : Nat) (kept : List Nat) (ws : List (Nat × Nat)) : List Nat × List (Nat × Nat) × List MObj := picks P kept base (ws.map (lay kept size)) (ops, M.up)
noncomputable def m37 (P : Bw) (M : Mc) (ws : List (Nat × Nat)) (kept : List Nat) (j size : Nat) (a b c d e f : V) : List V := [wref P, .lst (ws.map fun w => .tup [.int w.1, .int w.2]), .lst (kept.map uref), fref j, .int size, .ref .tmp M.tmp.length, .ref .known (P.n .known), a, b, c, d, e, f]
noncomputable def codeL (kept : List Nat) (size : Nat) (ws : List (Nat × Nat)) : List V := (ws.map (lay kept size)).map fun w => .int (wordOf w.1 w.2)
theorem lay_fits {kept : List Nat} {size : Nat} {ws : List (Nat × Nat)} (hw : ∀ w ∈ ws, w.2 < 4) : ∀ w ∈ ws.map (lay kept size), w.2 < 4 ∧ (w.1 = true → w.2 < kept.length) := fun w hwm => by
  obtain ⟨w0, h1, rfl⟩ := List.mem_map.mp hwm
  have h4 := hw w0 h1
  by_cases hb : (w0.1 == 1 && !kept.isEmpty) = true
  · have e : lay kept size w0 = (true, w0.2 % kept.length) := by unfold lay; rw [if_pos hb, hb]
    have hk : 0 < kept.length := by
      cases kept with
      | nil => exact absurd (b2 hb) Bool.false_ne_true
      | cons x r => exact Nat.succ_pos _
    rw [e]
    exact ⟨Nat.lt_of_le_of_lt (Nat.mod_le _ _) h4, fun _ => Nat.mod_lt _ hk⟩
  · have e : (lay kept size w0).1 = false := eq_false_of_ne_true hb
    refine ⟨?_, fun h => absurd (e.symm.trans h) Bool.false_ne_true⟩
    unfold lay; simp only; rw [if_neg hb]; exact Nat.lt_of_le_of_lt (Nat.mod_le _ _) h4
theorem made_loop (P : Bw) (M : Mc) (d j size : Nat) (kept : List Nat) {ws : List (Nat × Nat)} (hsz : size ≠ 0) (hw : ∀ w ∈ ws, w.2 < 4) (hl : ws.length ≤ 1000) (rest : List (Nat × Nat)) : ∀ (dn : List (Nat × Nat)) (a b c : V), dn ++ rest = ws →
    ∃ a' b' c', loopF (fun x m τ => (putPr 7 8 x m).bind fun m₂ => exs (callD tab0 (d + 1)) madeB m₂ τ) (rest.map fun w => .tup [.int w.1, .int w.2]) (m37 P M ws kept j size a b c .undef .undef .undef) (enc P (M.tm (M.tmp ++ [.list (codeL kept size dn)]))) =
      some (.next, m37 P M ws kept j size a' b' c' .undef .undef .undef, enc P (M.tm (M.tmp ++ [.list (codeL kept size ws)]))) := by
  induction rest with
  | nil => exact fun dn a b c h => ⟨a, b, c, by rw [← h, List.append_nil]; rfl⟩
  | cons w r ih =>
    intro dn a b c h
    have hdl : dn.length ≤ 1000 := Nat.le_trans (by rw [← h, List.length_append]; exact Nat.le_add_right _ _) hl
    have ht := turn_made P M d size j kept (.lst (ws.map fun w => .tup [.int w.1, .int w.2])) w (dn.map (lay kept size)) c hsz (hw w (h ▸ List.mem_append_right _ List.mem_cons_self)) (by rw [List.length_map]; exact hdl)
    obtain ⟨a', b', c', h'⟩ := ih (dn ++ [w]) (.int w.1) (.int w.2) (.bool (lay kept size w).1) (by rw [List.append_assoc]; exact h)
    have e : codeL kept size (dn ++ [w]) = (dn.map (lay kept size) ++ [lay kept size w]).map fun w => .int (wordOf w.1 w.2) := by unfold codeL; rw [List.map_append]; rfl
    rw [e] at h'
    exact ⟨a', b', c', bind_eq (bind_eq rfl ht) h'⟩
theorem ok_made (P : Bw) (M : Mc) (d j func base tp size u0 : Nat) (wanted tails : Int) (kept : List Nat) (ws : List (Nat × Nat)) (ops : List (Nat × Nat)) (hj : M.fr[j]? = some (frO func base tp wanted tails)) (O : OpsOk P M ops)
    (hk : M.known = kn u0 M.up.length) (hu : u0 ≤ M.up.length) (U : UpsIn u0 M.up) (hkept : ∀ i ∈ kept, u0 ≤ i ∧ i < M.up.length) (hops : ∀ q ∈ ops, u0 ≤ q.1) (hsz : size ≠ 0) (hw : ∀ w ∈ ws, w.2 < 4) (hl : ws.length ≤ 1000) (hul : M.up.length ≤ 10000) (hol : ops.length ≤ 10000) (hml : M.made.length ≤ 50000)
    (pk : List Nat × List (Nat × Nat) × List MObj) (hpk : picks P kept base (ws.map (lay kept size)) (ops, M.up) = pk) :
    ∃ t, callD tab0 (d + 7) (.fn 37) [wref P, .lst (ws.map fun w => .tup [.int w.1, .int w.2]), .lst (kept.map uref), fref j, .int size] (enc P M) =
      some (.lst (pk.1.map (fun id => .lst [.int ((id : Int) - u0)]) ++ [.int ws.length]), enc P { M with tmp := t, opens := pk.2.1.map fun q => uref q.1, up := pk.2.2, known := kn u0 pk.2.2.length, made := M.made ++ [.lst (pk.1.map uref)] }) := by
  have hM : ∀ t, (M.tm t).ops (ops, M.up) = M.tm t := fun t => by unfold Mc.ops Mc.tm; rw [← O.opens]
  obtain ⟨a, b, c, hL⟩ := made_loop P M (d + 5) j size kept hsz hw hl ws [] .undef .undef .undef rfl
  have hcl : (codeL kept size ws).length = ws.length := (List.length_map ..).trans (List.length_map ..)
  have hf := lay_fits (kept := kept) (size := size) hw
  have hsh := ok_shared P (M.tm (M.tmp ++ [.list (codeL kept size ws)])) d base M.tmp.length kept (ws.map (lay kept size)) List.getElem?_concat_length hf (ops, M.up) (by rw [hM]; exact O.tm _) (by rw [List.length_map]; exact Nat.le_trans (Nat.add_le_add hol hl) (by decide)) (by rw [List.length_map]; exact hl)
  have hpl := picks_len P kept base (ws.map (lay kept size)) (ops, M.up)
  have hgr := picks_grows P kept base u0 (ws.map (lay kept size)) (ops, M.up) hkept (fun q hq => ⟨hops q hq, (List.getElem?_eq_some_iff.mp (O.up q hq)).1⟩) (fun w hwm => (hf w hwm).2) hu
  have hup := picks_ups P kept base u0 (ws.map (lay kept size)) (ops, M.up) U
  rw [hM, hpk, List.length_map] at hsh
  rw [hpk, List.length_map] at hpl
  rw [hpk] at hgr hup
  obtain ⟨ids, o2, up2⟩ := pk
  have hul2 : up2.length ≤ 11000 := Nat.le_trans hpl.2.2 (Nat.add_le_add hul hl)
  have hil : ids.length ≤ 1000 := Nat.le_trans (Nat.le_of_eq hpl.1) hl
  clear hpl hf hpk
  generalize codeL kept size ws = code at *
  obtain ⟨y, hL2⟩ := loop_known P (callD tab0 (d + 6)) u0 (wref P) (.lst (ws.map fun w => .tup [.int w.1, .int w.2])) (.lst (kept.map uref)) (fref j) (.int size) (.ref .tmp M.tmp.length) a b c (.lst (ids.map uref)) ((M.tm (M.tmp ++ [.list code] ++ [.gone])).ops (o2, up2)) (.int ws.length) ids M.up.length up2.length .undef hgr (Nat.le_refl _) hu hup (Nat.le_trans hul2 (by decide)) hil
  have hM2 : { ((M.tm (M.tmp ++ [.list code] ++ [.gone])).ops (o2, up2)) with known := kn u0 M.up.length } = ((M.tm (M.tmp ++ [.list code] ++ [.gone])).ops (o2, up2)) := by unfold Mc.ops Mc.tm; rw [← hk]
  rw [hM2] at hL2
  have hlc : ev (callD tab0 (d + 6)) (.len (.loc 5)) (m37 P M ws kept j size a b c .undef .undef .undef) (enc P (M.tm (M.tmp ++ [.list code]))) = some (.int ws.length, enc P (M.tm (M.tmp ++ [.list code]))) := by
    rw [← hcl]; exact r_len rfl (show items (enc P _) (.ref .tmp M.tmp.length) = _ from t_new rfl rfl)
  have hw := ev_which P { ((M.tm (M.tmp ++ [.list code] ++ [.gone])).ops (o2, up2)) with known := kn u0 up2.length, made := M.made ++ [.lst (ids.map uref)] } (callD tab0 (d + 6)) u0 up2.length ids (wref P) (.lst (ws.map fun w => .tup [.int w.1, .int w.2])) (.lst (kept.map uref)) (fref j) (.int size) (.ref .tmp M.tmp.length) a b c ws.length y rfl rfl hup (Nat.le_trans hul2 (by decide)) (fun i hi => hgr.mem i hi) (Nat.le_trans hil (by decide))
  refine ⟨M.tmp ++ [MObj.list code] ++ [MObj.gone], call_go (m37 P M ws kept j size .undef .undef .undef .undef .undef .undef |>.set 5 .undef |>.set 6 .undef) (n := 37) rfl rfl rfl ?_⟩
  generalize callD tab0 (d + 6) = cl at *
  refine fin_step (m' := m37 P M ws kept j size .undef .undef .undef .undef .undef .undef) (σ' := enc P (M.tm (M.tmp ++ [MObj.list []]))) (x_asgT' (r_tup (r_cons (r_newl r_nil (p_tmp P M _)) (r_cons (r_key rfl (e_dct P _) rfl) r_nil))) rfl) ?_
  refine fin_step (m' := m37 P M ws kept j size a b c .undef .undef .undef) (σ' := enc P (M.tm (M.tmp ++ [MObj.list code]))) (x_forS2' (B := madeB) rfl hL) ?_
  refine fin_step (m' := m37 P M ws kept j size a b c (.lst (ids.map uref)) (.int ws.length) .undef) (σ' := enc P ((M.tm (M.tmp ++ [MObj.list code] ++ [MObj.gone])).ops (o2, up2))) (x_asgT' (r_call r_glob (r_cons rfl (r_cons r_con (r_cons hlc (r_cons rfl (r_cons (r_key rfl (e_dct P _) rfl) (r_cons (r_attr rfl (f_at hj) rfl) (r_cons r_glob r_nil))))))) hsh) rfl) ?_
  refine fin_step (m' := m37 P M ws kept j size a b c (.lst (ids.map uref)) (.int ws.length) y) (σ' := enc P { ((M.tm (M.tmp ++ [MObj.list code] ++ [MObj.gone])).ops (o2, up2)) with known := kn u0 up2.length }) (x_forS' (B := knownB) rfl hL2) ?_
  exact fin_step (m' := m37 P M ws kept j size a b c (.lst (ids.map uref)) (.int ws.length) y) (x_expr' (r_append (r_key rfl (e_dct P _) rfl) rfl (e_made P _) (e_made P _) (okLen_of (k := 50001) (Nat.succ_le_succ hml) rfl) (s_made P _ _))) (fin_ret hw)
end Mine
end
section
set_option maxRecDepth 100000
namespace Mine
inductive Deed where
  | set (r v : Nat)
  | put (k v : Nat)
  | make (ws : List (Nat × Nat))
  | call (n : Nat) (row : List Nat) (wanted : Int)
inductive Last where
  | fail
  | go (n : Nat) (row : List Nat)
  | ret (row : List Nat)
structure Plan where
  params : Nat
  isOpen : Bool
  size : Nat
  deeds : List Deed
  last : Last
noncomputable def rowV (row : List Nat) : V := .lst (row.map fun i => .int (i : Nat))
noncomputable def encD : Deed → V
  | .set r v => .tup [.str "set", .int r, .int v]
  | .put k v => .tup [.str "put", .int k, .int v]
  | .make ws => .tup [.str "make", .lst (ws.map fun w => .tup [.int w.1, .int w.2])]
  | .call n row wanted => .tup [.str "call", .int n, rowV row, .int wanted]
noncomputable def encL : Last → List V
  | .fail => [.str "raise", .int 0, .lst []]
  | .go n row => [.str "go", .int n, rowV row]
  | .ret row => [.str "return", .int 0, rowV row]
noncomputable def encP (p : Plan) : V := .tup [.int p.params, .bool p.isOpen, .int p.size, .lst (p.deeds.map encD), .tup (encL p.last)]
noncomputable def RowOk (size : Nat) (row : List Nat) : Prop := row.length ≤ 3 ∧ ∀ i ∈ row, i < size
noncomputable def DeedOk (at' size : Nat) : Deed → Prop
  | .set r _ => r < size
  | .put _ _ => True
  | .make ws => ws.length ≤ 2 ∧ ∀ w ∈ ws, w.2 < 4
  | .call n row wanted => n < at' ∧ RowOk size row ∧ (wanted = -1 ∨ wanted = 0 ∨ wanted = 1 ∨ wanted = 2)
noncomputable def LastOk (at' size : Nat) : Last → Prop
  | .fail => True
  | .go n row => n < at' ∧ RowOk size row
  | .ret row => RowOk size row
structure PlanOk (at' : Nat) (p : Plan) : Prop where
  params : p.params < p.size
  size : p.size ≤ 10
  few : p.deeds.length ≤ 2
  deeds : ∀ x ∈ p.deeds, DeedOk at' p.size x
  last : LastOk at' p.size p.last
noncomputable def PlansOk (ps : List Plan) : Prop := ps.length ≤ 3 ∧ ∀ i p, ps[i]? = some p → PlanOk i p
structure SF where
  regs : List V
  func : Nat
  base : Nat
inductive SV where
  | op (d r : Nat)
  | sh (v : V)
  deriving Inhabited
structure Sp where
  fs : List SF
  vars : List SV
  made : List (List Nat)
  notes : List V
  places : List V
  opens : List Nat
  ent : Nat
noncomputable def Sp.reg (S : Sp) (d r : Nat) : V := ((S.fs[d]?).bind fun f => f.regs[r]?).getD .none
noncomputable def Sp.val (S : Sp) : SV → V
  | .op d r => S.reg d r
  | .sh v => v
noncomputable def Sp.get (S : Sp) (x : Nat) : V := ((S.vars[x]?).map S.val).getD .none
noncomputable def Sp.setR (S : Sp) (d r : Nat) (v : V) : Sp := { S with fs := S.fs.modify d fun f => { f with regs := f.regs.set r v } }
noncomputable def Sp.put (S : Sp) (x : Nat) (v : V) : Sp := match S.vars[x]? with
  | some (.op d r) => S.setR d r v
  | some (.sh _) => { S with vars := S.vars.set x (.sh v) }
  | Option.none => S
noncomputable def Sp.cur (S : Sp) : SF := (S.fs.getLast?).getD ⟨[], 0, 0⟩
noncomputable def Sp.gets (S : Sp) (k : Nat) : List V := ((List.range S.vars.length).drop (S.vars.length - k)).map S.get
noncomputable def Sp.note (S : Sp) (news : V) : Sp := { S with
  notes := S.notes ++ [.tup [news, .lst S.cur.regs, .lst (S.gets 4)]]
  places := S.places ++ [.lst ([.int S.cur.func, .int S.cur.base, .int (S.cur.base + S.cur.regs.length : Nat), .int (S.cur.base + S.cur.regs.length : Nat)] ++ S.opens.map fun p => .int (p : Nat))] }
noncomputable def Sp.close (S : Sp) (d level : Nat) : Sp := { S with
  vars := S.vars.map fun x => match x with | .op d' r => if d ≤ d' then .sh (S.reg d' r) else x | x => x
  opens := S.opens.dropWhile fun p => decide (level ≤ p) }
noncomputable def insD (p : Nat) (l : List Nat) : List Nat := (l.takeWhile fun q => decide (p < q)) ++ p :: (l.dropWhile fun q => decide (p < q))
noncomputable def SV.is (d r : Nat) : SV → Bool
  | .op d' r' => d' == d && r' == r
  | _ => false
noncomputable def Sp.find (S : Sp) (r : Nat) : Nat × Sp := match S.vars.findIdx? (SV.is (S.fs.length - 1) r) with
  | some x => (x, S)
  | Option.none => (S.vars.length, { S with vars := S.vars ++ [.op (S.fs.length - 1) r], opens := insD (S.cur.base + r) S.opens })
noncomputable def Sp.pick (S : Sp) (kept : List Nat) (w : Bool × Nat) : Nat × Sp := if w.1 then ((kept[w.2]?).getD 0, S) else S.find w.2
noncomputable def Sp.picks (kept : List Nat) : List (Bool × Nat) → Sp → List Nat × Sp
  | [], S => ([], S)
  | w :: r, S => ((S.pick kept w).1 :: (Sp.picks kept r (S.pick kept w).2).1, (Sp.picks kept r (S.pick kept w).2).2)
noncomputable def Sp.make (S : Sp) (kept : List Nat) (ws : List (Nat × Nat)) : V × Sp :=
  let q := Sp.picks kept (ws.map (lay kept S.cur.regs.length)) S
  (.lst (q.1.map (fun id => .lst [.int (id : Nat)]) ++ [.int ws.length]), { q.2 with made := q.2.made ++ [q.1] })
noncomputable def adj (wanted : Int) (res : List V) : List V := if wanted < 0 then res else (res ++ List.replicate wanted.toNat V.none).take wanted.toNat
noncomputable def Sp.row (S : Sp) (row : List Nat) : List V := row.map fun r => S.reg (S.fs.length - 1) r
noncomputable def Sp.enter (S : Sp) (p : Plan) (args : List V) (func : Nat) : Sp := { S with
  fs := S.fs ++ [⟨(List.range p.size).map fun r => if r < p.params then (args[r]?).getD .none else .none, func, if p.isOpen then func + 1 + max args.length p.params else func + 1⟩] }
noncomputable def Sp.begin (S : Sp) (p : Plan) (args : List V) : Sp :=
  (({ S with ent := S.ent + 1 } : Sp).setR (S.fs.length - 1) (p.size - 1) (.int (500 + (S.ent + 1) : Nat))).note (.lst (if p.isOpen then args.drop p.params else []))
noncomputable def Sp.pop (S : Sp) : Sp := { S with fs := S.fs.dropLast }
noncomputable abbrev RunS := Nat → List V → Nat → Sp → Option (List V) × Sp
noncomputable def Sp.deed (run : RunS) (S : Sp) (kept : List Nat) : Deed → V × Sp
  | .set r v => (.lst [], S.setR (S.fs.length - 1) r (.int v))
  | .put k v => (.lst [], if S.vars.length = 0 then S else S.put (k % S.vars.length) (.int v))
  | .make ws => S.make kept ws
  | .call n row wanted =>
    let func := S.cur.base + S.cur.regs.length
    match run n (S.row row) func S with
    | (some res, S') => (.lst [.lst (adj wanted res), .bool true], S'.setR (S.fs.length - 1) 0 (((adj wanted res).head?).getD .none))
    | (Option.none, S') => (.lst [.str "raised", .bool true], { S'.close S.fs.length func with fs := S'.fs.take S.fs.length })
noncomputable def Sp.deeds (run : RunS) (kept : List Nat) : List Deed → Sp → Sp
  | [], S => S
  | x :: r, S => Sp.deeds run kept r ((S.deed run kept x).2.note (S.deed run kept x).1)
noncomputable def Sp.leave (S : Sp) : Sp := (S.close (S.fs.length - 1) S.cur.base).pop
noncomputable def Sp.work (run : RunS) (p : Plan) (args : List V) (func : Nat) (S : Sp) : Option (List V) × Sp :=
  let S₁ := Sp.deeds run (((S.made).getLast?).getD []) p.deeds (S.begin p args)
  match p.last with
  | .fail => (Option.none, S₁)
  | .go n row => run n (S₁.row row) func S₁.leave
  | .ret row => (some (S₁.row row), S₁.leave)
noncomputable def runS (ps : List Plan) : Nat → RunS
  | 0 => fun _ _ _ S => (Option.none, S)
  | k + 1 => fun n args func S => match ps[n]? with
    | some p => Sp.work (runS ps k) p args func (S.enter p args func)
    | Option.none => (Option.none, S)
end Mine
end
section
set_option maxRecDepth 100000
namespace Mine
noncomputable def Atom : V → Prop
  | .none => True
  | .int _ => True
  | _ => False
noncomputable def PV (k : Nat) (v : V) : Prop := ∀ n, eqP (n + k) v v = true
theorem PV.up {k : Nat} {v : V} (h : PV k v) : PV (k + 1) v := fun n => Nat.add_right_comm n 1 k ▸ h (n + 1)
theorem PV.le {k k' : Nat} {v : V} (h : PV k v) (hk : k ≤ k') : PV k' v := by
  obtain ⟨d, rfl⟩ := Nat.exists_eq_add_of_le hk
  intro n
  rw [Nat.add_comm k, ← Nat.add_assoc]; exact h (n + d)
theorem Atom.pv {v : V} (h : Atom v) : PV 1 v := fun n => by
  cases v with
  | none => exact rfl
  | int i => exact beq_self_eq_true (some i)
  | _ => exact h.elim
theorem pv_list {k : Nat} {vs : List V} (h : ∀ v ∈ vs, PV k v) (n : Nat) : eqLF (eqP (n + k)) vs vs = true := by
  induction vs with
  | nil => rfl
  | cons x r ih => exact Bool.and_eq_true_iff.mpr ⟨h x List.mem_cons_self n, ih fun v hv => h v (List.mem_cons_of_mem _ hv)⟩
theorem PV.lst {k : Nat} {vs : List V} (h : ∀ v ∈ vs, PV k v) : PV (k + 1) (.lst vs) := fun n => pv_list h n
theorem PV.tup {k : Nat} {vs : List V} (h : ∀ v ∈ vs, PV k v) : PV (k + 1) (.tup vs) := fun n => pv_list h n
theorem PV.int (i : Int) : PV 1 (.int i) := fun n => beq_self_eq_true (some i)
theorem PV.bool (b : Bool) : PV 1 (.bool b) := fun n => beq_self_eq_true (some b)
structure Sp.Ok (S : Sp) : Prop where
  regs : ∀ (d : Nat) (f : SF), S.fs[d]? = some f → ∀ v ∈ f.regs, Atom v
  vars : ∀ (x : Nat) (v : V), S.vars[x]? = some (.sh v) → Atom v
  notes : ∀ v ∈ S.notes, PV 8 v
  places : ∀ v ∈ S.places, PV 8 v
structure Rl (P : Bw) (u0 : Nat) (bl : List V) (M : Mc) (S : Sp) (bs : Nat → Nat) (ops : List (Nat × Nat)) : Prop where
  regs : ∀ d f r v, S.fs[d]? = some f → f.regs[r]? = some v → M.stack[bs d + r]? = some v
  sep : ∀ d d' f f', d < d' → S.fs[d]? = some f → S.fs[d']? = some f' → bs d + f.regs.length ≤ bs d'
  shf : ∀ d, d < S.fs.length → P.shift ≤ bs d
  bel : ∀ k, k < P.shift → M.stack[k]? = bl[k]?
  opo : OpsOk P M ops
  desc : ops.Pairwise fun a b => b.2 < a.2
  upl : M.up.length = u0 + S.vars.length
  opv : ∀ x d r, S.vars[x]? = some (.op d r) → (∃ f, S.fs[d]? = some f ∧ r < f.regs.length) ∧ (u0 + x, bs d + r) ∈ ops
  shv : ∀ x v, S.vars[x]? = some (.sh v) → M.up[u0 + x]? = some (clU v) ∨ P.stands = false ∧ ∃ p, (u0 + x, p) ∈ ops ∧ M.stack[p]? = some v ∧ P.shift ≤ p ∧ ∀ d f, S.fs[d]? = some f → p < bs d ∨ bs d + f.regs.length ≤ p
  opi : ∀ q ∈ ops, u0 ≤ q.1
  known : M.known = kn u0 M.up.length
  made : M.made = S.made.map fun l => .lst (l.map fun x => uref (u0 + x))
  madeOk : ∀ l ∈ S.made, ∀ x ∈ l, x < S.vars.length
  notes : M.notes = S.notes
  ent : M.ent = S.ent
  places : P.stands = true → M.places = S.places
  basesT : P.stands = true → ∀ d f, S.fs[d]? = some f → bs d = P.shift + f.base
  opensT : P.stands = true → ops.map (·.2) = S.opens.map (P.shift + ·)
  sok : S.Ok
variable {P : Bw} {u0 : Nat} {bl : List V} {M : Mc} {S : Sp} {bs : Nat → Nat} {ops : List (Nat × Nat)}
theorem Rl.re (R : Rl P u0 bl M S bs ops) {M' : Mc} (h1 : M'.stack = M.stack) (h2 : M'.opens = M.opens) (h3 : M'.up = M.up) (h4 : M'.known = M.known) (h5 : M'.made = M.made) (h6 : M'.notes = M.notes) (h7 : M'.ent = M.ent) (h8 : M'.places = M.places) : Rl P u0 bl M' S bs ops := by
  obtain ⟨_, _, _, _, _, _, _, _, _, _, _, _, _⟩ := M
  obtain ⟨_, _, _, _, _, _, _, _, _, _, _, _, _⟩ := M'
  simp only at h1 h2 h3 h4 h5 h6 h7 h8
  subst h1 h2 h3 h4 h5 h6 h7 h8
  exact ⟨R.regs, R.sep, R.shf, R.bel, ⟨R.opo.opens, R.opo.up, R.opo.nodup, R.opo.few⟩, R.desc, R.upl, R.opv, R.shv, R.opi, R.known, R.made, R.madeOk, R.notes, R.ent, R.places, R.basesT, R.opensT, R.sok⟩
theorem Rl.dis (R : Rl P u0 bl M S bs ops) {d d' r r' : Nat} {f f' : SF} (h : S.fs[d]? = some f) (h' : S.fs[d']? = some f') (hr : r < f.regs.length) (hr' : r' < f'.regs.length) (e : bs d + r = bs d' + r') : d = d' ∧ r = r' := by
  rcases Nat.lt_trichotomy d d' with q | q | q
  · have := R.sep d d' f f' q h h'; lia
  · subst q; exact ⟨rfl, by lia⟩
  · have := R.sep d' d f' f q h' h; lia
theorem Rl.shf' (R : Rl P u0 bl M S bs ops) {d : Nat} {f : SF} (h : S.fs[d]? = some f) : P.shift ≤ bs d := R.shf d (List.getElem?_eq_some_iff.mp h).1
theorem Rl.inl (R : Rl P u0 bl M S bs ops) {d r : Nat} {f : SF} (h : S.fs[d]? = some f) (hr : r < f.regs.length) : bs d + r < M.stack.length :=
  (List.getElem?_eq_some_iff.mp (R.regs d f r _ h (List.getElem?_eq_getElem hr))).1
theorem Rl.id_pos (R : Rl P u0 bl M S bs ops) {i p q : Nat} (h : (i, p) ∈ ops) (h' : (i, q) ∈ ops) : p = q := by
  have e1 := R.opo.up _ h
  have e2 := R.opo.up _ h'
  simp only at e1 e2
  rw [e1] at e2
  simp at e2
  lia
theorem Rl.pos_id (R : Rl P u0 bl M S bs ops) {a b : Nat × Nat} (h : a ∈ ops) (h' : b ∈ ops) (e : a.2 = b.2) : a = b := by
  obtain ⟨i, hi, rfl⟩ := List.mem_iff_getElem.mp h
  obtain ⟨j, hj, rfl⟩ := List.mem_iff_getElem.mp h'
  have hd := List.pairwise_iff_getElem.mp R.desc
  rcases Nat.lt_trichotomy i j with q | q | q
  · have := hd i j hi hj q; lia
  · subst q; rfl
  · have := hd j i hj hi q; lia
theorem Rl.opAt (R : Rl P u0 bl M S bs ops) {q : Nat × Nat} (h : q ∈ ops) : ∃ x, q.1 = u0 + x ∧ x < S.vars.length ∧ ((∃ d r f, S.vars[x]? = some (.op d r) ∧ S.fs[d]? = some f ∧ r < f.regs.length ∧ q.2 = bs d + r) ∨
    (P.stands = false ∧ ∃ v, S.vars[x]? = some (.sh v) ∧ M.stack[q.2]? = some v ∧ P.shift ≤ q.2 ∧ ∀ d f, S.fs[d]? = some f → q.2 < bs d ∨ bs d + f.regs.length ≤ q.2)) := by
  have h1 := R.opi q h
  have h2 := R.opo.up q h
  have h3 := (List.getElem?_eq_some_iff.mp h2).1
  rw [R.upl] at h3
  obtain ⟨x, hx⟩ : ∃ x, q.1 = u0 + x := ⟨q.1 - u0, by lia⟩
  have hxl : x < S.vars.length := by lia
  refine ⟨x, hx, hxl, ?_⟩
  have hq : (u0 + x, q.2) ∈ ops := by rw [← hx]; exact h
  cases hv : S.vars[x]? with
  | none => have := List.getElem?_eq_none_iff.mp hv; lia
  | some w =>
    cases w with
    | op d r =>
      obtain ⟨⟨f, hf, hr⟩, hm⟩ := R.opv x d r hv
      exact .inl ⟨d, r, f, rfl, hf, hr, R.id_pos hq hm⟩
    | sh v =>
      rcases R.shv x v hv with e | ⟨e, p, hp, hpv, hps, hpo⟩
      · rw [hx, e] at h2; simp at h2
      · have := R.id_pos hq hp
        subst this
        exact .inr ⟨e, v, rfl, hpv, hps, hpo⟩
theorem Rl.opl (R : Rl P u0 bl M S bs ops) {q : Nat × Nat} (h : q ∈ ops) : q.2 < M.stack.length := by
  obtain ⟨x, _, _, h | h⟩ := R.opAt h
  · obtain ⟨d, r, f, _, hf, hr, e⟩ := h; rw [e]; exact R.inl hf hr
  · obtain ⟨_, v, _, hv, _⟩ := h; exact (List.getElem?_eq_some_iff.mp hv).1
theorem Rl.opsh (R : Rl P u0 bl M S bs ops) {q : Nat × Nat} (h : q ∈ ops) : P.shift ≤ q.2 := by
  obtain ⟨x, _, _, h | h⟩ := R.opAt h
  · obtain ⟨d, r, f, _, hf, hr, e⟩ := h; rw [e]; have := R.shf' hf; lia
  · obtain ⟨_, v, _, hv, h, _⟩ := h; exact h
theorem Rl.ups (R : Rl P u0 bl M S bs ops) : UpsIn u0 M.up := fun i h0 h1 => by
  rw [R.upl] at h1
  obtain ⟨x, rfl⟩ : ∃ x, i = u0 + x := ⟨i - u0, by lia⟩
  cases hv : S.vars[x]? with
  | none => have := List.getElem?_eq_none_iff.mp hv; lia
  | some w =>
    cases w with
    | op d r => exact ⟨_, R.opo.up _ (R.opv x d r hv).2⟩
    | sh v =>
      rcases R.shv x v hv with e | ⟨_, p, hp, _⟩
      · exact ⟨_, e⟩
      · exact ⟨_, R.opo.up _ hp⟩
theorem Rl.val (R : Rl P u0 bl M S bs ops) {x : Nat} (h : x < S.vars.length) : getV P M (uref (u0 + x)) = S.get x ∧ UpOk P M (uref (u0 + x)) := by
  unfold Sp.get
  cases hv : S.vars[x]? with
  | none => have := List.getElem?_eq_none_iff.mp hv; lia
  | some w =>
    simp only [Option.map_some, Option.getD_some]
    cases w with
    | op d r =>
      obtain ⟨⟨f, hf, hr⟩, hm⟩ := R.opv x d r hv
      have e1 := R.opo.up _ hm
      have e2 := R.regs d f r _ hf (List.getElem?_eq_getElem hr)
      simp only at e1
      refine ⟨?_, .op e1 e2⟩
      have e3 : ((bs d : Int) + (r : Int)).toNat = bs d + r := by lia
      simp [getV, e1, e2, e3, Sp.val, Sp.reg, hf, List.getElem?_eq_getElem hr]
    | sh v =>
      rcases R.shv x v hv with e | ⟨_, p, hp, e2, _⟩
      · exact ⟨by simp [getV, e, Sp.val], .cl e⟩
      · have e1 := R.opo.up _ hp
        simp only at e1
        exact ⟨by simp [getV, e1, e2, Sp.val], .op e1 e2⟩
theorem Sp.reg_atom (h : S.Ok) (d r : Nat) : Atom (S.reg d r) := by
  unfold Sp.reg
  cases hf : S.fs[d]? with
  | none => trivial
  | some f =>
    simp only [Option.bind_some]
    cases hr : f.regs[r]? with
    | none => trivial
    | some v => exact h.regs d f hf v (List.mem_of_getElem? hr)
theorem Sp.get_atom (h : S.Ok) (x : Nat) : Atom (S.get x) := by
  unfold Sp.get
  cases hv : S.vars[x]? with
  | none => trivial
  | some w =>
    cases w with
    | op d r => exact Sp.reg_atom h d r
    | sh v => exact h.vars x v hv
theorem setR_get {d r d' : Nat} {v : V} {f' : SF} (h : (S.setR d r v).fs[d']? = some f') : ∃ f, S.fs[d']? = some f ∧ f' = (if d = d' then { f with regs := f.regs.set r v } else f) ∧ f'.regs.length = f.regs.length ∧ f'.func = f.func ∧ f'.base = f.base := by
  unfold Sp.setR at h
  simp only [List.getElem?_modify] at h
  cases hf : S.fs[d']? with
  | none => rw [hf] at h; simp at h
  | some f =>
    rw [hf] at h
    simp at h
    refine ⟨f, rfl, h.symm, ?_⟩
    subst h
    split <;> simp
theorem setR_of {d r d' : Nat} {v : V} {f : SF} (h : S.fs[d']? = some f) : ∃ f', (S.setR d r v).fs[d']? = some f' ∧ f'.regs.length = f.regs.length ∧ f'.func = f.func ∧ f'.base = f.base := by
  unfold Sp.setR
  simp only [List.getElem?_modify, h]
  refine ⟨_, rfl, ?_⟩
  split <;> simp
theorem setR_len (d r : Nat) (v : V) : (S.setR d r v).fs.length = S.fs.length := by simp [Sp.setR]
theorem Rl.setR (R : Rl P u0 bl M S bs ops) {d r : Nat} {f : SF} {v : V} (hf : S.fs[d]? = some f) (hr : r < f.regs.length) (ha : Atom v) : Rl P u0 bl { M with stack := M.stack.set (bs d + r) v } (S.setR d r v) bs ops := by
  have hin := R.inl hf hr
  have hsh := R.shf' hf
  refine ⟨fun d' f' r' w h' hw => ?_, fun a b f1 f2 hab h1 h2 => ?_, fun d' h => R.shf d' (by rwa [setR_len] at h), fun k hk => ?_, ⟨R.opo.opens, R.opo.up, R.opo.nodup, R.opo.few⟩, R.desc, R.upl, fun x d' r' hx => ?_, fun x w hx => ?_, R.opi, R.known, R.made, R.madeOk, R.notes, R.ent, R.places, fun hs d' f' h' => ?_, R.opensT, ⟨fun d' f' h' w hw => ?_, R.sok.vars, R.sok.notes, R.sok.places⟩⟩
  · obtain ⟨f0, h0, e, hl, _⟩ := setR_get h'
    show (M.stack.set (bs d + r) v)[bs d' + r']? = some w
    have hr' : r' < f0.regs.length := by rw [← hl]; exact (List.getElem?_eq_some_iff.mp hw).1
    rw [List.getElem?_set]
    by_cases q : bs d + r = bs d' + r'
    · obtain ⟨q1, q2⟩ := R.dis hf h0 hr hr' q
      subst q1 q2
      rw [if_pos rfl] at e
      rw [if_pos rfl, if_pos hin]
      rw [hf] at h0
      cases h0
      rw [e] at hw
      simp only [List.getElem?_set_self hr] at hw
      exact hw
    · rw [if_neg q]
      by_cases q1 : d = d'
      · subst q1
        rw [if_pos rfl] at e
        rw [e] at hw
        simp only at hw
        rw [List.getElem?_set, if_neg (by intro q2; subst q2; exact q rfl)] at hw
        exact R.regs d f0 r' w h0 hw
      · rw [if_neg q1] at e
        subst e
        exact R.regs d' f' r' w h0 hw
  · obtain ⟨f1', h1', _, e1, _⟩ := setR_get h1
    obtain ⟨f2', h2', _, e2, _⟩ := setR_get h2
    rw [e1]
    exact R.sep a b f1' f2' hab h1' h2'
  · show (M.stack.set (bs d + r) v)[k]? = _
    rw [List.getElem?_set, if_neg (by lia)]
    exact R.bel k hk
  · obtain ⟨⟨f0, h0, hr0⟩, hm⟩ := R.opv x d' r' hx
    obtain ⟨f', h', e, _⟩ := setR_of (d := d) (r := r) (v := v) h0
    exact ⟨⟨f', h', by lia⟩, hm⟩
  · rcases R.shv x w hx with e | ⟨e, p, hp, hpv, hps, hpo⟩
    · exact .inl e
    · refine .inr ⟨e, p, hp, ?_, hps, fun d' f' h' => ?_⟩
      · show (M.stack.set (bs d + r) v)[p]? = _
        have := hpo d f hf
        rw [List.getElem?_set, if_neg (by lia)]
        exact hpv
      · obtain ⟨f0, h0, _, e0, _⟩ := setR_get h'
        rw [e0]; exact hpo d' f0 h0
  · obtain ⟨f0, h0, _, _, _, e0⟩ := setR_get h'
    rw [e0]; exact R.basesT hs d' f0 h0
  · obtain ⟨f0, h0, e, _⟩ := setR_get h'
    by_cases q1 : d = d'
    · rw [if_pos q1] at e
      rw [e] at hw
      rcases List.mem_or_eq_of_mem_set hw with h | h
      · exact R.sok.regs d' f0 h0 w h
      · rw [h]; exact ha
    · rw [if_neg q1] at e
      rw [e] at hw
      exact R.sok.regs d' f0 h0 w hw
theorem Rl.put_dead (R : Rl P u0 bl M S bs ops) {x p : Nat} {v w : V} (hx : S.vars[x]? = some (.sh w)) (ha : Atom v) (hs : P.stands = false) (hp : (u0 + x, p) ∈ ops) (hpv : M.stack[p]? = some w) (hps : P.shift ≤ p) (hpo : ∀ d f, S.fs[d]? = some f → p < bs d ∨ bs d + f.regs.length ≤ p) :
    Rl P u0 bl { M with stack := M.stack.set p v } { S with vars := S.vars.set x (.sh v) } bs ops := by
  have hxl := (List.getElem?_eq_some_iff.mp hx).1
  have hpl := (List.getElem?_eq_some_iff.mp hpv).1
  refine ⟨fun d f r w' h hw => ?_, R.sep, R.shf, fun k hk => ?_, ⟨R.opo.opens, R.opo.up, R.opo.nodup, R.opo.few⟩, R.desc, by simp only [List.length_set]; exact R.upl, fun y d r hy => ?_, fun y w' hy => ?_, R.opi, R.known, R.made, fun l hl y hy => by simp only [List.length_set]; exact R.madeOk l hl y hy, R.notes, R.ent, R.places, R.basesT, R.opensT, ⟨R.sok.regs, fun y w' hy => ?_, R.sok.notes, R.sok.places⟩⟩
  · have hr := (List.getElem?_eq_some_iff.mp hw).1
    have := hpo d f h
    show (M.stack.set p v)[bs d + r]? = _
    rw [List.getElem?_set, if_neg (by lia)]
    exact R.regs d f r w' h hw
  · show (M.stack.set p v)[k]? = _
    rw [List.getElem?_set, if_neg (by lia)]
    exact R.bel k hk
  · simp only [List.getElem?_set] at hy
    by_cases q : x = y
    · rw [if_pos q, if_pos hxl] at hy; simp at hy
    · rw [if_neg q] at hy; exact R.opv y d r hy
  · simp only [List.getElem?_set] at hy
    by_cases q : x = y
    · subst q
      rw [if_pos rfl, if_pos hxl] at hy
      simp at hy
      subst hy
      refine .inr ⟨hs, p, hp, ?_, hps, hpo⟩
      show (M.stack.set p v)[p]? = _
      rw [List.getElem?_set, if_pos rfl, if_pos hpl]
    · rw [if_neg q] at hy
      rcases R.shv y w' hy with e | ⟨e, p', hp', hpv', hps', hpo'⟩
      · exact .inl e
      · refine .inr ⟨e, p', hp', ?_, hps', hpo'⟩
        show (M.stack.set p v)[p']? = _
        rw [List.getElem?_set, if_neg, hpv']
        intro q2
        have := R.pos_id hp hp' q2
        simp at this
        lia
  · simp only [List.getElem?_set] at hy
    by_cases q : x = y
    · rw [if_pos q, if_pos hxl] at hy; simp at hy; subst hy; exact ha
    · rw [if_neg q] at hy; exact R.sok.vars y w' hy
theorem Rl.put_shut (R : Rl P u0 bl M S bs ops) {x : Nat} {v w : V} (hx : S.vars[x]? = some (.sh w)) (ha : Atom v) (hc : M.up[u0 + x]? = some (clU w)) :
    Rl P u0 bl { M with up := M.up.set (u0 + x) (clU v) } { S with vars := S.vars.set x (.sh v) } bs ops := by
  have hxl := (List.getElem?_eq_some_iff.mp hx).1
  have hul := (List.getElem?_eq_some_iff.mp hc).1
  refine ⟨R.regs, R.sep, R.shf, R.bel, ⟨R.opo.opens, fun q hq => ?_, R.opo.nodup, R.opo.few⟩, R.desc, by simp only [List.length_set]; exact R.upl, fun y d r hy => ?_, fun y w' hy => ?_, R.opi, by simp only [List.length_set]; exact R.known, R.made, fun l hl y hy => by simp only [List.length_set]; exact R.madeOk l hl y hy, R.notes, R.ent, R.places, R.basesT, R.opensT, ⟨R.sok.regs, fun y w' hy => ?_, R.sok.notes, R.sok.places⟩⟩
  · show (M.up.set (u0 + x) (clU v))[q.1]? = _
    have := R.opo.up q hq
    rw [List.getElem?_set, if_neg, this]
    intro e
    rw [← e, hc] at this
    simp at this
  · simp only [List.getElem?_set] at hy
    by_cases q : x = y
    · rw [if_pos q, if_pos hxl] at hy; simp at hy
    · rw [if_neg q] at hy; exact R.opv y d r hy
  · simp only [List.getElem?_set] at hy
    by_cases q : x = y
    · subst q
      rw [if_pos rfl, if_pos hxl] at hy
      simp at hy
      subst hy
      refine .inl ?_
      show (M.up.set (u0 + x) (clU v))[u0 + x]? = _
      rw [List.getElem?_set, if_pos rfl, if_pos hul]
    · rw [if_neg q] at hy
      rcases R.shv y w' hy with e | e
      · refine .inl ?_
        show (M.up.set (u0 + x) (clU v))[u0 + y]? = _
        rw [List.getElem?_set, if_neg (by lia), e]
      · exact .inr e
  · simp only [List.getElem?_set] at hy
    by_cases q : x = y
    · rw [if_pos q, if_pos hxl] at hy; simp at hy; subst hy; exact ha
    · rw [if_neg q] at hy; exact R.sok.vars y w' hy
theorem kn_range (u0 n : Nat) : kn u0 (u0 + n) = (List.range n).map fun x => uref (u0 + x) := by
  apply List.ext_getElem?
  intro i
  by_cases hi : i < n
  · rw [List.getElem?_map, List.getElem?_range hi]
    unfold kn
    rw [List.getElem?_map, List.getElem?_range' (by lia)]
    simp
  · rw [List.getElem?_eq_none_iff.mpr (by rw [kn_len]; lia), List.getElem?_eq_none_iff.mpr (by simp; lia)]
theorem Rl.gets (R : Rl P u0 bl M S bs ops) (k : Nat) : (M.known.drop (M.known.length - k)).map (getV P M) = S.gets k := by
  unfold Sp.gets
  rw [R.known, R.upl, kn_range]
  simp only [List.length_map, List.length_range, ← List.map_drop, List.map_map]
  apply List.map_congr_left
  intro x hx
  have := List.mem_range.mp (List.mem_of_mem_drop hx)
  exact (R.val this).1
theorem Rl.knownOk (R : Rl P u0 bl M S bs ops) : ∀ x ∈ M.known, UpOk P M x := by
  rw [R.known, R.upl, kn_range]
  intro x hx
  obtain ⟨y, hy, rfl⟩ := List.mem_map.mp hx
  exact (R.val (List.mem_range.mp hy)).2
theorem Rl.regsEq (R : Rl P u0 bl M S bs ops) {d : Nat} {f : SF} (hf : S.fs[d]? = some f) : (M.stack.drop (bs d)).take f.regs.length = f.regs := by
  apply List.ext_getElem?
  intro i
  by_cases hi : i < f.regs.length
  · rw [List.getElem?_take, if_pos hi, List.getElem?_drop, R.regs d f i _ hf (List.getElem?_eq_getElem hi), List.getElem?_eq_getElem hi]
  · rw [List.getElem?_take, if_neg hi, List.getElem?_eq_none_iff.mpr (by lia)]
theorem cur_of {D : Nat} {f : SF} (hD : S.fs.length = D + 1) (hf : S.fs[D]? = some f) : S.cur = f := by
  unfold Sp.cur
  rw [List.getLast?_eq_getElem?, hD]
  simp [hf]
theorem Rl.note (R : Rl P u0 bl M S bs ops) {D func : Nat} {f : SF} {news : V} (hD : S.fs.length = D + 1) (hf : S.fs[D]? = some f) (htop : M.top = bs D + f.regs.length) (hfu : P.stands = true → func = P.shift + f.func) (ha : PV 4 news) :
    Rl P u0 bl { M with notes := M.notes ++ [noteV P M (bs D) f.regs.length news], places := M.places ++ [placeV P M func (bs D) (bs D + f.regs.length) ops] } (S.note news) bs ops := by
  have hc := cur_of hD hf
  have e1 : noteV P M (bs D) f.regs.length news = .tup [news, .lst S.cur.regs, .lst (S.gets 4)] := by
    unfold noteV
    rw [R.regsEq hf, R.gets, hc]
  refine ⟨R.regs, R.sep, R.shf, R.bel, ⟨R.opo.opens, R.opo.up, R.opo.nodup, R.opo.few⟩, R.desc, R.upl, R.opv, R.shv, R.opi, R.known, R.made, R.madeOk, ?_, R.ent, fun hs => ?_, R.basesT, R.opensT, ⟨R.sok.regs, R.sok.vars, fun v hv => ?_, fun v hv => ?_⟩⟩
  · show M.notes ++ _ = S.notes ++ _
    rw [R.notes, e1]
  · show M.places ++ _ = S.places ++ _
    rw [R.places hs]
    congr 2
    unfold placeV
    have hb := R.basesT hs D f hf
    have ho := R.opensT hs
    have hops : ops.map (fun q => V.int ((q.2 : Int) - P.shift)) = S.opens.map fun p => V.int (p : Nat) := by
      have : ops.map (fun q => V.int ((q.2 : Int) - P.shift)) = (ops.map (·.2)).map fun (p : Nat) => V.int ((p : Int) - P.shift) := by rw [List.map_map]; rfl
      rw [this, ho, List.map_map]
      apply List.map_congr_left
      intro p _
      show V.int (((P.shift + p : Nat) : Int) - P.shift) = _
      congr 1; lia
    rw [hops, htop, hfu hs, hb, hc]
    congr 2
    simp only [List.cons.injEq, V.int.injEq, and_true]
    lia
  · rcases List.mem_append.mp hv with h | h
    · exact R.sok.notes v h
    · rw [List.mem_singleton.mp h]
      refine PV.tup (k := 7) fun w hw => ?_
      simp only [List.mem_cons, List.not_mem_nil, or_false] at hw
      rcases hw with rfl | rfl | rfl
      · exact ha.le (by lia)
      · refine (PV.lst (k := 1) fun u hu => ?_).le (by lia)
        rw [hc] at hu
        exact (R.sok.regs D f hf u hu).pv
      · refine (PV.lst (k := 1) fun u hu => ?_).le (by lia)
        obtain ⟨x, _, rfl⟩ := List.mem_map.mp hu
        exact (Sp.get_atom R.sok x).pv
  · rcases List.mem_append.mp hv with h | h
    · exact R.sok.places v h
    · rw [List.mem_singleton.mp h]
      refine (PV.lst (k := 1) fun u hu => ?_).le (by lia)
      rcases List.mem_append.mp hu with hu | hu
      · simp only [List.mem_cons, List.not_mem_nil, or_false] at hu
        rcases hu with rfl | rfl | rfl | rfl <;> exact PV.int _
      · obtain ⟨p, _, rfl⟩ := List.mem_map.mp hu
        exact PV.int _
end Mine
end
section
set_option maxRecDepth 100000
namespace Mine
variable {P : Bw} {u0 : Nat} {bl : List V} {M : Mc} {S : Sp} {bs : Nat → Nat} {ops : List (Nat × Nat)}
noncomputable abbrev Desc (ops : List (Nat × Nat)) : Prop := ops.Pairwise fun a b => b.2 < a.2
theorem spot_cons (q : Nat × Nat) (r : List (Nat × Nat)) (p : Nat) : spot (q :: r) p = if p < q.2 then spot r p + 1 else 0 := by
  unfold spot; rw [List.takeWhile_cons]
  by_cases h : p < q.2 <;> simp [h]
theorem addO_cons (q : Nat × Nat) (r : List (Nat × Nat)) (i p : Nat) : addO (q :: r) i p = if p < q.2 then q :: addO r i p else (i, p) :: q :: r := by
  unfold addO; rw [spot_cons]
  by_cases h : p < q.2 <;> simp [h]
theorem addO_nil (i p : Nat) : addO [] i p = [(i, p)] := rfl
theorem insD_cons (a : Nat) (r : List Nat) (p : Nat) : insD p (a :: r) = if p < a then a :: insD p r else p :: a :: r := by
  unfold insD; rw [List.takeWhile_cons, List.dropWhile_cons]
  by_cases h : p < a <;> simp [h]
theorem spot_find : ∀ {ops : List (Nat × Nat)} {q : Nat × Nat}, Desc ops → q ∈ ops → ops[spot ops q.2]? = some q
  | p :: r, q, hd, hq => by
    obtain ⟨h1, h2⟩ := List.pairwise_cons.mp hd
    rw [spot_cons]
    rcases List.mem_cons.mp hq with rfl | hq
    · rw [if_neg (by lia)]; rfl
    · have := h1 q hq
      rw [if_pos this, List.getElem?_cons_succ]
      exact spot_find h2 hq
theorem addO_desc : ∀ {ops : List (Nat × Nat)} {i p : Nat}, Desc ops → (∀ q ∈ ops, q.2 ≠ p) → Desc (addO ops i p)
  | [], i, p, _, _ => by rw [addO_nil]; exact List.pairwise_singleton _ _
  | q :: r, i, p, hd, hn => by
    obtain ⟨h1, h2⟩ := List.pairwise_cons.mp hd
    have hq := hn q List.mem_cons_self
    rw [addO_cons]
    by_cases h : p < q.2
    · rw [if_pos h]
      refine List.pairwise_cons.mpr ⟨fun a ha => ?_, addO_desc h2 fun a ha => hn a (List.mem_cons_of_mem _ ha)⟩
      rcases addO_mem.mp ha with rfl | ha
      · exact h
      · exact h1 a ha
    · rw [if_neg h]
      refine List.pairwise_cons.mpr ⟨fun a ha => ?_, hd⟩
      rcases List.mem_cons.mp ha with rfl | ha
      · show a.2 < p; lia
      · have := h1 a ha
        show a.2 < p; lia
theorem addO_map (s b i : Nat) : ∀ (ops : List (Nat × Nat)) (opens : List Nat), ops.map (·.2) = opens.map (s + ·) → (addO ops i (s + b)).map (·.2) = (insD b opens).map (s + ·)
  | [], [], _ => rfl
  | [], _ :: _, h => by simp at h
  | _ :: _, [], h => by simp at h
  | q :: r, a :: t, h => by
    simp only [List.map_cons, List.cons.injEq] at h
    rw [addO_cons, insD_cons]
    by_cases hh : b < a
    · rw [if_pos hh, if_pos (by lia)]
      simp only [List.map_cons, List.cons.injEq]
      exact ⟨h.1, addO_map s b i r t h.2⟩
    · rw [if_neg hh, if_neg (by lia)]
      simp only [List.map_cons, List.cons.injEq, true_and]
      exact h
theorem addO_filter : ∀ (ops : List (Nat × Nat)) (i p l : Nat), l ≤ p → (addO ops i p).filter (fun q => decide (q.2 < l)) = ops.filter fun q => decide (q.2 < l)
  | [], i, p, l, h => by rw [addO_nil]; simp; lia
  | q :: r, i, p, l, h => by
    rw [addO_cons]
    by_cases hh : p < q.2
    · rw [if_pos hh, List.filter_cons, List.filter_cons, addO_filter r i p l h]
    · rw [if_neg hh, List.filter_cons (x := (i, p)), if_neg (by simp; lia)]
noncomputable abbrev Mc.vs (M : Mc) (u0 : Nat) (s : List (Nat × Nat) × List MObj) : Mc := { M with opens := s.1.map fun q => uref q.1, up := s.2, known := kn u0 s.2.length }
theorem Rl.new {up : List MObj} (R : Rl P u0 bl (M.vs u0 (ops, up)) S bs ops) {D r : Nat} {f : SF} (hD : S.fs.length = D + 1) (hf : S.fs[D]? = some f) (hr : r < f.regs.length) (hfew : ops.length + 1 ≤ 50000) (hno : ∀ q ∈ ops, q.2 ≠ bs D + r) :
    Rl P u0 bl (M.vs u0 (addO ops up.length (bs D + r), up ++ [opU P (bs D + r)])) { S with vars := S.vars ++ [.op D r], opens := insD (f.base + r) S.opens } bs (addO ops up.length (bs D + r)) := by
  have O' := OpsOk.add (P := P) (M := M) (ops := ops) (up := up) ⟨R.opo.opens, R.opo.up, R.opo.nodup, R.opo.few⟩ (bs D + r) hfew
  have hul : up.length = u0 + S.vars.length := R.upl
  refine ⟨R.regs, R.sep, R.shf, R.bel, ⟨O'.opens, O'.up, O'.nodup, O'.few⟩, addO_desc R.desc hno, by simp only [List.length_append, List.length_singleton, List.length_cons, List.length_nil]; lia, fun x d' r' hx => ?_, fun x w hx => ?_, fun q hq => ?_, rfl, R.made, fun l hl x hx => by have := R.madeOk l hl x hx; simp only [List.length_append]; lia, R.notes, R.ent, R.places, R.basesT, fun hs => ?_, ⟨R.sok.regs, fun x w hx => ?_, R.sok.notes, R.sok.places⟩⟩
  · rcases Nat.lt_trichotomy x S.vars.length with q | q | q
    · rw [List.getElem?_append_left q] at hx
      have := R.opv x d' r' hx
      exact ⟨this.1, addO_mem.mpr (.inr this.2)⟩
    · subst q
      simp at hx
      obtain ⟨rfl, rfl⟩ := hx
      exact ⟨⟨f, hf, hr⟩, addO_mem.mpr (.inl (by rw [hul]))⟩
    · rw [List.getElem?_eq_none_iff.mpr (by simp; lia)] at hx; simp at hx
  · rcases Nat.lt_trichotomy x S.vars.length with q | q | q
    · rw [List.getElem?_append_left q] at hx
      rcases R.shv x w hx with e | ⟨e, p, hp, h⟩
      · refine .inl ?_
        show (up ++ [opU P (bs D + r)])[u0 + x]? = _
        rw [List.getElem?_append_left (by lia)]
        exact e
      · exact .inr ⟨e, p, addO_mem.mpr (.inr hp), h⟩
    · subst q; simp at hx
    · rw [List.getElem?_eq_none_iff.mpr (by simp; lia)] at hx; simp at hx
  · rcases addO_mem.mp hq with rfl | hq
    · show u0 ≤ up.length; lia
    · exact R.opi q hq
  · have hb := R.basesT hs D f hf
    rw [hb, Nat.add_assoc]
    exact addO_map _ _ _ _ _ (R.opensT hs)
  · rcases Nat.lt_trichotomy x S.vars.length with q | q | q
    · rw [List.getElem?_append_left q] at hx
      exact R.sok.vars x w hx
    · subst q; simp at hx
    · rw [List.getElem?_eq_none_iff.mpr (by simp; lia)] at hx; simp at hx
structure Kin (S S' : Sp) : Prop where
  fs : S'.fs = S.fs
  vars : S.vars.length ≤ S'.vars.length
theorem SV.is_iff {d r : Nat} {w : SV} : SV.is d r w = true ↔ w = .op d r := by
  cases w with
  | op d' r' => simp [SV.is]
  | sh v => simp [SV.is]
noncomputable def InFrame (place base size : Nat) (ops : List (Nat × Nat)) : Prop := ∀ q ∈ ops, q.2 < place ∨ base ≤ q.2 ∧ q.2 < base + size
noncomputable abbrev lows (place : Nat) (ops : List (Nat × Nat)) : List (Nat × Nat) := ops.filter fun q => decide (q.2 < place)
structure Pkd (P : Bw) (u0 : Nat) (bl : List V) (M : Mc) (bs : Nat → Nat) (place b n : Nat) (S : Sp) (s : List (Nat × Nat) × List MObj) (S' : Sp) (s' : List (Nat × Nat) × List MObj) : Prop where
  rel : Rl P u0 bl (M.vs u0 s') S' bs s'.1
  kin : Kin S S'
  inf : InFrame place b n s'.1
  low : lows place s'.1 = lows place s.1
structure PkOne (P : Bw) (u0 : Nat) (bl : List V) (M : Mc) (bs : Nat → Nat) (place b n : Nat) (S : Sp) (s : List (Nat × Nat) × List MObj) (q : Nat × List (Nat × Nat) × List MObj) (q' : Nat × Sp) : Prop where
  to : Pkd P u0 bl M bs place b n S s q'.2 q.2
  id : q.1 = u0 + q'.1
  lt : q'.1 < q'.2.vars.length
structure PkAll (P : Bw) (u0 : Nat) (bl : List V) (M : Mc) (bs : Nat → Nat) (place b n : Nat) (S : Sp) (s : List (Nat × Nat) × List MObj) (q : List Nat × List (Nat × Nat) × List MObj) (q' : List Nat × Sp) : Prop where
  to : Pkd P u0 bl M bs place b n S s q'.2 q.2
  id : q.1 = q'.1.map (u0 + ·)
  lt : ∀ x ∈ q'.1, x < q'.2.vars.length
theorem Pkd.same {place b n : Nat} {s : List (Nat × Nat) × List MObj} (R : Rl P u0 bl (M.vs u0 s) S bs s.1) (hI : InFrame place b n s.1) : Pkd P u0 bl M bs place b n S s S s := ⟨R, ⟨rfl, Nat.le_refl _⟩, hI, rfl⟩
theorem Pkd.trans {place b n : Nat} {S₁ S₂ : Sp} {s s₁ s₂ : List (Nat × Nat) × List MObj} (h : Pkd P u0 bl M bs place b n S s S₁ s₁) (h' : Pkd P u0 bl M bs place b n S₁ s₁ S₂ s₂) : Pkd P u0 bl M bs place b n S s S₂ s₂ :=
  ⟨h'.rel, ⟨h'.kin.fs.trans h.kin.fs, Nat.le_trans h.kin.vars h'.kin.vars⟩, h'.inf, h'.low.trans h.low⟩
theorem pick_at {ops : List (Nat × Nat)} {up : List MObj} {kept : List Nat} {base r : Nat} {o : Option (Nat × Nat)} (h : (ops[spot ops (base + r)]?).filter (fun q => q.2 == base + r) = o) :
    pick P kept base (false, r) (ops, up) = match (generalizing := false) o with | some q => (q.1, (ops, up)) | Option.none => (up.length, addO ops up.length (base + r), up ++ [opU P (base + r)]) := by
  rw [← h]; rfl
theorem Rl.pickFound {ops : List (Nat × Nat)} {up : List MObj} (R : Rl P u0 bl (M.vs u0 (ops, up)) S bs ops) {D place n r x : Nat} {kept : List Nat} (hx : x < S.vars.length) (hp : S.vars[x]? = some (.op D r)) (hI : InFrame place (bs D) n ops) :
    PkOne P u0 bl M bs place (bs D) n S (ops, up) (pick P (kept.map (u0 + ·)) (bs D) (false, r) (ops, up)) (x, S) := by
  have hs := spot_find R.desc (R.opv x D r hp).2
  rw [pick_at (show _ = some (u0 + x, bs D + r) by rw [hs]; exact if_pos (beq_self_eq_true _))]
  exact ⟨.same R hI, rfl, hx⟩
theorem Rl.pickNew {ops : List (Nat × Nat)} {up : List MObj} (R : Rl P u0 bl (M.vs u0 (ops, up)) S bs ops) {D place r : Nat} {f : SF} {kept : List Nat} (hD : S.fs.length = D + 1) (hf : S.fs[D]? = some f) (hr : r < f.regs.length) (hn : ∀ v ∈ S.vars, SV.is D r v = false) (hfew : ops.length + 1 ≤ 50000) (hI : InFrame place (bs D) f.regs.length ops) (hpl : place ≤ bs D) :
    PkOne P u0 bl M bs place (bs D) f.regs.length S (ops, up) (pick P (kept.map (u0 + ·)) (bs D) (false, r) (ops, up)) (S.vars.length, { S with vars := S.vars ++ [.op D r], opens := insD (f.base + r) S.opens }) := by
  have hno : ∀ q ∈ ops, q.2 ≠ bs D + r := fun q hq e => by
    obtain ⟨x, hx, hxl, h | h⟩ := R.opAt hq
    · obtain ⟨d', r', f', hv, hf', hr', e'⟩ := h
      obtain ⟨h1, h2⟩ := R.dis hf hf' hr hr' (e.symm.trans e')
      have := hn _ (List.mem_of_getElem? hv)
      rw [← h1, ← h2, SV.is_iff.mpr rfl] at this
      exact Bool.noConfusion this
    · obtain ⟨_, v, _, _, _, h⟩ := h
      rw [e] at h
      exact (h D f hf).elim (fun h => Nat.not_lt.mpr (Nat.le_add_right _ _) h) fun h => Nat.not_le.mpr (Nat.add_lt_add_left hr _) h
  rw [pick_at (show _ = Option.none from ?hf)]
  case hf =>
    cases h : (ops[spot ops (bs D + r)]?).filter (fun q => q.2 == bs D + r) with
    | none => rfl
    | some q =>
      obtain ⟨h1, h2⟩ := Option.filter_eq_some_iff.mp h
      exact absurd (eq_of_beq h2) (hno q (List.mem_of_getElem? h1))
  refine ⟨⟨R.new hD hf hr hfew hno, ⟨rfl, by simp⟩, fun q hq => ?_, addO_filter _ _ _ _ (Nat.le_trans hpl (Nat.le_add_right _ _))⟩, R.upl, by simp⟩
  rcases addO_mem.mp hq with e | hq
  · rw [e]; exact .inr ⟨Nat.le_add_right _ _, Nat.add_lt_add_left hr _⟩
  · exact hI q hq
theorem Rl.pickOne {s : List (Nat × Nat) × List MObj} (R : Rl P u0 bl (M.vs u0 s) S bs s.1) {D place : Nat} {f : SF} {kept : List Nat} {w : Bool × Nat} (hD : S.fs.length = D + 1) (hf : S.fs[D]? = some f) (hk : ∀ x ∈ kept, x < S.vars.length)
    (hw : if w.1 then w.2 < kept.length else w.2 < f.regs.length) (hfew : s.1.length + 1 ≤ 50000) (hI : InFrame place (bs D) f.regs.length s.1) (hpl : place ≤ bs D) :
    PkOne P u0 bl M bs place (bs D) f.regs.length S s (pick P (kept.map (u0 + ·)) (bs D) w s) (S.pick kept w) := by
  obtain ⟨ops, up⟩ := s
  obtain ⟨ik, r⟩ := w
  cases ik with
  | true =>
    have e := List.getElem?_eq_getElem (show r < kept.length from hw)
    refine ⟨.same R hI, ?_, ?_⟩
    · show ((kept.map (u0 + ·))[r]?).getD 0 = u0 + (kept[r]?).getD 0
      rw [List.getElem?_map, e]; rfl
    · show (kept[r]?).getD 0 < S.vars.length
      rw [e]
      exact hk _ (List.getElem_mem hw)
  | false =>
    show PkOne P u0 bl M bs place (bs D) f.regs.length S (ops, up) _ (S.find r)
    unfold Sp.find
    rw [show S.fs.length - 1 = D by rw [hD]; rfl, cur_of hD hf]
    cases hfi : S.vars.findIdx? (SV.is D r) with
    | some x =>
      obtain ⟨hx, hp, _⟩ := List.findIdx?_eq_some_iff_getElem.mp hfi
      exact R.pickFound hx (by rw [List.getElem?_eq_getElem hx, SV.is_iff.mp hp]) hI
    | none => exact R.pickNew hD hf hw (List.findIdx?_eq_none_iff.mp hfi) hfew hI hpl
theorem Rl.pickAll {D place : Nat} {f : SF} {kept : List Nat} (hpl : place ≤ bs D) (ws : List (Bool × Nat)) : ∀ {S : Sp} {s : List (Nat × Nat) × List MObj}, Rl P u0 bl (M.vs u0 s) S bs s.1 → S.fs.length = D + 1 → S.fs[D]? = some f → (∀ x ∈ kept, x < S.vars.length) →
    (∀ w ∈ ws, if w.1 then w.2 < kept.length else w.2 < f.regs.length) → s.1.length + ws.length ≤ 50000 → InFrame place (bs D) f.regs.length s.1 →
    PkAll P u0 bl M bs place (bs D) f.regs.length S s (Mine.picks P (kept.map (u0 + ·)) (bs D) ws s) (Sp.picks kept ws S) := by
  induction ws with
  | nil => exact fun R _ _ _ _ _ hI => ⟨.same R hI, rfl, fun _ hx => nomatch hx⟩
  | cons w r ih =>
    intro S s R hD hf hk hw hl hI
    have hl : s.1.length + (r.length + 1) ≤ 50000 := hl
    have h := R.pickOne hD hf hk (hw w List.mem_cons_self) (Nat.le_trans (Nat.add_le_add_left (Nat.succ_le_succ (Nat.zero_le _)) _) hl) hI hpl
    have hlen : (pick P (kept.map (u0 + ·)) (bs D) w s).2.1.length + r.length ≤ 50000 := by
      refine Nat.le_trans (Nat.add_le_add_right (pick_len P (kept.map (u0 + ·)) (bs D) w s) _) ?_
      rw [Nat.add_assoc, Nat.add_comm 1]; exact hl
    have g := ih h.to.rel (by rw [h.to.kin.fs]; exact hD) (by rw [h.to.kin.fs]; exact hf) (fun x hx => Nat.lt_of_lt_of_le (hk x hx) h.to.kin.vars) (fun w' hw' => hw w' (List.mem_cons_of_mem _ hw')) hlen h.to.inf
    refine ⟨h.to.trans g.to, ?_, fun x hx => ?_⟩
    · show _ :: _ = _ :: _
      rw [h.id, g.id]
    · rcases List.mem_cons.mp hx with e | hx
      · rw [e]; exact Nat.lt_of_lt_of_le h.lt g.to.kin.vars
      · exact g.lt x hx
theorem lay_map (kept : List Nat) (size : Nat) (w : Nat × Nat) : lay (kept.map (u0 + ·)) size w = lay kept size w := by
  unfold lay; cases kept <;> simp
theorem lay_ok {kept : List Nat} {size : Nat} {w : Nat × Nat} (hs : 0 < size) : if (lay kept size w).1 then (lay kept size w).2 < kept.length else (lay kept size w).2 < size := by
  unfold lay
  simp only
  by_cases h : (w.1 == 1 && !kept.isEmpty) = true
  · rw [if_pos h, if_pos h]
    refine Nat.mod_lt _ ?_
    cases kept with
    | nil => simp at h
    | cons x r => simp
  · rw [if_neg h, if_neg h]
    exact Nat.mod_lt _ hs
theorem Rl.makeAll (R : Rl P u0 bl M S bs ops) {D place : Nat} {f : SF} {kept : List Nat} {ws : List (Nat × Nat)} (hD : S.fs.length = D + 1) (hf : S.fs[D]? = some f) (hk : ∀ x ∈ kept, x < S.vars.length) (hs : 0 < f.regs.length)
    (hl : ops.length + ws.length ≤ 50000) (hI : InFrame place (bs D) f.regs.length ops) (hpl : place ≤ bs D) (hw : ws.length ≤ 2) (pk : List Nat × List (Nat × Nat) × List MObj) (hpk : Mine.picks P (kept.map (u0 + ·)) (bs D) (ws.map (lay (kept.map (u0 + ·)) f.regs.length)) (ops, M.up) = pk) (t : List MObj) :
    Rl P u0 bl { M with tmp := t, opens := pk.2.1.map fun q => uref q.1, up := pk.2.2, known := kn u0 pk.2.2.length, made := M.made ++ [.lst (pk.1.map uref)] } (S.make kept ws).2 bs pk.2.1 ∧
      V.lst (pk.1.map (fun id => .lst [.int ((id : Int) - u0)]) ++ [.int ws.length]) = (S.make kept ws).1 ∧ Kin S (S.make kept ws).2 ∧ InFrame place (bs D) f.regs.length pk.2.1 ∧ lows place pk.2.1 = lows place ops ∧ PV 4 (S.make kept ws).1 := by
  have R0 : Rl P u0 bl (M.vs u0 (ops, M.up)) S bs ops := R.re rfl R.opo.opens.symm rfl R.known.symm rfl rfl rfl rfl
  have e0 : ws.map (lay (kept.map (u0 + ·)) f.regs.length) = ws.map (lay kept f.regs.length) := by apply List.map_congr_left; intro w _; exact lay_map kept _ w
  rw [e0] at hpk
  obtain ⟨⟨g1, g4, g5, g6⟩, g2, g3⟩ := Rl.pickAll (place := place) hpl (ws.map (lay kept f.regs.length)) R0 hD hf hk (fun w hw => by
    obtain ⟨w0, _, rfl⟩ := List.mem_map.mp hw
    exact lay_ok hs) (by simp only [List.length_map]; exact hl) hI
  simp only at g1 g2 g5 g6
  rw [hpk] at g1 g2 g5 g6
  unfold Sp.make
  rw [cur_of hD hf]
  simp only
  generalize Sp.picks kept (ws.map (lay kept f.regs.length)) S = q at g1 g2 g3 g4 ⊢
  refine ⟨⟨g1.regs, g1.sep, g1.shf, g1.bel, ⟨g1.opo.opens, g1.opo.up, g1.opo.nodup, g1.opo.few⟩, g1.desc, g1.upl, g1.opv, g1.shv, g1.opi, g1.known, ?_, fun l hl x hx => ?_, g1.notes, g1.ent, g1.places, g1.basesT, g1.opensT, ⟨g1.sok.regs, g1.sok.vars, g1.sok.notes, g1.sok.places⟩⟩, ?_, ⟨g4.fs, g4.vars⟩, g5, g6, ?_⟩
  · show M.made ++ _ = (q.2.made ++ [q.1]).map _
    have : M.made = _ := g1.made
    rw [List.map_append, ← this, g2]
    simp [Function.comp_def]
  · rcases List.mem_append.mp hl with h | h
    · exact g1.madeOk l h x hx
    · rw [List.mem_singleton.mp h] at hx; exact g3 x hx
  · rw [g2, List.map_map]
    congr 2
    apply List.map_congr_left
    intro x _
    show V.lst [.int (((u0 + x : Nat) : Int) - u0)] = _
    congr 3; lia
  · refine (PV.lst (k := 2) fun v hv => ?_).le (by lia)
    rcases List.mem_append.mp hv with h | h
    · obtain ⟨x, _, rfl⟩ := List.mem_map.mp h
      exact PV.lst (k := 1) fun u hu => by rw [List.mem_singleton.mp hu]; exact PV.int _
    · rw [List.mem_singleton.mp h]; exact (PV.int _).up
end Mine
end
section
set_option maxRecDepth 100000
namespace Mine
variable {P : Bw} {u0 : Nat} {bl : List V} {M : Mc} {S : Sp} {bs : Nat → Nat} {ops : List (Nat × Nat)}
theorem high_cons (q : Nat × Nat) (r : List (Nat × Nat)) (l : Nat) : high (q :: r) l = if l ≤ q.2 then high r l + 1 else 0 := by
  unfold high; rw [List.takeWhile_cons]
  by_cases h : l ≤ q.2 <;> simp [h]
theorem drop_high : ∀ {ops : List (Nat × Nat)} (l : Nat), Desc ops → ops.drop (high ops l) = lows l ops
  | [], l, _ => rfl
  | q :: r, l, hd => by
    obtain ⟨h1, h2⟩ := List.pairwise_cons.mp hd
    rw [high_cons]
    unfold lows
    rw [List.filter_cons]
    by_cases h : l ≤ q.2
    · rw [if_pos h, if_neg (by simp; lia), List.drop_succ_cons]
      exact drop_high l h2
    · rw [if_neg h, if_pos (by simp; lia), List.drop_zero, List.filter_eq_self.mpr fun a ha => by have := h1 a ha; simp; lia]
theorem take_high {ops : List (Nat × Nat)} {l : Nat} (hd : Desc ops) {q : Nat × Nat} (hq : q ∈ ops) (h : l ≤ q.2) : q ∈ ops.take (high ops l) := by
  rw [← List.take_append_drop (high ops l) ops] at hq
  rcases List.mem_append.mp hq with hq | hq
  · exact hq
  · rw [drop_high l hd] at hq
    have := (List.mem_filter.mp hq).2
    simp at this; lia
theorem drop_opens (s lv : Nat) : ∀ (ops : List (Nat × Nat)) (opens : List Nat), ops.map (·.2) = opens.map (s + ·) → (ops.drop (high ops (s + lv))).map (·.2) = (opens.dropWhile fun p => decide (lv ≤ p)).map (s + ·)
  | [], [], _ => rfl
  | [], _ :: _, h => by simp at h
  | _ :: _, [], h => by simp at h
  | q :: r, a :: t, h => by
    have h' := h
    simp only [List.map_cons, List.cons.injEq] at h'
    rw [high_cons, List.dropWhile_cons]
    by_cases hh : lv ≤ a
    · rw [if_pos (by lia), if_pos (by simpa using hh), List.drop_succ_cons]
      exact drop_opens s lv r t h'.2
    · rw [if_neg (by lia), if_neg (by simpa using hh), List.drop_zero]
      exact h
theorem close_var {d0 lv x : Nat} {w : SV} (h : (S.close d0 lv).vars[x]? = some w) : ∃ w0, S.vars[x]? = some w0 ∧ w = (match w0 with | .op d' r => if d0 ≤ d' then .sh (S.reg d' r) else w0 | y => y) := by
  unfold Sp.close at h
  simp only [List.getElem?_map] at h
  cases hv : S.vars[x]? with
  | none => rw [hv] at h; simp at h
  | some w0 =>
    rw [hv] at h
    simp only [Option.map_some, Option.some.injEq] at h
    exact ⟨w0, rfl, h.symm⟩
theorem Rl.shut (R : Rl P u0 bl M S bs ops) {level d0 lv : Nat} (hsep : ∀ d f, S.fs[d]? = some f → (d < d0 → bs d + f.regs.length ≤ level) ∧ (d0 ≤ d → level ≤ bs d)) (hT : P.stands = true → level = P.shift + lv) (t : List MObj) :
    Rl P u0 bl { M with tmp := t, opens := (lows level ops).map fun q => uref q.1, up := closeUp M.stack (ops.take (high ops level)) M.up } (S.close d0 lv) bs (lows level ops) := by
  have hdr := drop_high level R.desc
  have hn := R.opo.nodup
  have hnt : ((ops.take (high ops level)).map (·.1)).Nodup := by rw [List.map_take]; exact List.Sublist.nodup (List.take_sublist _ _) hn
  have hsub : (lows level ops).Sublist ops := List.filter_sublist
  have hat : ∀ q ∈ ops, level ≤ q.2 → (closeUp M.stack (ops.take (high ops level)) M.up)[q.1]? = some (clU ((M.stack[q.2]?).getD .none)) := fun q hq hl =>
    closeUp_at _ _ _ q hnt (take_high R.desc hq hl) (List.getElem?_eq_some_iff.mp (R.opo.up q hq)).1
  have hidin : ∀ (i : Nat) (l : List (Nat × Nat)), i ∈ l.map (·.1) → ∃ p, (i, p) ∈ l := fun i l h => by
    obtain ⟨q, hq, rfl⟩ := List.mem_map.mp h
    exact ⟨q.2, hq⟩
  have hother : ∀ q ∈ ops, q.2 < level → (closeUp M.stack (ops.take (high ops level)) M.up)[q.1]? = M.up[q.1]? := fun q hq hl => by
    refine closeUp_other _ _ _ _ fun hm => ?_
    obtain ⟨p, hp⟩ := hidin _ _ hm
    have hp2 := List.mem_of_mem_take hp
    have := R.id_pos (i := q.1) (p := q.2) hq hp2
    subst this
    rw [← List.take_append_drop (high ops level) ops, List.map_append, List.nodup_append] at hn
    have hqd : q ∈ ops.drop (high ops level) := by rw [hdr]; exact List.mem_filter.mpr ⟨hq, by simpa using hl⟩
    exact hn.2.2 q.1 hm q.1 (List.mem_map.mpr ⟨q, hqd, rfl⟩) rfl
  have hnone : ∀ i, (∀ p, (i, p) ∉ ops) → (closeUp M.stack (ops.take (high ops level)) M.up)[i]? = M.up[i]? := fun i h => by
    refine closeUp_other _ _ _ _ fun hm => ?_
    obtain ⟨p, hp⟩ := hidin _ _ hm
    exact h p (List.mem_of_mem_take hp)
  have hlow : ∀ q ∈ ops, q.2 < level → q ∈ lows level ops := fun q hq h => List.mem_filter.mpr ⟨hq, by simpa using h⟩
  refine ⟨R.regs, R.sep, R.shf, R.bel, ⟨rfl, fun q hq => ?_, (hsub.map _).nodup hn, Nat.le_trans hsub.length_le R.opo.few⟩, R.desc.sublist hsub, ?_, fun x d r hx => ?_, fun x v hx => ?_, fun q hq => R.opi q (hsub.subset hq), ?_, R.made, fun l hl x hx => ?_, R.notes, R.ent, R.places, R.basesT, fun hs => ?_, ⟨R.sok.regs, fun x v hx => ?_, R.sok.notes, R.sok.places⟩⟩
  · obtain ⟨h1, h2⟩ := List.mem_filter.mp hq
    show (closeUp M.stack (ops.take (high ops level)) M.up)[q.1]? = _
    rw [hother q h1 (by simpa using h2)]
    exact R.opo.up q h1
  · show (closeUp _ _ _).length = u0 + (S.vars.map _).length
    rw [closeUp_len, List.length_map]; exact R.upl
  · obtain ⟨w0, h0, e⟩ := close_var hx
    cases w0 with
    | sh v => simp at e
    | op d' r' =>
      simp only at e
      by_cases hd : d0 ≤ d'
      · rw [if_pos hd] at e; simp at e
      · rw [if_neg hd] at e
        cases e
        obtain ⟨⟨f, hf, hr⟩, hm⟩ := R.opv x d r h0
        have := (hsep d f hf).1 (by lia)
        exact ⟨⟨f, hf, hr⟩, hlow _ hm (by simp; lia)⟩
  · obtain ⟨w0, h0, e⟩ := close_var hx
    cases w0 with
    | sh v' =>
      simp only at e
      cases e
      rcases R.shv x v h0 with e | ⟨e, p, hp, hpv, hps, hpo⟩
      · refine .inl ?_
        show (closeUp M.stack (ops.take (high ops level)) M.up)[u0 + x]? = _
        rw [hnone _ fun p hp => ?_, e]
        have := R.opo.up _ hp
        simp only at this
        rw [e] at this; simp at this
      · by_cases hl : level ≤ p
        · refine .inl ?_
          have := hat _ hp hl
          simp only [hpv, Option.getD_some] at this
          exact this
        · exact .inr ⟨e, p, hlow _ hp (by simp; lia), hpv, hps, hpo⟩
    | op d' r' =>
      simp only at e
      by_cases hd : d0 ≤ d'
      · rw [if_pos hd] at e
        cases e
        obtain ⟨⟨f, hf, hr⟩, hm⟩ := R.opv x d' r' h0
        have hl := (hsep d' f hf).2 hd
        refine .inl ?_
        have := hat _ hm (by simp; lia)
        simp only [R.regs d' f r' _ hf (List.getElem?_eq_getElem hr), Option.getD_some] at this
        rw [show S.reg d' r' = f.regs[r'] by simp [Sp.reg, hf, List.getElem?_eq_getElem hr]]
        exact this
      · rw [if_neg hd] at e; simp at e
  · show M.known = kn u0 (closeUp _ _ _).length
    rw [closeUp_len]; exact R.known
  · show x < (S.vars.map _).length
    rw [List.length_map]; exact R.madeOk l hl x hx
  · rw [← hdr, hT hs]
    exact drop_opens _ _ _ _ (R.opensT hs)
  · obtain ⟨w0, h0, e⟩ := close_var hx
    cases w0 with
    | sh v' => simp only at e; cases e; exact R.sok.vars x v h0
    | op d' r' =>
      simp only at e
      by_cases hd : d0 ≤ d'
      · rw [if_pos hd] at e; cases e; exact Sp.reg_atom R.sok _ _
      · rw [if_neg hd] at e; simp at e
theorem close_noop {d0 lv x d r : Nat} (h : (S.close d0 lv).vars[x]? = some (.op d r)) : d < d0 := by
  obtain ⟨w0, h0, e⟩ := close_var h
  cases w0 with
  | sh v => simp at e
  | op d' r' =>
    simp only at e
    by_cases hd : d0 ≤ d'
    · rw [if_pos hd] at e; simp at e
    · rw [if_neg hd] at e; cases e; lia
theorem Rl.down (R : Rl P u0 bl M S bs ops) {n : Nat} (hv : ∀ (x d r : Nat), S.vars[x]? = some (SV.op d r) → d < n) : Rl P u0 bl M { S with fs := S.fs.take n } bs ops := by
  have hg : ∀ d f, (S.fs.take n)[d]? = some f → S.fs[d]? = some f := fun d f h => by
    rw [List.getElem?_take] at h
    by_cases q : d < n
    · rwa [if_pos q] at h
    · rw [if_neg q] at h; simp at h
  refine ⟨fun d f r v h => R.regs d f r v (hg d f h), fun a b f f' hab h h' => R.sep a b f f' hab (hg a f h) (hg b f' h'), fun d h => R.shf d ?_, R.bel, R.opo, R.desc, R.upl, fun x d r hx => ?_, fun x v hx => ?_, R.opi, R.known, R.made, R.madeOk, R.notes, R.ent, R.places, fun hs d f h => R.basesT hs d f (hg d f h), R.opensT, ⟨fun d f h => R.sok.regs d f (hg d f h), R.sok.vars, R.sok.notes, R.sok.places⟩⟩
  · have : d < (S.fs.take n).length := h
    rw [List.length_take] at this; lia
  · obtain ⟨⟨f, hf, hr⟩, hm⟩ := R.opv x d r hx
    have hd := hv x d r hx
    exact ⟨⟨f, by show (S.fs.take n)[d]? = _; rw [List.getElem?_take, if_pos hd]; exact hf, hr⟩, hm⟩
  · rcases R.shv x v hx with e | ⟨e, p, hp, hpv, hps, hpo⟩
    · exact .inl e
    · exact .inr ⟨e, p, hp, hpv, hps, fun d f h => hpo d f (hg d f h)⟩
theorem Rl.above (R : Rl P u0 bl M S bs ops) {lim : Nat} {st : List V} (hlim : ∀ d f, S.fs[d]? = some f → bs d + f.regs.length ≤ lim) (hops : ∀ q ∈ ops, q.2 < lim) (hsh : P.shift ≤ lim) (hst : ∀ k, k < lim → st[k]? = M.stack[k]?) :
    Rl P u0 bl { M with stack := st } S bs ops := by
  refine ⟨fun d f r v h hr => ?_, R.sep, R.shf, fun k hk => ?_, ⟨R.opo.opens, R.opo.up, R.opo.nodup, R.opo.few⟩, R.desc, R.upl, R.opv, fun x v hx => ?_, R.opi, R.known, R.made, R.madeOk, R.notes, R.ent, R.places, R.basesT, R.opensT, R.sok⟩
  · have h1 := hlim d f h
    have h2 := (List.getElem?_eq_some_iff.mp hr).1
    show st[bs d + r]? = _
    rw [hst _ (by lia)]
    exact R.regs d f r v h hr
  · show st[k]? = _
    rw [hst _ (by lia)]
    exact R.bel k hk
  · rcases R.shv x v hx with e | ⟨e, p, hp, hpv, hps, hpo⟩
    · exact .inl e
    · refine .inr ⟨e, p, hp, ?_, hps, hpo⟩
      show st[p]? = _
      rw [hst _ (hops _ hp)]
      exact hpv
noncomputable def upd (bs : Nat → Nat) (n b : Nat) : Nat → Nat := fun d => if d = n then b else bs d
theorem Rl.push (R : Rl P u0 bl M S bs ops) {lim base : Nat} {st : List V} {f : SF} (hlim : ∀ d f, S.fs[d]? = some f → bs d + f.regs.length ≤ lim) (hops : ∀ q ∈ ops, q.2 < lim) (hsh : P.shift ≤ lim) (hst : ∀ k, k < lim → st[k]? = M.stack[k]?) (hb : lim ≤ base)
    (hregs : ∀ r v, f.regs[r]? = some v → st[base + r]? = some v) (hat : ∀ v ∈ f.regs, Atom v) (hT : P.stands = true → base = P.shift + f.base) :
    Rl P u0 bl { M with stack := st } { S with fs := S.fs ++ [f] } (upd bs S.fs.length base) ops := by
  have R := R.above hlim hops hsh hst
  have hu : ∀ d, d < S.fs.length → upd bs S.fs.length base d = bs d := fun d h => by unfold upd; rw [if_neg (by lia)]
  have hu' : upd bs S.fs.length base S.fs.length = base := by unfold upd; rw [if_pos rfl]
  have hg : ∀ d f', (S.fs ++ [f])[d]? = some f' → (d < S.fs.length ∧ S.fs[d]? = some f') ∨ (d = S.fs.length ∧ f' = f) := fun d f' h => by
    rcases Nat.lt_trichotomy d S.fs.length with q | q | q
    · rw [List.getElem?_append_left q] at h; exact .inl ⟨q, h⟩
    · subst q; simp at h; exact .inr ⟨rfl, h.symm⟩
    · rw [List.getElem?_eq_none_iff.mpr (by simp; lia)] at h; simp at h
  refine ⟨fun d f' r v h hr => ?_, fun a b f1 f2 hab h1 h2 => ?_, fun d h => ?_, R.bel, R.opo, R.desc, R.upl, fun x d r hx => ?_, fun x v hx => ?_, R.opi, R.known, R.made, R.madeOk, R.notes, R.ent, R.places, fun hs d f' h => ?_, R.opensT, ⟨fun d f' h => ?_, R.sok.vars, R.sok.notes, R.sok.places⟩⟩
  · rcases hg d f' h with ⟨q, h⟩ | ⟨rfl, rfl⟩
    · rw [hu d q]; exact R.regs d f' r v h hr
    · rw [hu']; exact hregs r v hr
  · rcases hg a f1 h1 with ⟨q, g1⟩ | ⟨q, g1⟩
    · rw [hu a q]
      rcases hg b f2 h2 with ⟨q', g2⟩ | ⟨q', g2⟩
      · rw [hu b q']; exact R.sep a b f1 f2 hab g1 g2
      · rw [q', hu']; exact Nat.le_trans (hlim a f1 g1) hb
    · rcases hg b f2 h2 with ⟨q', g2⟩ | ⟨q', g2⟩ <;> lia
  · have hd : d < (S.fs ++ [f]).length := h
    rw [List.length_append, List.length_singleton] at hd
    by_cases q : d < S.fs.length
    · rw [hu d q]; exact R.shf d q
    · rw [show d = S.fs.length by lia, hu']; lia
  · obtain ⟨⟨f', hf, hr⟩, hm⟩ := R.opv x d r hx
    have hd := (List.getElem?_eq_some_iff.mp hf).1
    refine ⟨⟨f', ?_, hr⟩, by rw [hu d hd]; exact hm⟩
    show (S.fs ++ [f])[d]? = _
    rw [List.getElem?_append_left hd]; exact hf
  · rcases R.shv x v hx with e | ⟨e, p, hp, hpv, hps, hpo⟩
    · exact .inl e
    · refine .inr ⟨e, p, hp, hpv, hps, fun d f' h => ?_⟩
      rcases hg d f' h with ⟨q, h⟩ | ⟨rfl, rfl⟩
      · rw [hu d q]; exact hpo d f' h
      · rw [hu']; exact .inl (Nat.lt_of_lt_of_le (hops _ hp) hb)
  · rcases hg d f' h with ⟨q, h⟩ | ⟨rfl, rfl⟩
    · rw [hu d q]; exact R.basesT hs d f' h
    · rw [hu']; exact hT hs
  · rcases hg d f' h with ⟨q, h⟩ | ⟨rfl, rfl⟩
    · exact R.sok.regs d f' h
    · exact hat
theorem Rl.bases (R : Rl P u0 bl M S bs ops) {bs' : Nat → Nat} (h : ∀ d, d < S.fs.length → bs' d = bs d) : Rl P u0 bl M S bs' ops := by
  have hl : ∀ d f, S.fs[d]? = some f → bs' d = bs d := fun d f hf => h d (List.getElem?_eq_some_iff.mp hf).1
  refine ⟨fun d f r v hf hr => ?_, fun a b f f' hab h1 h2 => ?_, fun d hd => ?_, R.bel, R.opo, R.desc, R.upl, fun x d r hx => ?_, fun x v hx => ?_, R.opi, R.known, R.made, R.madeOk, R.notes, R.ent, R.places, fun hs d f hf => ?_, R.opensT, R.sok⟩
  · rw [hl d f hf]; exact R.regs d f r v hf hr
  · rw [hl a f h1, hl b f' h2]; exact R.sep a b f f' hab h1 h2
  · rw [h d hd]; exact R.shf d hd
  · obtain ⟨⟨f', hf, hr⟩, hm⟩ := R.opv x d r hx
    exact ⟨⟨f', hf, hr⟩, by rw [hl d f' hf]; exact hm⟩
  · rcases R.shv x v hx with e | ⟨e, p, hp, hpv, hps, hpo⟩
    · exact .inl e
    · exact .inr ⟨e, p, hp, hpv, hps, fun d f hf => by rw [hl d f hf]; exact hpo d f hf⟩
  · rw [hl d f hf]; exact R.basesT hs d f hf
theorem grow_get {l : List V} {n k : Nat} (h : k < l.length) : (growL l n)[k]? = l[k]? := List.getElem?_append_left h
theorem grow_le {l : List V} {n : Nat} : l.length ≤ (growL l n).length := by rw [growL_len]; exact Nat.le_max_left _ _
theorem grow_ge {l : List V} {n : Nat} : n ≤ (growL l n).length := by rw [growL_len]; exact Nat.le_max_right _ _
theorem fill_out {l : List V} {a b k : Nat} (h : ¬ (a ≤ k ∧ k < b)) : (fillL l a b)[k]? = l[k]? := by
  rw [fillL_get]
  cases l[k]? with
  | none => rfl
  | some v => exact congrArg some (if_neg h)
theorem fill_in {l : List V} {a b k : Nat} (hk : k < l.length) (h1 : a ≤ k) (h2 : k < b) : (fillL l a b)[k]? = some .none := by
  rw [fillL_get, List.getElem?_eq_getElem hk]
  exact congrArg some (if_pos ⟨h1, h2⟩)
theorem mvL_low (l : List V) (goal first n k : Nat) (h : k < goal) : (mvL l goal first n)[k]? = l[k]? := by
  rw [mvL_get]
  cases l[k]? with
  | none => rfl
  | some v => exact congrArg some (if_neg fun q => Nat.not_lt.mpr q.1 h)
theorem mvL_in (l : List V) (goal first n i : Nat) (hg : goal ≤ first) (hi : i < n) (hl : first + n ≤ l.length) : (mvL l goal first n)[goal + i]? = l[first + i]? := by
  have h2 := Nat.lt_of_lt_of_le (Nat.add_lt_add_left hi first) hl
  rw [mvL_get, List.getElem?_eq_getElem (Nat.lt_of_le_of_lt (Nat.add_le_add_right hg i) h2), Nat.add_sub_cancel_left, List.getElem?_eq_getElem h2]
  exact congrArg some (if_pos ⟨Nat.le_add_right _ _, Nat.add_lt_add_left hi goal⟩)
theorem fresh_at {params size r : Nat} {args : List V} {v : V} (h : ((List.range size).map fun r => if r < params then (args[r]?).getD .none else .none)[r]? = some v) : r < size ∧ v = if r < params then (args[r]?).getD .none else .none := by
  have hr := (List.getElem?_eq_some_iff.mp h).1
  rw [List.length_map, List.length_range] at hr
  rw [List.getElem?_map, List.getElem?_range hr] at h
  exact ⟨hr, (Option.some.inj h).symm⟩
theorem enter_shut {l : List V} {place params size top : Nat} {args : List V} (htop : top = place + 1 + args.length) (hl : top ≤ l.length) (hargs : ∀ i v, args[i]? = some v → l[place + 1 + i]? = some v) (hps : params ≤ size) :
    (∀ k, k ≤ place → (fillL (growL l (place + 1 + size)) (min top (place + 1 + params)) (place + 1 + size))[k]? = l[k]?) ∧
    (∀ r v, (((List.range size).map fun r => if r < params then (args[r]?).getD .none else .none))[r]? = some v → (fillL (growL l (place + 1 + size)) (min top (place + 1 + params)) (place + 1 + size))[place + 1 + r]? = some v) := by
  subst htop
  have hpl : place < l.length := Nat.lt_of_lt_of_le (Nat.lt_of_lt_of_le (Nat.lt_succ_self _) (Nat.le_add_right _ _)) hl
  refine ⟨fun k hk => ?_, fun r v h => ?_⟩
  · rw [fill_out fun h => Nat.not_lt.mpr (Nat.le_trans h.1 hk) (Nat.lt_min.mpr ⟨Nat.lt_of_lt_of_le (Nat.lt_succ_self _) (Nat.le_add_right _ _), Nat.lt_of_lt_of_le (Nat.lt_succ_self _) (Nat.le_add_right _ _)⟩)]
    exact grow_get (Nat.lt_of_le_of_lt hk hpl)
  · obtain ⟨hr, rfl⟩ := fresh_at h
    by_cases h1 : r < params ∧ r < args.length
    · have hv := hargs r _ (List.getElem?_eq_getElem h1.2)
      rw [if_pos h1.1, List.getElem?_eq_getElem h1.2, fill_out fun h => Nat.not_lt.mpr h.1 (Nat.lt_min.mpr ⟨Nat.add_lt_add_left h1.2 _, Nat.add_lt_add_left h1.1 _⟩), grow_get (List.getElem?_eq_some_iff.mp hv).1, hv]
      rfl
    · have hm : min (place + 1 + args.length) (place + 1 + params) ≤ place + 1 + r := by
        rcases Nat.lt_or_ge r params with q | q
        · exact Nat.le_trans (Nat.min_le_left _ _) (Nat.add_le_add_left (Nat.le_of_not_lt fun h => h1 ⟨q, h⟩) _)
        · exact Nat.le_trans (Nat.min_le_right _ _) (Nat.add_le_add_left q _)
      rw [fill_in (Nat.lt_of_lt_of_le (Nat.add_lt_add_left hr _) grow_ge) hm (Nat.add_lt_add_left hr _)]
      by_cases h2 : r < params
      · rw [if_pos h2, List.getElem?_eq_none_iff.mpr (Nat.le_of_not_lt fun h => h1 ⟨h2, h⟩)]; rfl
      · rw [if_neg h2]
theorem enter_open {l l1 : List V} {place params size top base : Nat} {args : List V} (htop : top = place + 1 + args.length) (hargs : ∀ i v, args[i]? = some v → l[place + 1 + i]? = some v) (hb1 : top ≤ base) (hb2 : place + 1 + params ≤ base) (hps : params ≤ size)
    (hlen : base + params ≤ l1.length) (hget : ∀ k, k < top → l1[k]? = l[k]?) (hnone : ∀ k, top ≤ k → k < base → l1[k]? = some .none) :
    (∀ k, k ≤ place → (fillL (growL (liftL l1 base (place + 1) params) (base + size)) (base + params) (base + size))[k]? = l[k]?) ∧
    (∀ r v, (((List.range size).map fun r => if r < params then (args[r]?).getD .none else .none))[r]? = some v → (fillL (growL (liftL l1 base (place + 1) params) (base + size)) (base + params) (base + size))[base + r]? = some v) ∧
    (∀ i v, args[params + i]? = some v → (fillL (growL (liftL l1 base (place + 1) params) (base + size)) (base + params) (base + size))[place + 1 + params + i]? = some v) := by
  have hpt : place < top := by rw [htop]; exact Nat.lt_of_lt_of_le (Nat.lt_succ_self _) (Nat.le_add_right _ _)
  have hl2 : ∀ k, k < l1.length → (growL (liftL l1 base (place + 1) params) (base + size))[k]? = (l1[k]?).map fun v => if base ≤ k ∧ k < base + params then (l1[place + 1 + (k - base)]?).getD .none else if place + 1 ≤ k ∧ k < place + 1 + params then .none else v := fun k hk => by
    rw [grow_get (by rw [liftL_len]; exact hk), liftL_get]
  have low : ∀ k v, k < base → (k < place + 1 ∨ place + 1 + params ≤ k) → l1[k]? = some v → (fillL (growL (liftL l1 base (place + 1) params) (base + size)) (base + params) (base + size))[k]? = some v := fun k v hk hp hv => by
    rw [fill_out fun h => Nat.not_lt.mpr (Nat.le_trans (Nat.le_add_right _ _) h.1) hk, hl2 k (List.getElem?_eq_some_iff.mp hv).1, hv]
    refine congrArg some ((if_neg fun h => Nat.not_lt.mpr h.1 hk).trans (if_neg fun h => ?_))
    exact hp.elim (Nat.not_lt.mpr h.1) (Nat.not_le.mpr h.2)
  refine ⟨fun k hk => ?_, fun r v h => ?_, fun i v h => ?_⟩
  · have hkt := Nat.lt_of_le_of_lt hk hpt
    have hkb := Nat.lt_of_lt_of_le hkt hb1
    have hkl : k < l1.length := Nat.lt_of_lt_of_le hkb (Nat.le_trans (Nat.le_add_right _ _) hlen)
    exact ((low k _ hkb (.inl (Nat.lt_succ_of_le hk)) (List.getElem?_eq_getElem hkl)).trans (List.getElem?_eq_getElem hkl).symm).trans (hget k hkt)
  · obtain ⟨hr, rfl⟩ := fresh_at h
    by_cases h1 : r < params
    · have hk := Nat.lt_of_lt_of_le (Nat.add_lt_add_left h1 base) hlen
      rw [if_pos h1, fill_out fun h => Nat.not_lt.mpr h.1 (Nat.add_lt_add_left h1 _), hl2 _ hk, List.getElem?_eq_getElem hk]
      refine congrArg some ((if_pos ⟨Nat.le_add_right _ _, Nat.add_lt_add_left h1 _⟩).trans ?_)
      rw [Nat.add_sub_cancel_left]
      by_cases h2 : r < args.length
      · rw [hget _ (by rw [htop]; exact Nat.add_lt_add_left h2 _), hargs r _ (List.getElem?_eq_getElem h2), List.getElem?_eq_getElem h2]
      · rw [hnone _ (by rw [htop]; exact Nat.add_le_add_left (Nat.le_of_not_lt h2) _) (Nat.lt_of_lt_of_le (Nat.add_lt_add_left h1 _) hb2), List.getElem?_eq_none_iff.mpr (Nat.le_of_not_lt h2)]; rfl
    · rw [if_neg h1]
      exact fill_in (Nat.lt_of_lt_of_le (Nat.add_lt_add_left hr _) grow_ge) (Nat.add_le_add_left (Nat.le_of_not_lt h1) _) (Nat.add_lt_add_left hr _)
  · have ha := (List.getElem?_eq_some_iff.mp h).1
    have hk : place + 1 + params + i < top := by rw [htop, Nat.add_assoc (place + 1)]; exact Nat.add_lt_add_left ha _
    exact low _ v (Nat.lt_of_lt_of_le hk hb1) (.inr (Nat.le_add_right _ _)) ((hget _ hk).trans (by rw [Nat.add_assoc (place + 1)]; exact hargs _ _ h))
theorem enter_spec (l : List V) (io : Bool) (place params size top : Nat) (args : List V) (htop : top = place + 1 + args.length) (hl : top ≤ l.length) (hargs : ∀ i v, args[i]? = some v → l[place + 1 + i]? = some v) (hps : params ≤ size) :
    (∀ k, k ≤ place → (enterL l io place params size top)[k]? = l[k]?) ∧
    (∀ r v, (((List.range size).map fun r => if r < params then (args[r]?).getD .none else .none))[r]? = some v → (enterL l io place params size top)[baseOf io place params top + r]? = some v) ∧
    (io = true → ((enterL l io place params size top).drop (place + 1 + params)).take (baseOf io place params top - (place + 1 + params)) = args.drop params) ∧
    baseOf io place params top = (if io then place + 1 + max args.length params else place + 1) ∧
    (enterL l io place params size top).length ≤ max l.length (baseOf io place params top + params + size) ∧ baseOf io place params top + size ≤ (enterL l io place params size top).length := by
  have hb : baseOf io place params top = (if io then place + 1 + max args.length params else place + 1) := by
    cases io with
    | false => rfl
    | true =>
      show top + (params - (top - place - 1)) = place + 1 + max args.length params
      rw [htop, Nat.sub_sub, Nat.add_sub_cancel_left, Nat.add_assoc (place + 1), Nat.add_comm args.length, Nat.sub_add_eq_max, Nat.max_comm]
  generalize hB : baseOf io place params top = base at *
  cases io with
  | false =>
    have hb' : base = place + 1 := hb
    subst hb'
    have hE : enterL l false place params size top = fillL (growL l (place + 1 + size)) (min top (place + 1 + params)) (place + 1 + size) := by unfold enterL; rw [hB]; rfl
    rw [hE]
    obtain ⟨h1, h2⟩ := enter_shut htop hl hargs hps
    exact ⟨h1, h2, fun h => (nomatch h), rfl, by rw [fillL_len, growL_len, Nat.add_right_comm (place + 1)]; exact Nat.max_le.mpr ⟨Nat.le_max_left _ _, Nat.le_trans (Nat.le_add_right _ _) (Nat.le_max_right _ _)⟩, by rw [fillL_len]; exact grow_ge⟩
  | true =>
    have hb' : base = place + 1 + max args.length params := hb
    have hb1 : top ≤ base := by rw [htop, hb']; exact Nat.add_le_add_left (Nat.le_max_left _ _) _
    have hb2 : place + 1 + params ≤ base := by rw [hb']; exact Nat.add_le_add_left (Nat.le_max_right _ _) _
    have hfirst : base - max (top - place - 1) params = place + 1 := by rw [htop, hb', Nat.sub_sub, Nat.add_sub_cancel_left, Nat.add_sub_cancel]
    have hE : enterL l true place params size top = fillL (growL (liftL (growL (fillL (growL l base) top base) (base + params)) base (place + 1) params) (base + size)) (base + params) (base + size) := by unfold enterL; rw [hB]; simp only [if_true, hfirst]
    have hg : ∀ k, k < (growL l base).length → (growL (fillL (growL l base) top base) (base + params))[k]? = (fillL (growL l base) top base)[k]? := fun k hk => grow_get (by rw [fillL_len]; exact hk)
    have hlen : base + params ≤ (growL (fillL (growL l base) top base) (base + params)).length := grow_ge
    obtain ⟨h1, h2, h3⟩ := enter_open (l1 := growL (fillL (growL l base) top base) (base + params)) htop hargs hb1 hb2 hps hlen
      (fun k hk => by
        have hkl := Nat.lt_of_lt_of_le hk hl
        rw [hg k (Nat.lt_of_lt_of_le hkl grow_le), fill_out fun h => Nat.not_lt.mpr h.1 hk, grow_get hkl])
      (fun k hk hk2 => by
        have hkl := Nat.lt_of_lt_of_le hk2 (grow_ge (l := l) (n := base))
        rw [hg k hkl, fill_in hkl hk hk2])
    have hl1 : (growL (fillL (growL l base) top base) (base + params)).length ≤ max l.length (base + params + size) := by
      rw [growL_len, fillL_len, growL_len]
      exact Nat.max_le.mpr ⟨Nat.max_le.mpr ⟨Nat.le_max_left _ _, Nat.le_trans (Nat.le_trans (Nat.le_add_right _ _) (Nat.le_add_right _ _)) (Nat.le_max_right _ _)⟩, Nat.le_trans (Nat.le_add_right _ _) (Nat.le_max_right _ _)⟩
    rw [hE]
    generalize growL (fillL (growL l base) top base) (base + params) = l1 at *
    refine ⟨h1, h2, fun _ => ?_, hb, by rw [fillL_len, growL_len, liftL_len, Nat.add_right_comm base params]; exact Nat.max_le.mpr ⟨Nat.add_right_comm base params size ▸ hl1, Nat.le_trans (Nat.le_add_right _ _) (Nat.le_max_right _ _)⟩, by rw [fillL_len]; exact grow_ge⟩
    apply List.ext_getElem?
    intro i
    rw [List.getElem?_take, List.getElem?_drop, List.getElem?_drop, hb', Nat.add_sub_add_left]
    by_cases hi : params + i < args.length
    · rw [if_pos (Nat.lt_of_lt_of_le (Nat.lt_sub_of_add_lt (by rwa [Nat.add_comm])) (Nat.sub_le_sub_right (Nat.le_max_left _ _) _)), ← hb', h3 i _ (List.getElem?_eq_getElem hi), List.getElem?_eq_getElem hi]
    · rw [if_neg (Nat.not_lt.mpr (Nat.le_trans (Nat.sub_le_of_le_add (Nat.max_le.mpr ⟨by rw [Nat.add_comm]; exact Nat.le_of_not_lt hi, Nat.le_add_left _ _⟩)) (Nat.le_refl i))), List.getElem?_eq_none_iff.mpr (Nat.le_of_not_lt hi)]
end Mine
end
section
set_option maxRecDepth 100000
namespace Mine
noncomputable def deedM (P : Bw) (pls dv kv : V) (j size : Nat) (a b c d : V) : List V := [wref P, pls, dv, kv, fref j, .int size, sref P, .ref .frames (P.n .frames), a, b, c, d]
theorem deed_start (P : Bw) (M : Mc) (cl : CallF) (pls dv kv : V) (j size : Nat) {r : List MS} {R : Option (V × St)} (h : fin (exs cl r (deedM P pls dv kv j size .undef .undef .undef .undef) (enc P M)) = R) :
    fin (exs cl (.asgT [.loc 6, .loc 7] (.tup [.attr (.key (.loc 0) .world 0) .ground 0, .key (.loc 0) .world 1]) :: r) [wref P, pls, dv, kv, fref j, .int size, .undef, .undef, .undef, .undef, .undef, .undef] (enc P M)) = R := by
  exact fin_step (m' := deedM P pls dv kv j size .undef .undef .undef .undef) (x_asgT' (r_tup (r_cons (r_attr (r_key rfl (e_dct P M) rfl) (e_gro P M) rfl) (r_cons (r_key rfl (e_dct P M) rfl) r_nil))) rfl) h
theorem ok_deed_set (P : Bw) (M : Mc) (g j func base tp size : Nat) (wanted tails : Int) (pls kv : V) (r v : Nat) (hj : M.fr[j]? = some (frO func base tp wanted tails)) (hl : base + r < M.stack.length) :
    callD tab0 (g + 1) (.fn 38) [wref P, pls, encD (.set r v), kv, fref j, .int size] (enc P M) = some (.lst [], enc P { M with stack := M.stack.set (base + r) (.int v) }) := by
  refine call_go [wref P, pls, encD (.set r v), kv, fref j, .int size, .undef, .undef, .undef, .undef, .undef, .undef] (n := 38) rfl rfl rfl ?_
  generalize callD tab0 g = cl at *
  refine deed_start P M cl _ _ _ _ _ ?_
  exact fin_ifR rfl (exs_step (x_asg' rfl (s_idx (n := base + r) rfl (r_bin (r_attr rfl (f_at hj) rfl) rfl (b_add rfl)) (e_stack P M) hl (s_stack P M _))) (exs_ret rfl))
theorem d_known (P : Bw) (M : Mc) : deref (enc P M) (.ref .known (P.n .known)) = .lst M.known := by
  show (match (enc P M).lst .known (P.n .known) with | some vs => V.lst vs | Option.none => .ref .known (P.n .known)) = _
  rw [e_known]
theorem ne_nil {σ : St} {l : List V} (h : l ≠ []) : cmpop σ .NotEq (.lst l) (deref σ (.lst [])) = some true := by
  cases l with
  | nil => exact absurd rfl h
  | cons => rfl
theorem ok_deed_put0 (P : Bw) (M : Mc) (g j size : Nat) (pls kv : V) (k v : Nat) (hk : M.known = []) :
    callD tab0 (g + 1) (.fn 38) [wref P, pls, encD (.put k v), kv, fref j, .int size] (enc P M) = some (.lst [], enc P M) := by
  refine call_go [wref P, pls, encD (.put k v), kv, fref j, .int size, .undef, .undef, .undef, .undef, .undef, .undef] (n := 38) rfl rfl rfl ?_
  generalize callD tab0 g = cl at *
  refine deed_start P M cl _ _ _ _ _ ?_
  refine fin_skip rfl (fin_ifR rfl (exs_step (x_if0 (t_cmp (r_key rfl (e_dct P M) rfl) (r_lst r_nil) ?_) exs_end) (exs_ret rfl)))
  rw [d_known, hk]; rfl
theorem ok_deed_put (P : Bw) (M M' : Mc) (g j size i : Nat) (pls kv : V) (k v : Nat) (vs : List V) (hk : M.known[k % M.known.length]? = some (uref i)) (hu : M.up[i]? = some (.inst vs))
    (hset : callD tab0 g (.fn 19) [uref i, .int v] (enc P M) = some (.none, enc P M')) :
    callD tab0 (g + 1) (.fn 38) [wref P, pls, encD (.put k v), kv, fref j, .int size] (enc P M) = some (.lst [], enc P M') := by
  refine call_go [wref P, pls, encD (.put k v), kv, fref j, .int size, .undef, .undef, .undef, .undef, .undef, .undef] (n := 38) rfl rfl rfl ?_
  generalize callD tab0 g = cl at *
  refine deed_start P M cl _ _ _ _ _ ?_
  have hlt := (List.getElem?_eq_some_iff.mp hk).1
  have hne2 : M.known ≠ [] := fun e => by rw [e] at hlt; exact absurd hlt (Nat.not_lt_zero _)
  have e1 := mod_nat k M.known.length (fun e => hne2 (List.eq_nil_of_length_eq_zero e))
  refine fin_skip rfl (fin_ifR rfl (exs_step (x_if1 (t_cmp (r_key rfl (e_dct P M) rfl) (r_lst r_nil) ?_) (exs_step (x_expr' (r_meth (r_idx (r_key rfl (e_dct P M) rfl) (r_bin rfl (r_len (r_key rfl (e_dct P M) rfl) (i_known P M)) e1) (i_known P M) (place_nat hlt) hk) (u_at hu) (r_cons rfl r_nil) hset)) exs_end)) (exs_ret rfl)))
  rw [d_known]; exact ne_nil hne2
theorem ok_deed_make (P : Bw) (M : Mc) (σ' : St) (g j size : Nat) (pls kv res : V) (ws : List (Nat × Nat)) (hkv : kv ≠ .undef) (hm : callD tab0 g (.fn 37) [wref P, .lst (ws.map fun w => .tup [.int w.1, .int w.2]), kv, fref j, .int size] (enc P M) = some (res, σ')) :
    callD tab0 (g + 1) (.fn 38) [wref P, pls, encD (.make ws), kv, fref j, .int size] (enc P M) = some (res, σ') := by
  refine call_go [wref P, pls, encD (.make ws), kv, fref j, .int size, .undef, .undef, .undef, .undef, .undef, .undef] (n := 38) rfl rfl rfl ?_
  generalize callD tab0 g = cl at *
  refine deed_start P M cl _ _ _ _ _ ?_
  exact fin_skip rfl (fin_skip rfl (fin_ifR rfl (exs_ret (r_call r_glob (r_cons rfl (r_cons rfl (r_cons (r_locu rfl hkv) (r_cons rfl (r_cons rfl r_nil))))) hm))))
theorem ev_row (P : Bw) (M : Mc) (cl : CallF) (m : List V) (j func base tp : Nat) (wanted tails : Int) (row : List Nat) (fi si zi : Nat) (e : ME) (hj : M.fr[j]? = some (frO func base tp wanted tails)) (he : ev cl e m (enc P M) = some (rowV row, enc P M))
    (hf : m[fi]? = some (fref j)) (hs : m[si]? = some (sref P)) (hz : m.length = zi) (hr : ∀ r ∈ row, base + r < M.stack.length) :
    ev cl (.compS (.idx (.loc si) (.bin .Add (.attr (.loc fi) .frame 1) (.loc zi))) e) m (enc P M) = some (.lst (row.map fun r => (M.stack[base + r]?).getD .none), enc P M) := by
  have hfl := (List.getElem?_eq_some_iff.mp hf).1
  have hsl := (List.getElem?_eq_some_iff.mp hs).1
  refine r_compS (c := row.length) he (congrArg some (List.length_map ..)) (gather_all (fun r => (M.stack[base + r]?).getD .none) row 0 fun i r hi => ?_) (congrArg some (List.length_map ..))
  have h1 := hr r (List.mem_of_getElem? hi)
  rw [Nat.zero_add]
  exact bind_eq (show (row.map fun i => V.int (i : Nat))[i]? = some (.int (r : Nat)) by rw [List.getElem?_map, hi]; rfl)
    (bind_eq (r_idx (r_locR (by rw [List.getElem?_append_left hsl]; exact hs)) (r_bin (r_attr (r_locR (by rw [List.getElem?_append_left hfl]; exact hf)) (f_at hj) rfl) (r_locI (by rw [← hz]; exact List.getElem?_concat_length)) (b_add rfl)) (i_stack P M) (place_nat (p := base + r) h1) (by rw [List.getElem?_eq_getElem h1]; rfl)) rfl)
theorem ex_top {P : Bw} {M : Mc} {cl : CallF} {m : List V} {e : ME} {t : Nat} {σ : St} (he : ev cl e m σ = some (.int t, enc P M)) (hw : m[0]? = some (wref P)) : ex cl (.asg (.key (.loc 0) .world 2) e) m σ = some (.next, m, enc P { M with top := t }) := by
  exact x_asg' he (s_key (r_locR hw) (e_dct P M) rfl (s_top P M t))
noncomputable def failB : List MS := [.expr (.call (.glob "unwound" (.fn 14)) [.loc 7, .loc 9]), .expr (.call (.glob "take_closed" (.fn 29)) [.key (.loc 0) .world 0, .loc 8]), .asg (.key (.loc 0) .world 2) (.attr (.loc 4) .frame 2), .ret (.lst [.con (.str "raised"), .cmp .Eq (.len (.loc 7)) (.loc 9)])]
theorem deed_call (P : Bw) (M M1 : Mc) (σ2 : St) (g j func base tp size : Nat) (wanted tails : Int) (pls kv : V) (n : Nat) (row : List Nat) (w : Int) (b : Bool) (R : Option (V × St)) (hj : M.fr[j]? = some (frO func base tp wanted tails)) (hr : ∀ r ∈ row, base + r < M.stack.length) (hrl : row.length ≤ 3) (hpls : pls ≠ .undef)
    (hp : callD tab0 g (.fn 34) [wref P, .lst (.int n :: row.map fun r => (M.stack[base + r]?).getD .none)] (enc P M) = some (.int M.top, enc P M1)) (hrun : callD tab0 g (.fn 39) [wref P, pls, .int M.top, .int w] (enc P M1) = some (.bool b, σ2))
    (hrest : b = true → fin (exs (callD tab0 g) (f38.body.drop 6) (deedM P pls (encD (.call n row w)) kv j size (.int M.top) (.int M1.frames.length) .undef .undef) σ2) = R)
    (hfail : b = false → ∃ v m' σ', exs (callD tab0 g) failB (deedM P pls (encD (.call n row w)) kv j size (.int M.top) (.int M1.frames.length) .undef .undef) σ2 = some (.ret v, m', σ') ∧ R = some (v, σ')) :
    callD tab0 (g + 1) (.fn 38) [wref P, pls, encD (.call n row w), kv, fref j, .int size] (enc P M) = R := by
  refine call_go [wref P, pls, encD (.call n row w), kv, fref j, .int size, .undef, .undef, .undef, .undef, .undef, .undef] (n := 38) rfl rfl rfl ?_
  generalize callD tab0 g = cl at *
  refine deed_start P M cl _ _ _ _ _ ?_
  have hrow := ev_row P M cl (deedM P pls (encD (.call n row w)) kv j size .undef .undef .undef .undef) j func base tp wanted tails row 4 6 12 (.idx (.loc 2) (.con (.int 2))) hj rfl rfl rfl rfl hr
  refine fin_skip rfl (fin_skip rfl (fin_skip rfl ?_))
  refine fin_step (m' := deedM P pls (encD (.call n row w)) kv j size (.int M.top) (.int M1.frames.length) .undef .undef) (x_asgT' (r_tup (r_cons (r_call r_glob (r_cons rfl (r_cons (r_bin (r_lst (r_cons rfl r_nil)) hrow (b_addL (okLen_of (k := 4) ?_ rfl))) r_nil)) hp) (r_cons (r_len rfl (i_frames _ _)) r_nil))) rfl) ?_
  · rw [List.length_map]; exact Nat.add_le_add_left hrl 1
  have ht := t_not (t_call (cl := cl) (m := deedM P pls (encD (.call n row w)) kv j size (.int M.top) (.int M1.frames.length) .undef .undef) (f := .glob "_law_run" (.fn 39)) (es := [.loc 0, .loc 1, .loc 8, .idx (.loc 2) (.con (.int 3))]) r_glob (r_cons rfl (r_cons (r_locu rfl hpls) (r_cons rfl (r_cons rfl r_nil)))) hrun)
  cases b with
  | true => exact fin_skip ht (hrest rfl)
  | false =>
    obtain ⟨v, m', σ', h1, rfl⟩ := hfail rfl
    exact fin_ifR ht h1
theorem exs_step' {cl : CallF} {st : MS} {r : List MS} {m m' : List V} {σ σ' : St} {R : Option (Fl × List V × St)} (h : ex cl st m σ = some (.next, m', σ')) (h2 : exs cl r m' σ' = R) : exs cl (st :: r) m σ = R := exs_step h h2
theorem deed_fail (P : Bw) (M2 : Mc) (g j func base tp size dep place : Nat) (wanted tails : Int) (pls dv kv : V) (ops : List (Nat × Nat)) (hj : M2.fr[j]? = some (frO func base tp wanted tails)) (hfl : M2.frames.length ≤ 50000) (hdep : dep ≤ M2.frames.length)
    (O : OpsOk P M2 ops) (hs : ∀ q ∈ ops, q.2 < M2.stack.length) :
    ∃ m', exs (callD tab0 (g + 2)) failB (deedM P pls dv kv j size (.int place) (.int dep) .undef .undef) (enc P M2) =
      some (.ret (.lst [.str "raised", .bool true]), m', enc P { M2 with frames := M2.frames.take dep, tmp := M2.tmp ++ [.gone], opens := (ops.drop (high ops place)).map fun q => uref q.1, up := closeUp M2.stack (ops.take (high ops place)) M2.up, top := tp }) := by
  have h1 := ok_unwound P M2 (g + 1) dep hfl
  obtain ⟨v, h2⟩ := ok_take_closed P { M2 with frames := M2.frames.take dep } g place ops ⟨O.opens, O.up, O.nodup, O.few⟩ hs
  have h3 : (((M2.frames.take dep).length : Nat) : Int) = dep := by rw [List.length_take, Nat.min_eq_left hdep]
  generalize callD tab0 (g + 2) = cl at *
  exact ⟨_, exs_step (x_expr' (r_call r_glob (r_cons rfl (r_cons rfl r_nil)) h1)) (exs_step (x_expr' (r_call r_glob (r_cons (r_key rfl (e_dct P _) rfl) (r_cons rfl r_nil)) h2)) (exs_step (ex_top (P := P) (M := { M2 with frames := _, tmp := _, opens := _, up := _ }) (r_attr rfl (f_at hj) rfl) rfl)
    (exs_ret (r_lst (r_cons r_con (r_cons (r_cmp (r_len rfl (i_frames P _)) rfl (c_eq h3)) r_nil))))))⟩
theorem deed_done (P : Bw) (M2 : Mc) (g j func base tp size dep place : Nat) (wanted tails w : Int) (pls kv : V) (n : Nat) (row : List Nat) (fs : List V) (res : List V) (hj : M2.fr[j]? = some (frO func base tp wanted tails)) (hfs : M2.frames = fs ++ [fref j])
    (htop : M2.top = place + res.length) (htl : M2.top ≤ M2.stack.length) (hres : (M2.stack.drop place).take res.length = res) (hw : w = -1 ∨ 0 ≤ w) (hb : base < M2.stack.length) (hrl : res.length ≤ 1000) :
    fin (exs (callD tab0 (g + 1)) (f38.body.drop 6) (deedM P pls (encD (.call n row w)) kv j size (.int place) (.int dep) .undef .undef) (enc P M2)) =
      some (.lst [.lst res, .bool true], enc P { M2 with stack := M2.stack.set base ((res.head?).getD .none), top := tp }) := by
  have h1 := ok_top_behind P M2 g fs j func base tp M2.top wanted w tails hfs hj
  have hcut := cut_some M2.stack place M2.top (by rw [htop]; exact Nat.le_add_right _ _) htl
  rw [show M2.top - place = res.length by rw [htop]; exact Nat.add_sub_cancel_left .., hres] at hcut
  generalize callD tab0 (g + 1) = cl at *
  refine fin_step (m' := deedM P pls (encD (.call n row w)) kv j size (.int place) (.int dep) (.lst res) .undef) (σ' := enc P M2) (x_asg' (r_slcAB rfl rfl (r_key rfl (e_dct P M2) rfl) ?_) rfl) ?_
  · show ((enc P M2).lst .stack (P.n .stack)).map _ = _
    rw [e_stack]; exact congrArg (fun l => some (V.lst l)) hcut
  refine fin_step (m' := deedM P pls (encD (.call n row w)) kv j size (.int place) (.int dep) (.lst res) (.bool true)) (σ' := enc P M2) ?_ ?_
  · rcases hw with hw | hw
    · rw [if_pos hw] at h1
      exact x_asg' (r_cmp (r_call r_glob (r_cons rfl (r_cons rfl (r_cons (r_key rfl (e_dct P M2) rfl) r_nil))) h1) (r_iteF (t_cmp rfl r_con (c_nge (by rw [hw]; decide))) (r_bin rfl (r_len rfl rfl) (b_add rfl))) (c_eq (congrArg Int.ofNat htop))) rfl
    · rw [if_neg (by lia)] at h1
      exact x_asg' (r_cmp (r_call r_glob (r_cons rfl (r_cons rfl (r_cons (r_key rfl (e_dct P M2) rfl) r_nil))) h1) (r_iteT (t_cmp rfl r_con (c_ge hw)) (r_attr rfl (f_at hj) rfl)) (c_eq rfl)) rfl
  have hh : ((res ++ [V.none])[0]?) = some ((res.head?).getD .none) := by cases res <;> rfl
  refine fin_step (x_asg' (r_idx (r_bin rfl (r_lst (r_cons r_con r_nil)) (b_addL (okLen_of (k := 1001) (Nat.add_le_add_right hrl 1) rfl))) r_con rfl (place_nat (p := 0) (by rw [List.length_append]; exact Nat.succ_pos _)) hh) (s_idx rfl (r_attr rfl (f_at hj) rfl) (e_stack P M2) hb (s_stack P M2 _))) ?_
  exact fin_step (ex_top (P := P) (M := { M2 with stack := _ }) (r_attr rfl (f_at hj) rfl) rfl) (fin_ret rfl)
end Mine
end
section
set_option maxRecDepth 100000
namespace Mine
variable {P : Bw} {u0 : Nat} {bl : List V} {M : Mc} {S : Sp} {bs : Nat → Nat} {ops : List (Nat × Nat)} {b : Nat}
structure Sz (u0 : Nat) (M : Mc) (ops : List (Nat × Nat)) (b : Nat) : Prop where
  stack : M.stack.length ≤ 40 * b
  top : M.top ≤ 40 * b
  frames : M.frames.length ≤ b
  notes : M.notes.length ≤ b
  places : M.places.length ≤ b
  made : M.made.length ≤ b
  up : M.up.length ≤ u0 + 2 * b
  ops : ops.length ≤ 2 * b
theorem Sz.mono {b' : Nat} (h : Sz u0 M ops b) (hb : b ≤ b') : Sz u0 M ops b' :=
  have h40 := Nat.mul_le_mul_left 40 hb
  have h2 := Nat.mul_le_mul_left 2 hb
  ⟨Nat.le_trans h.stack h40, Nat.le_trans h.top h40, Nat.le_trans h.frames hb, Nat.le_trans h.notes hb, Nat.le_trans h.places hb, Nat.le_trans h.made hb, Nat.le_trans h.up (Nat.add_le_add_left h2 _), Nat.le_trans h.ops h2⟩
noncomputable def cost : Nat → Nat
  | 0 => 0
  | k + 1 => 14 + 3 * cost k
noncomputable def hcost (k : Nat) : Nat := 12 + 3 * cost k
noncomputable def shp (f : SF) : Nat × Nat × Nat := (f.regs.length, f.func, f.base)
theorem shp_get {S S' : Sp} {n : Nat} (h : (S'.fs.map shp).take n = (S.fs.map shp).take n) {d : Nat} {f' : SF} (hd : d < n) (hf : S'.fs[d]? = some f') : ∃ f, S.fs[d]? = some f ∧ shp f = shp f' := by
  have e := congrArg (·[d]?) h
  simp only [List.getElem?_take, if_pos hd, List.getElem?_map, hf, Option.map_some] at e
  cases hs : S.fs[d]? with
  | none => rw [hs] at e; simp at e
  | some f => rw [hs] at e; simp only [Option.map_some, Option.some.injEq] at e; exact ⟨f, rfl, e.symm⟩
theorem setR_shape (d r : Nat) (v : V) : (S.setR d r v).fs.map shp = S.fs.map shp := by
  apply List.ext_getElem?
  intro i
  rw [List.getElem?_map, List.getElem?_map]
  unfold Sp.setR
  simp only [List.getElem?_modify]
  cases S.fs[i]? with
  | none => rfl
  | some f =>
    simp only [Option.map_eq_map, Option.map_some, Option.some.injEq]
    split <;> simp [shp]
structure Oc where
  sh : List (Nat × Nat × Nat)
  fs : List V
  fr0 : List MObj
  ops0 : List (Nat × Nat)
  well : Bool
  vn : Nat
  place : Nat
  wanted : Int
  bs : Nat → Nat
structure Fc where
  j : Nat
  size : Nat
  func : Nat
  fbase : Nat
  tails : Int
noncomputable abbrev Oc.D (O : Oc) : Nat := O.sh.length
structure At (P : Bw) (u0 : Nat) (bl : List V) (O : Oc) (F : Fc) (M : Mc) (S : Sp) (bs : Nat → Nat) (ops : List (Nat × Nat)) (b : Nat) : Prop where
  rl : Rl P u0 bl M S bs ops
  shape : S.fs.map shp = O.sh ++ [(F.size, F.func, F.fbase)]
  bases : ∀ d, d < O.D → bs d = O.bs d
  frames : M.frames = O.fs ++ [fref F.j]
  fr : M.fr[F.j]? = some (frO O.place (bs O.D) (bs O.D + F.size) O.wanted F.tails)
  old : ∀ i, i < O.fr0.length → M.fr[i]? = O.fr0[i]?
  jn : O.fr0.length ≤ F.j
  top : M.top = bs O.D + F.size
  plb : O.place < bs O.D
  shf : P.shift ≤ O.place
  fu : P.stands = true → O.place = P.shift + F.func
  ins : InFrame O.place (bs O.D) F.size ops
  low : lows O.place ops = O.ops0
  seps : ∀ d f, d < O.D → S.fs[d]? = some f → bs d + f.regs.length ≤ O.place
  well : M.well = O.well
  vn : O.vn ≤ S.vars.length
  pos : 0 < F.size
  sz : Sz u0 M ops b
structure PoS (P : Bw) (u0 : Nat) (bl : List V) (O : Oc) (b : Nat) (r : List V) (S : Sp) (M : Mc) : Prop where
  rl : Rl P u0 bl M S O.bs O.ops0
  shape : S.fs.map shp = O.sh
  frames : M.frames = O.fs
  old : ∀ i, i < O.fr0.length → M.fr[i]? = O.fr0[i]?
  frl : O.fr0.length ≤ M.fr.length
  well : M.well = O.well
  vn : O.vn ≤ S.vars.length
  top : M.top = O.place + (adj O.wanted r).length
  res : ∀ i v, (adj O.wanted r)[i]? = some v → M.stack[O.place + i]? = some v
  topl : M.top ≤ M.stack.length
  atoms : ∀ v ∈ r, Atom v
  few : r.length ≤ 3
  sz : Sz u0 M O.ops0 b
structure PoF (P : Bw) (u0 : Nat) (bl : List V) (O : Oc) (b : Nat) (S : Sp) (M : Mc) (bs' : Nat → Nat) (ops' : List (Nat × Nat)) (ext : List V) : Prop where
  rl : Rl P u0 bl M S bs' ops'
  shape : (S.fs.map shp).take O.D = O.sh
  bases : ∀ d, d < O.D → bs' d = O.bs d
  high : ∀ d f, O.D ≤ d → S.fs[d]? = some f → O.place ≤ bs' d
  low : lows O.place ops' = O.ops0
  frames : M.frames = O.fs ++ ext
  old : ∀ i, i < O.fr0.length → M.fr[i]? = O.fr0[i]?
  frl : O.fr0.length ≤ M.fr.length
  well : M.well = O.well
  vn : O.vn ≤ S.vars.length
  sz : Sz u0 M ops' b
noncomputable def PoR (P : Bw) (u0 : Nat) (bl : List V) (O : Oc) (b : Nat) : Option (List V) → Sp → Mc → Prop
  | some r, S, M => PoS P u0 bl O b r S M
  | Option.none, S, M => ∃ bs' ops' ext, PoF P u0 bl O b S M bs' ops' ext
noncomputable def WOk (w : Int) : Prop := w = -1 ∨ w = 0 ∨ w = 1 ∨ w = 2
noncomputable abbrev plsV (ps : List Plan) : V := .lst (ps.map encP)
structure PrR (P : Bw) (u0 : Nat) (bl : List V) (n : Nat) (args : List V) (func : Nat) (S : Sp) (M : Mc) (bs : Nat → Nat) (ops : List (Nat × Nat)) (place b : Nat) : Prop where
  rl : Rl P u0 bl M S bs ops
  at0 : M.stack[place]? = some (.int n)
  argv : ∀ i v, args[i]? = some v → M.stack[place + 1 + i]? = some v
  top : M.top = place + 1 + args.length
  topl : M.top ≤ M.stack.length
  atoms : ∀ v ∈ args, Atom v
  few : args.length ≤ 4
  seps : ∀ d f, S.fs[d]? = some f → bs d + f.regs.length ≤ place
  opl : ∀ q ∈ ops, q.2 < place
  shf : P.shift ≤ place
  fu : P.stands = true → place = P.shift + func
  sz : Sz u0 M ops b
noncomputable def ocOf (S : Sp) (M : Mc) (bs : Nat → Nat) (ops : List (Nat × Nat)) (place : Nat) (wanted : Int) : Oc := ⟨S.fs.map shp, M.frames, M.fr, ops, M.well, S.vars.length, place, wanted, bs⟩
noncomputable def RunOk (P : Bw) (u0 : Nat) (bl : List V) (ps : List Plan) (k : Nat) : Prop := ∀ (g n : Nat) (args : List V) (func : Nat) (S : Sp) (M : Mc) (bs : Nat → Nat) (ops : List (Nat × Nat)) (place : Nat) (wanted : Int) (b : Nat),
  2 * k + 10 ≤ g → n < k → n < ps.length → PrR P u0 bl n args func S M bs ops place b → WOk wanted → b + cost k ≤ 1000 →
  ∃ M', callD tab0 g (.fn 39) [wref P, plsV ps, .int place, .int wanted] (enc P M) = some (.bool (runS ps k n args func S).1.isSome, enc P M') ∧ PoR P u0 bl (ocOf S M bs ops place wanted) (b + cost k) (runS ps k n args func S).1 (runS ps k n args func S).2 M'
variable {O : Oc} {F : Fc}
theorem At.mono {b' : Nat} (A : At P u0 bl O F M S bs ops b) (h : b ≤ b') : At P u0 bl O F M S bs ops b' := { A with sz := A.sz.mono h }
theorem At.len (A : At P u0 bl O F M S bs ops b) : S.fs.length = O.D + 1 := by
  have := congrArg List.length A.shape
  simpa using this
theorem At.cur (A : At P u0 bl O F M S bs ops b) : ∃ f, S.fs[O.D]? = some f ∧ f.regs.length = F.size ∧ f.func = F.func ∧ f.base = F.fbase := by
  have e := congrArg (·[O.D]?) A.shape
  simp at e
  obtain ⟨f, hf, he⟩ := e
  simp [shp] at he
  exact ⟨f, hf, he⟩
theorem At.pm (A : At P u0 bl O F M S bs ops b) : O.place < M.top := A.top ▸ Nat.lt_of_lt_of_le A.plb (Nat.le_add_right _ _)
theorem At.opl (A : At P u0 bl O F M S bs ops b) : ∀ q ∈ ops, q.2 < M.top := fun q hq => (A.ins q hq).elim (fun h => Nat.lt_trans h A.pm) fun h => A.top.symm ▸ h.2
theorem At.sepT (A : At P u0 bl O F M S bs ops b) : ∀ d f, S.fs[d]? = some f → bs d + f.regs.length ≤ M.top := fun d f hf => by
  have hd := (List.getElem?_eq_some_iff.mp hf).1
  rw [A.len] at hd
  rcases Nat.lt_or_ge d O.D with q | q
  · exact Nat.le_trans (A.seps d f q hf) (Nat.le_of_lt A.pm)
  · obtain rfl := Nat.le_antisymm (Nat.le_of_lt_succ hd) q
    obtain ⟨f', hf', hs, _⟩ := A.cur
    cases hf.symm.trans hf'
    rw [A.top, hs]; exact Nat.le_refl _
theorem At.topl (A : At P u0 bl O F M S bs ops b) : M.top ≤ M.stack.length := by
  obtain ⟨f', hf', hs, _⟩ := A.cur
  have h2 := Nat.succ_le_of_lt (A.rl.inl (r := F.size - 1) hf' (by rw [hs]; exact Nat.sub_lt A.pos Nat.one_pos))
  rw [A.top]
  rwa [Nat.succ_eq_add_one, Nat.add_assoc, Nat.sub_add_cancel A.pos] at h2
theorem At.setR (A : At P u0 bl O F M S bs ops b) {d r : Nat} {f : SF} {v : V} (hf : S.fs[d]? = some f) (hr : r < f.regs.length) (ha : Atom v) : At P u0 bl O F { M with stack := M.stack.set (bs d + r) v } (S.setR d r v) bs ops b := by
  refine ⟨A.rl.setR hf hr ha, (setR_shape ..).trans A.shape, A.bases, A.frames, A.fr, A.old, A.jn, A.top, A.plb, A.shf, A.fu, A.ins, A.low, fun d' f' hd h' => ?_, A.well, A.vn, A.pos, ⟨?_, A.sz.top, A.sz.frames, A.sz.notes, A.sz.places, A.sz.made, A.sz.up, A.sz.ops⟩⟩
  · obtain ⟨f0, h0, _, e, _⟩ := setR_get h'
    rw [e]; exact A.seps d' f0 hd h0
  · simp only [List.length_set]; exact A.sz.stack
theorem At.note (A : At P u0 bl O F M S bs ops b) {news : V} (ha : PV 4 news) : At P u0 bl O F { M with notes := M.notes ++ [noteV P M (bs O.D) F.size news], places := M.places ++ [placeV P M O.place (bs O.D) (bs O.D + F.size) ops] } (S.note news) bs ops (b + 1) := by
  obtain ⟨f, hf, hs, hfu, _⟩ := A.cur
  have h := A.rl.note (func := O.place) A.len hf (by rw [hs]; exact A.top) (by rw [hfu]; exact A.fu) ha
  rw [hs] at h
  obtain ⟨h1, h2, h3, h4, h5, h6, h7, h8⟩ := A.sz
  refine ⟨h, A.shape, A.bases, A.frames, A.fr, A.old, A.jn, A.top, A.plb, A.shf, A.fu, A.ins, A.low, A.seps, A.well, A.vn, A.pos, ⟨Nat.le_trans h1 (Nat.le_add_right _ 40), Nat.le_trans h2 (Nat.le_add_right _ 40), Nat.le_succ_of_le h3, (List.length_append ..).symm ▸ Nat.succ_le_succ h4, (List.length_append ..).symm ▸ Nat.succ_le_succ h5, Nat.le_succ_of_le h6, Nat.le_trans h7 (Nat.add_le_add_left (Nat.le_add_right _ 2) _), Nat.le_trans h8 (Nat.le_add_right _ 2)⟩⟩
theorem pv_undef {k : Nat} {v : V} (h : PV k v) : v ≠ .undef := by
  rintro rfl
  exact nomatch (show false = true from (Nat.add_comm 1 k ▸ h 1 : eqP (k + 1) .undef .undef = true))
theorem At.ev_note (A : At P u0 bl O F M S bs ops b) {news : V} (ha : PV 4 news) (hb : b ≤ 1000) (g : Nat) :
    callD tab0 (g + 2) (.fn 36) [wref P, fref F.j, .int F.size, news] (enc P M) = some (.none, enc P { M with notes := M.notes ++ [noteV P M (bs O.D) F.size news], places := M.places ++ [placeV P M O.place (bs O.D) (bs O.D + F.size) ops] }) := by
  have h1 := A.topl
  have h2 := A.top
  exact ok_note P M g F.j O.place (bs O.D) (bs O.D + F.size) F.size O.wanted F.tails news ops A.fr (pv_undef ha) (by lia) A.rl.knownOk A.rl.opo (by have := A.sz.notes; lia) (by have := A.sz.places; lia)
theorem pushL_len (l : List V) (t : Nat) (vs : List V) (h : t ≤ l.length) : (pushL l t vs).length = max l.length (t + vs.length) := by
  have hL : (l ++ List.replicate (t + vs.length - l.length) (V.int 99)).length = max l.length (t + vs.length) := by rw [List.length_append, List.length_replicate, Nat.add_comm, Nat.sub_add_eq_max, Nat.max_comm]
  unfold pushL
  rw [List.length_append, List.length_append, List.length_take, List.length_drop, hL, Nat.min_eq_left (Nat.le_trans h (Nat.le_max_left _ _)), Nat.add_sub_of_le (Nat.le_max_right _ _)]
theorem pushL_low (l : List V) (t : Nat) (vs : List V) (h : t ≤ l.length) (k : Nat) (hk : k < t) : (pushL l t vs)[k]? = l[k]? := by
  have hl := Nat.lt_of_lt_of_le hk h
  unfold pushL
  rw [List.append_assoc, List.getElem?_append_left (by rw [List.length_take, List.length_append]; exact Nat.lt_min.mpr ⟨hk, Nat.lt_of_lt_of_le hl (Nat.le_add_right _ _)⟩), List.getElem?_take, if_pos hk, List.getElem?_append_left hl]
theorem pushL_at (l : List V) (t : Nat) (vs : List V) (h : t ≤ l.length) (i : Nat) (v : V) (hi : vs[i]? = some v) : (pushL l t vs)[t + i]? = some v := by
  have hl := (List.getElem?_eq_some_iff.mp hi).1
  unfold pushL
  have h1 : ((l ++ List.replicate (t + vs.length - l.length) (V.int 99)).take t).length = t := List.length_take_of_le (by rw [List.length_append]; exact Nat.le_trans h (Nat.le_add_right _ _))
  rw [List.append_assoc, List.getElem?_append_right (by rw [h1]; exact Nat.le_add_right _ _), h1, Nat.add_sub_cancel_left, List.getElem?_append_left hl]
  exact hi
theorem drop_take_of {l r : List V} {p : Nat} (h : ∀ i v, r[i]? = some v → l[p + i]? = some v) : (l.drop p).take r.length = r := by
  apply List.ext_getElem?
  intro i
  by_cases hi : i < r.length
  · rw [List.getElem?_take, if_pos hi, List.getElem?_drop, List.getElem?_eq_getElem hi]
    exact h i _ (List.getElem?_eq_getElem hi)
  · rw [List.getElem?_take, if_neg hi, List.getElem?_eq_none_iff.mpr (Nat.le_of_not_lt hi)]
theorem At.row (A : At P u0 bl O F M S bs ops b) {row : List Nat} (hr : ∀ r ∈ row, r < F.size) : (row.map fun r => (M.stack[bs O.D + r]?).getD .none) = S.row row := by
  unfold Sp.row
  apply List.map_congr_left
  intro r h
  obtain ⟨f, hf, hs, _⟩ := A.cur
  rw [A.len, show O.D + 1 - 1 = O.D by lia]
  have := A.rl.regs _ f r _ hf (List.getElem?_eq_getElem (by rw [hs]; exact hr r h))
  rw [this]
  simp [Sp.reg, hf, List.getElem?_eq_getElem (show r < f.regs.length by rw [hs]; exact hr r h)]
theorem row_atoms (h : S.Ok) (row : List Nat) : ∀ v ∈ S.row row, Atom v := fun v hv => by
  obtain ⟨r, _, rfl⟩ := List.mem_map.mp hv
  exact Sp.reg_atom h _ _
theorem adj_atoms {w : Int} {r : List V} (h : ∀ v ∈ r, Atom v) : ∀ v ∈ adj w r, Atom v := fun v hv => by
  unfold adj at hv
  split at hv
  · exact h v hv
  · have := List.mem_of_mem_take hv
    rcases List.mem_append.mp this with q | q
    · exact h v q
    · rw [(List.mem_replicate.mp q).2]; trivial
theorem adj_len {w : Int} {r : List V} : (adj w r).length = if w < 0 then r.length else w.toNat := by
  unfold adj
  split
  · rfl
  · simp
end Mine
end
section
set_option maxRecDepth 100000
namespace Mine
variable {P : Bw} {u0 : Nat} {bl : List V} {M : Mc} {S : Sp} {bs : Nat → Nat} {ops : List (Nat × Nat)} {b : Nat} {O : Oc} {F : Fc}
theorem At.renew (A : At P u0 bl O F M S bs ops b) {M' : Mc} {S' : Sp} {ops' : List (Nat × Nat)} {b' : Nat} (R : Rl P u0 bl M' S' bs ops') (hs : S'.fs.map shp = S.fs.map shp) (h1 : M'.frames = M.frames) (h2 : M'.fr[F.j]? = M.fr[F.j]?) (h2' : ∀ i, i < O.fr0.length → M'.fr[i]? = M.fr[i]?) (h3 : M'.top = M.top) (h4 : M'.well = M.well)
    (hi : InFrame O.place (bs O.D) F.size ops') (hl : lows O.place ops' = lows O.place ops) (hv : S.vars.length ≤ S'.vars.length) (hz : Sz u0 M' ops' b') : At P u0 bl O F M' S' bs ops' b' := by
  refine ⟨R, hs.trans A.shape, A.bases, h1.trans A.frames, h2.trans A.fr, fun i h => (h2' i h).trans (A.old i h), A.jn, h3.trans A.top, A.plb, A.shf, A.fu, hi, hl.trans A.low, fun d f hd hf => ?_, h4.trans A.well, Nat.le_trans A.vn hv, A.pos, hz⟩
  obtain ⟨f0, h0, e⟩ := shp_get (S := S) (S' := S') (n := O.D) (by rw [hs]) hd hf
  have e1 : f0.regs.length = f.regs.length := congrArg Prod.fst e
  exact e1 ▸ A.seps d f0 hd h0
theorem pv_raised : PV 1 (.str "raised") := fun n => by
  show (V.str? (.str "raised") == some "raised" && PySem.PyData.strOk "raised") = true
  decide +kernel
noncomputable abbrev keptV (u0 : Nat) (kept : List Nat) : V := .lst ((kept.map (u0 + ·)).map uref)
theorem kn_at (A : At P u0 bl O F M S bs ops b) {x : Nat} (hx : x < S.vars.length) : M.known[x]? = some (uref (u0 + x)) := by
  rw [A.rl.known, A.rl.upl, kn_range, List.getElem?_map, List.getElem?_range hx]; rfl
theorem kn_length (A : At P u0 bl O F M S bs ops b) : M.known.length = S.vars.length := by
  rw [A.rl.known, A.rl.upl, kn_len, Nat.add_sub_cancel_left]
theorem deed_put_ok (A : At P u0 bl O F M S bs ops b) (run : RunS) (g : Nat) (pls kv : V) (kept : List Nat) (k v : Nat) :
    ∃ M', callD tab0 (g + 2) (.fn 38) [wref P, pls, encD (.put k v), kv, fref F.j, .int F.size] (enc P M) = some ((S.deed run kept (.put k v)).1, enc P M') ∧ At P u0 bl O F M' (S.deed run kept (.put k v)).2 bs ops b ∧
      S.vars.length ≤ (S.deed run kept (.put k v)).2.vars.length := by
  have hkl := kn_length A
  unfold Sp.deed
  by_cases h0 : S.vars.length = 0
  · simp only [h0, if_true]
    exact ⟨M, ok_deed_put0 P M (g + 1) F.j F.size pls kv k v (List.length_eq_zero_iff.mp (by lia)), A, by lia⟩
  · simp only [if_neg h0]
    have hx : k % S.vars.length < S.vars.length := Nat.mod_lt _ (by lia)
    have hk := kn_at A hx
    rw [← hkl] at hk
    obtain ⟨vs, hu⟩ := A.rl.ups (u0 + k % M.known.length) (by lia) (by rw [A.rl.upl, hkl]; lia)
    rw [← hkl] at hx ⊢
    have put := fun M' => ok_deed_put P M M' (g + 1) F.j F.size (u0 + k % M.known.length) pls kv k v vs hk hu
    generalize k % M.known.length = x at *
    rw [hkl] at hx
    unfold Sp.put
    cases hv : S.vars[x]? with
    | none => have := List.getElem?_eq_none_iff.mp hv; lia
    | some w =>
      skip
      cases w with
      | op d r =>
        obtain ⟨⟨f, hf, hr⟩, hm⟩ := A.rl.opv x d r hv
        refine ⟨_, put _ (ok_set_o P M g (u0 + x) (bs d + r) (.int v) (by simp) (A.rl.opo.up _ hm) (A.rl.inl hf hr)), A.setR hf hr trivial, by show M.known.length ≤ S.vars.length; lia⟩
      | sh w =>
        rcases A.rl.shv x w hv with hc | ⟨hs, p, hp, hpv, hps, hpo⟩
        · refine ⟨_, put _ (ok_set_c P M g (u0 + x) (.int v) w (by simp) hc), A.renew (A.rl.put_shut hv trivial hc) rfl rfl rfl (fun _ _ => rfl) rfl rfl A.ins rfl (by simp) ⟨A.sz.stack, A.sz.top, A.sz.frames, A.sz.notes, A.sz.places, A.sz.made, by simp only [List.length_set]; exact A.sz.up, A.sz.ops⟩, by show M.known.length ≤ (S.vars.set x _).length; rw [List.length_set]; lia⟩
        · refine ⟨_, put _ (ok_set_o P M g (u0 + x) p (.int v) (by simp) (A.rl.opo.up _ hp) (List.getElem?_eq_some_iff.mp hpv).1), A.renew (A.rl.put_dead hv trivial hs hp hpv hps hpo) rfl rfl rfl (fun _ _ => rfl) rfl rfl A.ins rfl (by simp) ⟨by simp only [List.length_set]; exact A.sz.stack, A.sz.top, A.sz.frames, A.sz.notes, A.sz.places, A.sz.made, A.sz.up, A.sz.ops⟩, by show M.known.length ≤ (S.vars.set x _).length; rw [List.length_set]; lia⟩
theorem deed_set_ok (A : At P u0 bl O F M S bs ops b) (run : RunS) (g : Nat) (pls kv : V) (kept : List Nat) (r v : Nat) (hr : r < F.size) :
    ∃ M', callD tab0 (g + 1) (.fn 38) [wref P, pls, encD (.set r v), kv, fref F.j, .int F.size] (enc P M) = some ((S.deed run kept (.set r v)).1, enc P M') ∧ At P u0 bl O F M' (S.deed run kept (.set r v)).2 bs ops b := by
  obtain ⟨f, hf, hs, _⟩ := A.cur
  have hr' : r < f.regs.length := hs.symm ▸ hr
  refine ⟨_, ok_deed_set P M g F.j O.place (bs O.D) _ F.size _ _ pls kv r v A.fr (A.rl.inl hf hr'), ?_⟩
  show At P u0 bl O F _ (S.setR (S.fs.length - 1) r (.int v)) bs ops b
  rw [A.len, Nat.add_sub_cancel]
  exact A.setR hf hr' trivial
theorem deed_make_ok (A : At P u0 bl O F M S bs ops b) (run : RunS) (g : Nat) (pls : V) (kept : List Nat) (ws : List (Nat × Nat)) (hk : ∀ x ∈ kept, x < S.vars.length) (hw : ws.length ≤ 2) (hw4 : ∀ w ∈ ws, w.2 < 4) (hb : b ≤ 1000) (hu0 : u0 ≤ 5000) :
    ∃ M' ops', callD tab0 (g + 8) (.fn 38) [wref P, pls, encD (.make ws), keptV u0 kept, fref F.j, .int F.size] (enc P M) = some ((S.deed run kept (.make ws)).1, enc P M') ∧ At P u0 bl O F M' (S.deed run kept (.make ws)).2 bs ops' (b + 1) ∧
      PV 4 (S.deed run kept (.make ws)).1 ∧ S.vars.length ≤ (S.deed run kept (.make ws)).2.vars.length := by
  obtain ⟨f, hf, hs, _⟩ := A.cur
  obtain ⟨z1, z2, z3, z4, z5, z6, z7, z8⟩ := A.sz
  have hpos := A.pos
  have hplb := A.plb
  have hup := A.rl.upl
  have hpl := picks_len P (kept.map (u0 + ·)) (bs O.D) (ws.map (lay (kept.map (u0 + ·)) F.size)) (ops, M.up)
  obtain ⟨t, ht⟩ := ok_made P M g F.j O.place (bs O.D) _ F.size u0 O.wanted F.tails (kept.map (u0 + ·)) ws ops A.fr A.rl.opo A.rl.known (hup.symm ▸ Nat.le_add_right _ _) A.rl.ups (fun i hi => by
    obtain ⟨x, hx, rfl⟩ := List.mem_map.mp hi
    exact ⟨Nat.le_add_right _ _, hup.symm ▸ Nat.add_lt_add_left (hk x hx) _⟩) A.rl.opi (Nat.ne_of_gt hpos) hw4 (Nat.le_trans hw (by decide)) (Nat.le_trans z7 (Nat.le_trans (Nat.add_le_add hu0 (Nat.mul_le_mul_left 2 hb)) (by decide))) (Nat.le_trans z8 (Nat.le_trans (Nat.mul_le_mul_left 2 hb) (by decide))) (Nat.le_trans z6 (Nat.le_trans hb (by decide))) _ rfl
  obtain ⟨g1, g2, g3, g4, g5, g6⟩ := A.rl.makeAll (place := O.place) A.len hf hk (by lia) (by lia) (by rw [hs]; exact A.ins) (by lia) hw _ rfl t
  rw [hs] at g1 g2 g4 g5
  generalize Mine.picks P (kept.map (u0 + ·)) (bs O.D) (ws.map (lay (kept.map (u0 + ·)) F.size)) (ops, M.up) = pk at *
  refine ⟨_, pk.2.1, ok_deed_make P M _ (g + 7) F.j F.size pls (keptV u0 kept) _ ws (by simp) (ht.trans (by rw [g2]; rfl)), A.renew g1 (by show ((S.make kept ws).2.fs).map shp = _; rw [g3.fs]) rfl rfl (fun _ _ => rfl) rfl rfl g4 g5 g3.vars ⟨Nat.le_trans z1 (Nat.le_add_right _ 40), Nat.le_trans z2 (Nat.le_add_right _ 40), Nat.le_succ_of_le z3, Nat.le_succ_of_le z4, Nat.le_succ_of_le z5, (List.length_append ..).symm ▸ Nat.succ_le_succ z6, ?_, ?_⟩, g6, g3.vars⟩
  · simp only [List.length_map] at hpl ⊢; lia
  · simp only [List.length_map] at hpl ⊢; lia
noncomputable def Mc.pushM (M : Mc) (vals : List V) : Mc := { M with stack := pushL M.stack M.top vals, top := M.top + vals.length }
theorem Sz.push (h : Sz u0 M ops b) {vals : List V} (hl : vals.length ≤ 4) (htl : M.top ≤ M.stack.length) : Sz u0 (M.pushM vals) ops (b + 1) :=
  have h2 : M.top + vals.length ≤ 40 * (b + 1) := Nat.add_le_add h.top (Nat.le_trans hl (by decide))
  ⟨(pushL_len M.stack M.top vals htl).symm ▸ Nat.max_le.mpr ⟨Nat.le_trans h.stack (Nat.le_add_right _ 40), h2⟩, h2, Nat.le_succ_of_le h.frames, Nat.le_succ_of_le h.notes, Nat.le_succ_of_le h.places, Nat.le_succ_of_le h.made, Nat.le_trans h.up (Nat.add_le_add_left (Nat.le_add_right _ 2) _), Nat.le_trans h.ops (Nat.le_add_right _ 2)⟩
theorem Sz.shut (h : Sz u0 M ops b) {place : Nat} {ops0 : List (Nat × Nat)} (low : lows place ops = ops0) {t : List MObj} {o : List V} {U : List (Nat × Nat)} {st : List V} : Sz u0 { M with tmp := t, opens := o, up := closeUp st U M.up } ops0 b :=
  ⟨h.stack, h.top, h.frames, h.notes, h.places, h.made, (closeUp_len ..).symm ▸ h.up, by rw [← low]; exact Nat.le_trans (List.length_filter_le _ _) h.ops⟩
theorem At.fsl (A : At P u0 bl O F M S bs ops b) : O.fs.length + 1 ≤ b := by
  have := A.sz.frames
  rwa [A.frames, List.length_append] at this
theorem At.frl (A : At P u0 bl O F M S bs ops b) : F.j < M.fr.length := (List.getElem?_eq_some_iff.mp A.fr).1
theorem At.inl (A : At P u0 bl O F M S bs ops b) {row : List Nat} (hr : ∀ r ∈ row, r < F.size) : ∀ r ∈ row, bs O.D + r < M.stack.length := fun r h => by
  obtain ⟨f, hf, hfs, _⟩ := A.cur
  exact A.rl.inl hf (hfs ▸ hr r h)
theorem row_len {row : List Nat} (h : row.length ≤ 3) : (S.row row).length ≤ 3 := by unfold Sp.row; rw [List.length_map]; exact h
theorem big_of {n b : Nat} (h : n ≤ 40 * b) (hb : b ≤ 1000) : n ≤ 40000 := Nat.le_trans h (Nat.mul_le_mul_left 40 hb)
theorem At.pre (A : At P u0 bl O F M S bs ops b) {n : Nat} {vals : List V} (hat : ∀ v ∈ vals, Atom v) (hl : vals.length ≤ 3) :
    PrR P u0 bl n vals (S.cur.base + S.cur.regs.length) S { M with stack := pushL M.stack M.top (.int n :: vals), top := M.top + (V.int n :: vals).length } bs ops M.top (b + 1) := by
  obtain ⟨f, hf, hs, _⟩ := A.cur
  have htl := A.topl
  have hsh := Nat.le_trans A.shf (Nat.le_of_lt A.pm)
  refine ⟨(A.rl.above (lim := M.top) A.sepT A.opl hsh fun k hk => pushL_low _ _ _ htl k hk).re rfl rfl rfl rfl rfl rfl rfl rfl, pushL_at M.stack M.top (.int n :: vals) htl 0 _ rfl, fun i v hi => by rw [Nat.add_assoc, Nat.add_comm 1]; exact pushL_at M.stack M.top (.int n :: vals) htl (i + 1) v hi,
    by rw [List.length_cons, Nat.add_assoc, Nat.add_comm 1], by rw [pushL_len _ _ _ htl]; exact Nat.le_max_right _ _, hat, Nat.le_succ_of_le hl, A.sepT, A.opl, hsh, fun hst => ?_, A.sz.push (Nat.succ_le_succ hl) htl⟩
  rw [cur_of A.len hf, A.top, A.rl.basesT hst _ f hf, hs, Nat.add_assoc]
theorem At.called {vals r : List V} {w : Int} {S' : Sp} {M2 : Mc} {b' : Nat} (A : At P u0 bl O F M S bs ops b) (h : PoS P u0 bl (ocOf S (M.pushM vals) bs ops M.top w) b' r S' M2) (hle : b ≤ b') :
    At P u0 bl O F { M2 with stack := M2.stack.set (bs O.D) (((adj w r).head?).getD .none), top := bs O.D + F.size } (S'.setR O.D 0 (((adj w r).head?).getD .none)) bs ops b' ∧ bs O.D < M2.stack.length := by
  obtain ⟨f, hf, hs, _⟩ := A.cur
  have q2 : S'.fs.map shp = S.fs.map shp := h.shape
  have hl : S'.fs.length = O.D + 1 := by have := congrArg List.length q2; rwa [List.length_map, List.length_map, A.len] at this
  have hd : O.D < S'.fs.length := hl ▸ Nat.lt_succ_self _
  have hf' := List.getElem?_eq_getElem hd
  obtain ⟨f0, h0, e⟩ := shp_get (S := S) (S' := S') (n := O.D + 1) (by rw [q2]) (Nat.lt_succ_self _) hf'
  cases hf.symm.trans h0
  have hsf : 0 < (S'.fs[O.D]'hd).regs.length := by
    have e1 : f.regs.length = (S'.fs[O.D]'hd).regs.length := congrArg Prod.fst e
    rw [← e1, hs]; exact A.pos
  have ha : Atom (((adj w r).head?).getD .none) := by
    cases hh : (adj w r).head? with
    | none => trivial
    | some v => exact adj_atoms h.atoms v (List.mem_of_mem_head? hh)
  have q1 : Rl P u0 bl M2 S' bs ops := h.rl
  exact ⟨A.renew ((q1.setR (r := 0) hf' hsf ha).re rfl rfl rfl rfl rfl rfl rfl rfl) ((setR_shape ..).trans q2) h.frames (h.old _ A.frl) (fun i q => h.old i (Nat.lt_of_lt_of_le q (Nat.le_trans A.jn (Nat.le_of_lt A.frl)))) A.top.symm h.well A.ins rfl h.vn
    ⟨(List.length_set ..).symm ▸ h.sz.stack, A.top ▸ Nat.le_trans A.sz.top (Nat.mul_le_mul_left 40 hle), h.sz.frames, h.sz.notes, h.sz.places, h.sz.made, h.sz.up, h.sz.ops⟩, q1.inl hf' hsf⟩
theorem At.uncalled {vals : List V} {w : Int} {S' : Sp} {M2 : Mc} {b' : Nat} {bs' : Nat → Nat} {ops' : List (Nat × Nat)} {ext : List V} (A : At P u0 bl O F M S bs ops b) (h : PoF P u0 bl (ocOf S (M.pushM vals) bs ops M.top w) b' S' M2 bs' ops' ext) (hle : b ≤ b')
    (hfu : P.stands = true → M.top = P.shift + (S.cur.base + S.cur.regs.length)) :
    At P u0 bl O F { M2 with frames := M.frames, tmp := M2.tmp ++ [.gone], opens := ops.map fun q => uref q.1, up := closeUp M2.stack (ops'.take (high ops' M.top)) M2.up, top := bs O.D + F.size }
      { S'.close S.fs.length (S.cur.base + S.cur.regs.length) with fs := S'.fs.take S.fs.length } bs ops b' := by
  have hD : (ocOf S (M.pushM vals) bs ops M.top w).D = S.fs.length := List.length_map ..
  have q2 : (S'.fs.map shp).take S.fs.length = S.fs.map shp := hD ▸ h.shape
  have q3 : ∀ d, d < S.fs.length → bs' d = bs d := fun d hd => h.bases d (hD.symm ▸ hd)
  have R2 := h.rl.shut (level := M.top) (d0 := S.fs.length) (lv := S.cur.base + S.cur.regs.length) (fun d f' hf' => ⟨fun hd => by
    obtain ⟨f0, h0, e⟩ := shp_get (S := S) (S' := S') (n := S.fs.length) (by rw [q2, List.take_of_length_le (Nat.le_of_eq (List.length_map ..))]) hd hf'
    have e1 : f0.regs.length = f'.regs.length := congrArg Prod.fst e
    rw [q3 d hd]
    exact e1 ▸ A.sepT d f0 h0, fun hd => h.high d f' (hD.symm ▸ hd) hf'⟩) hfu (M2.tmp ++ [.gone])
  have R3 := (R2.down (n := S.fs.length) fun x d r hx => close_noop hx).bases (bs' := bs) fun d hd => (q3 d (Nat.lt_of_lt_of_le hd (List.length_take_le ..))).symm
  rw [show lows M.top ops' = ops from h.low] at R3
  exact A.renew (R3.re rfl rfl rfl rfl rfl rfl rfl rfl) ((List.map_take ..).trans q2) rfl (h.old _ A.frl) (fun i q => h.old i (Nat.lt_of_lt_of_le q (Nat.le_trans A.jn (Nat.le_of_lt A.frl)))) A.top.symm h.well A.ins rfl ((List.length_map ..).symm ▸ h.vn)
    ⟨h.sz.stack, A.top ▸ Nat.le_trans A.sz.top (Nat.mul_le_mul_left 40 hle), Nat.le_trans A.sz.frames hle, h.sz.notes, h.sz.places, h.sz.made, (closeUp_len ..).symm ▸ h.sz.up, Nat.le_trans A.sz.ops (Nat.mul_le_mul_left 2 hle)⟩
theorem adj_few {w : Int} {r : List V} (hw : WOk w) (hr : r.length ≤ 3) : (adj w r).length ≤ 3 := by
  rw [adj_len]
  rcases hw with rfl | rfl | rfl | rfl
  · exact hr
  · show 0 ≤ 3; decide
  · show 1 ≤ 3; decide
  · show 2 ≤ 3; decide
theorem deed_call_ok (A : At P u0 bl O F M S bs ops b) {ps : List Plan} {k n : Nat} (RO : RunOk P u0 bl ps k) (g : Nat) (hg : 2 * k + 10 ≤ g) (kv : V) (kept : List Nat) (row : List Nat) (w : Int) (hn : n < k) (hnl : n < ps.length) (hrow : RowOk F.size row) (hw : WOk w) (hb : b + 1 + cost k ≤ 1000) :
    ∃ M', callD tab0 (g + 1) (.fn 38) [wref P, plsV ps, encD (.call n row w), kv, fref F.j, .int F.size] (enc P M) = some ((S.deed (runS ps k) kept (.call n row w)).1, enc P M') ∧ At P u0 bl O F M' (S.deed (runS ps k) kept (.call n row w)).2 bs ops (b + 1 + cost k) ∧
      PV 4 (S.deed (runS ps k) kept (.call n row w)).1 ∧ S.vars.length ≤ (S.deed (runS ps k) kept (.call n row w)).2.vars.length := by
  have hvals := A.row hrow.2
  have Pq := A.pre (n := n) (row_atoms A.rl.sok row) (row_len hrow.1)
  have hb1 : b + 1 ≤ 1000 := Nat.le_trans (Nat.le_add_right _ _) hb
  have hle : b ≤ b + 1 + cost k := Nat.le_trans (Nat.le_succ b) (Nat.le_add_right _ _)
  obtain ⟨M2, hrun, hpost⟩ := RO g n (S.row row) (S.cur.base + S.cur.regs.length) S _ bs ops M.top w (b + 1) hg hn hnl Pq hw hb
  obtain ⟨g, rfl⟩ : ∃ g', g = g' + 2 := ⟨g - 2, (Nat.sub_add_cancel (Nat.le_trans (Nat.le_trans (by decide) (Nat.le_add_left 10 _)) hg)).symm⟩
  have hp := ok_push P M (g + 1) (.int n :: S.row row) (Nat.le_trans (big_of Pq.sz.top hb1) (by decide)) (Nat.le_trans (big_of A.sz.stack (Nat.le_of_succ_le hb1)) (by decide))
  have hcall := fun b R => deed_call P M (M.pushM (.int n :: S.row row)) (enc P M2) (g + 2) F.j O.place (bs O.D) (bs O.D + F.size) F.size O.wanted F.tails (plsV ps) kv n row w b R A.fr (A.inl hrow.2) hrow.1 nofun (by rw [hvals]; exact hp)
  unfold Sp.deed
  simp only
  generalize runS ps k n (S.row row) (S.cur.base + S.cur.regs.length) S = rs at *
  obtain ⟨res, S'⟩ := rs
  cases res with
  | some r =>
    have h : PoS P u0 bl (ocOf S (M.pushM (.int n :: S.row row)) bs ops M.top w) (b + 1 + cost k) r S' M2 := hpost
    obtain ⟨A2, hbl⟩ := A.called h hle
    refine ⟨_, hcall true _ hrun (fun _ => deed_done P M2 (g + 1) F.j O.place (bs O.D) (bs O.D + F.size) F.size M.frames.length M.top O.wanted F.tails w (plsV ps) kv n row O.fs (adj w r) ((h.old _ A.frl).trans A.fr) (h.frames.trans A.frames) h.top h.topl (drop_take_of h.res) (by rcases hw with h | h | h | h <;> rw [h] <;> decide) hbl (Nat.le_trans (adj_few hw h.few) (by decide))) (fun h => (nomatch h)), by rw [A.len]; exact A2, PV.lst (k := 3) fun v hv => ?_, h.vn⟩
    rcases List.mem_cons.mp hv with rfl | hv
    · exact (PV.lst (k := 1) fun u hu => (adj_atoms h.atoms u hu).pv).up
    · rw [List.mem_singleton.mp hv]; exact (PV.bool _).le (by decide)
  | none =>
    obtain ⟨bs', ops', ext, h⟩ := (hpost : ∃ bs' ops' ext, PoF P u0 bl (ocOf S (M.pushM (.int n :: S.row row)) bs ops M.top w) (b + 1 + cost k) S' M2 bs' ops' ext)
    have q6 : M2.frames = M.frames ++ ext := h.frames
    obtain ⟨m', hfail⟩ := deed_fail P M2 g F.j O.place (bs O.D) (bs O.D + F.size) F.size M.frames.length M.top O.wanted F.tails (plsV ps) (encD (.call n row w)) kv ops' ((h.old _ A.frl).trans A.fr) (Nat.le_trans h.sz.frames (Nat.le_trans hb (by decide))) (by rw [q6, List.length_append]; exact Nat.le_add_right _ _) h.rl.opo (fun q hq => h.rl.opl hq)
    rw [q6, List.take_left' rfl, drop_high _ h.rl.desc, show lows M.top ops' = ops from h.low] at hfail
    refine ⟨_, hcall false _ hrun (fun h => (nomatch h)) (fun _ => ⟨_, _, _, hfail, rfl⟩), A.uncalled h hle Pq.fu, (PV.lst (k := 1) fun v hv => ?_).le (by decide), (List.length_map ..).symm ▸ h.vn⟩
    rcases List.mem_cons.mp hv with rfl | hv
    · exact pv_raised
    · rw [List.mem_singleton.mp hv]; exact PV.bool _
end Mine
end
section
set_option maxRecDepth 100000
namespace Mine
variable {P : Bw} {u0 : Nat} {bl : List V} {M : Mc} {S : Sp} {bs : Nat → Nat} {ops : List (Nat × Nat)} {b : Nat} {O : Oc} {F : Fc}
theorem adj_low {w : Int} {r : List V} {i : Nat} {v : V} (hi : (adj w r)[i]? = some v) (h : i < r.length) : r[i]? = some v := by
  unfold adj at hi
  by_cases q : w < 0
  · rwa [if_pos q] at hi
  · rw [if_neg q, List.getElem?_take] at hi
    by_cases q2 : i < w.toNat
    · rwa [if_pos q2, List.getElem?_append_left h] at hi
    · rw [if_neg q2] at hi; exact ns hi
theorem adj_high {w : Int} {r : List V} {i : Nat} {v : V} (hi : (adj w r)[i]? = some v) (h : ¬ i < howMany w r.length) : v = .none := by
  unfold adj at hi
  by_cases q : w < 0
  · rw [howMany_all q] at h
    rw [if_pos q] at hi
    exact absurd (List.getElem?_eq_some_iff.mp hi).1 h
  · rw [howMany_min q] at h
    rw [if_neg q, List.getElem?_take] at hi
    by_cases q2 : i < w.toNat
    · have h3 : r.length ≤ i := Nat.le_of_not_lt fun h4 => h (Nat.lt_min.mpr ⟨q2, h4⟩)
      rw [if_pos q2, List.getElem?_append_right h3, List.getElem?_replicate] at hi
      by_cases q3 : i - r.length < w.toNat
      · rw [if_pos q3] at hi; exact (Option.some.inj hi).symm
      · rw [if_neg q3] at hi; exact ns hi
    · rw [if_neg q2] at hi; exact ns hi
theorem settled_spec (l r : List V) (goal first : Nat) (w : Int) (hw : WOk w) (hg : goal ≤ first) (hl : first + r.length ≤ l.length) (hr : ∀ i v, r[i]? = some v → l[first + i]? = some v) :
    (∀ k, k < goal → (settledL l goal first r.length w)[k]? = l[k]?) ∧ (∀ i v, (adj w r)[i]? = some v → (settledL l goal first r.length w)[goal + i]? = some v) ∧ endAt w goal r.length = goal + (adj w r).length ∧
    endAt w goal r.length ≤ (settledL l goal first r.length w).length ∧ (settledL l goal first r.length w).length ≤ max l.length (endAt w goal r.length) := by
  have hlen : (settledL l goal first r.length w).length = max l.length (endAt w goal r.length) := by unfold settledL; rw [fillL_len, growL_len, mvL_len]
  have hend : endAt w goal r.length = goal + (adj w r).length := by
    unfold endAt; rw [adj_len]
    by_cases q : w < 0
    · rw [if_pos q, if_pos q]
    · rw [if_neg q, if_neg q]
  have hm := howMany_le w r.length
  have hfl : goal ≤ l.length := Nat.le_trans hg (Nat.le_trans (Nat.le_add_right _ _) hl)
  refine ⟨fun k hk => ?_, fun i v hi => ?_, hend, by rw [hlen]; exact Nat.le_max_right _ _, Nat.le_of_eq hlen⟩
  · unfold settledL
    rw [fill_out fun h => Nat.not_lt.mpr (Nat.le_trans (Nat.le_add_right _ _) h.1) hk, grow_get (by rw [mvL_len]; exact Nat.lt_of_lt_of_le hk hfl), mvL_low _ _ _ _ _ hk]
  · have hil := (List.getElem?_eq_some_iff.mp hi).1
    unfold settledL
    by_cases h1 : i < howMany w r.length
    · have h2 := Nat.le_trans (Nat.add_le_add_left hm first) hl
      rw [fill_out fun h => Nat.not_lt.mpr h.1 (Nat.add_lt_add_left h1 goal), grow_get (by rw [mvL_len]; exact Nat.lt_of_lt_of_le (Nat.lt_of_le_of_lt (Nat.add_le_add_right hg i) (Nat.add_lt_add_left h1 first)) h2), mvL_in _ _ _ _ _ hg h1 h2]
      exact hr i v (adj_low hi (Nat.lt_of_lt_of_le h1 hm))
    · rw [adj_high hi h1]
      have h3 : goal + i < endAt w goal r.length := by rw [hend]; exact Nat.add_lt_add_left hil _
      exact fill_in (Nat.lt_of_lt_of_le h3 grow_ge) (Nat.add_le_add_left (Nat.le_of_not_lt h1) _) h3
noncomputable def runB : List MS := match f39.body with | [_, .whil _ b] => b | _ => []
theorem f39_body : f39.body = [.expr (.call (.glob "_law_enter" (.fn 35)) [.loc 0, .loc 1, .loc 2, .loc 3]), .whil (.con (.bool true)) runB] := rfl
noncomputable abbrev runM (P : Bw) (ps : List Plan) (v2 v3 : V) (j : Nat) (kv vp vo : V) (size : Nat) (vd vl a b c d : V) : List V := [wref P, plsV ps, v2, v3, fref j, sref P, kv, vp, vo, .int size, vd, vl, a, b, c, d]
theorem exs_ite_ret {cl : CallF} {t : ME} {a b r : List MS} {m m' : List V} {σ σ₁ σ' : St} {c : Bool} {v : V} (ht : evT cl t m σ = some (c, σ₁)) (h : exs cl (if c then a else b) m σ₁ = some (.ret v, m', σ')) : exs cl (.ite t a b :: r) m σ = some (.ret v, m', σ') := by
  cases c
  · exact bind_eq (x_if0 ht h) rfl
  · exact bind_eq (x_if1 ht h) rfl
theorem exs_ite_cont {cl : CallF} {t : ME} {a b r : List MS} {m m' : List V} {σ σ₁ σ' : St} {c : Bool} (ht : evT cl t m σ = some (c, σ₁)) (h : exs cl (if c then a else b) m σ₁ = some (.cont, m', σ')) : exs cl (.ite t a b :: r) m σ = some (.cont, m', σ') := by
  cases c
  · exact bind_eq (x_if0 ht h) rfl
  · exact bind_eq (x_if1 ht h) rfl
theorem exs_skip {cl : CallF} {t : ME} {a r : List MS} {m : List V} {σ σ₁ : St} {R : Option (Fl × List V × St)} (ht : evT cl t m σ = some (false, σ₁)) (h2 : exs cl r m σ₁ = R) : exs cl (.ite t a [] :: r) m σ = R := exs_step (x_if0 ht exs_end) h2
theorem cut_last2 (vs : List V) : cutAB vs (some (-2)) Option.none = vs.drop (vs.length - 2) := cut_end (k := 2) (by decide)
theorem place_zero {n : Nat} (h : 0 < n) : place n 0 = some 0 := place_nat (p := 0) h
theorem d_made (P : Bw) (M : Mc) : deref (enc P M) (.ref .made (P.n .made)) = .lst M.made := by
  show (match (enc P M).lst .made (P.n .made) with | some vs => V.lst vs | Option.none => .ref .made (P.n .made)) = _
  rw [e_made]
theorem kept_last (l : List V) (x : V) : ((l ++ [x]).drop ((l ++ [x]).length - 2))[0]? = some ((l.getLast?).getD x) := by
  rw [List.getElem?_drop, List.length_append, List.length_singleton]
  cases l with
  | nil => rfl
  | cons y r =>
    rw [List.getElem?_append_left (by simp), List.getLast?_eq_getElem?]
    simp
theorem run_head (P : Bw) (ps : List Plan) (M : Mc) (cl : CallF) (v2 v3 : V) (j n func base tp : Nat) (wanted tails : Int) (fs : List V) (p : Plan) (a4 a5 a6 a7 a8 a9 a10 a11 a b c d : V) (hfs : M.frames = fs ++ [fref j]) (hj : M.fr[j]? = some (frO func base tp wanted tails))
    (hn : M.stack[func]? = some (.int n)) (hp : ps[n]? = some p) (hml : M.made.length ≤ 50000) {r : List MS} {R : Option (Fl × List V × St)}
    (h : exs cl r (runM P ps v2 v3 j ((M.made.getLast?).getD (.lst [])) (.int p.params) (.bool p.isOpen) p.size (.lst (p.deeds.map encD)) (.tup (encL p.last)) a b c d) (enc P M) = R) :
    exs cl (runB.take 2 ++ r) [wref P, plsV ps, v2, v3, a4, a5, a6, a7, a8, a9, a10, a11, a, b, c, d] (enc P M) = R := by
  have hk := kept_last M.made (.lst [])
  have hfn := (List.getElem?_eq_some_iff.mp hn).1
  have hpe : (ps.map encP)[n]? = some (encP p) := by rw [List.getElem?_map, hp]; rfl
  refine exs_step (m' := [wref P, plsV ps, v2, v3, fref j, sref P, (M.made.getLast?).getD (.lst []), a7, a8, a9, a10, a11, a, b, c, d]) (x_asgT' (r_tup (r_cons (r_idx (r_key rfl (e_dct P M) rfl) (r_neg r_con) (i_frames P M) (hfs ▸ place_end fs _) (hfs ▸ at_last fs _)) (r_cons (r_attr (r_key rfl (e_dct P M) rfl) (e_gro P M) rfl)
    (r_cons (r_idx (r_slcA (x := .lst (M.made ++ [V.lst []])) (r_bin (r_key rfl (e_dct P M) rfl) (r_lst (r_cons (r_lst r_nil) r_nil)) ?_) (r_neg r_con) (congrArg (fun l => some (V.lst l)) (cut_last2 (M.made ++ [V.lst []])))) r_con rfl (place_zero (List.getElem?_eq_some_iff.mp hk).1) hk) r_nil)))) rfl) ?_
  · rw [d_made]; exact b_addL (okLen_of (k := 50001) (Nat.add_le_add_right hml 1) rfl)
  exact exs_step (m' := runM P ps v2 v3 j ((M.made.getLast?).getD (.lst [])) (.int p.params) (.bool p.isOpen) p.size (.lst (p.deeds.map encD)) (.tup (encL p.last)) a b c d) (x_asgT' (r_idx rfl (r_idx rfl (r_attr rfl (f_at hj) rfl) (i_stack P M) (place_nat hfn) hn) rfl (place_nat (List.getElem?_eq_some_iff.mp hpe).1) hpe) rfl) h
noncomputable def deedsB : List MS := [.asg (.loc 13) (.call (.glob "_law_deed" (.fn 38)) [.loc 0, .loc 1, .loc 12, .loc 6, .loc 4, .loc 9]), .expr (.call (.glob "_law_note" (.fn 36)) [.loc 0, .loc 4, .loc 9, .loc 13])]
theorem deed_ok {ps : List Plan} {k n g : Nat} {x : Deed} {kept : List Nat} (RO : RunOk P u0 bl ps k) (hu0 : u0 ≤ 5000) (hg : 2 * k + 11 ≤ g) (hn : n ≤ k) (hnl : n ≤ ps.length) (A : At P u0 bl O F M S bs ops b) (hk : ∀ x ∈ kept, x < S.vars.length) (hx : DeedOk n F.size x) (hb : b + 1 + cost k ≤ 1000) :
    ∃ M' ops', callD tab0 g (.fn 38) [wref P, plsV ps, encD x, keptV u0 kept, fref F.j, .int F.size] (enc P M) = some ((S.deed (runS ps k) kept x).1, enc P M') ∧ At P u0 bl O F M' (S.deed (runS ps k) kept x).2 bs ops' (b + 1 + cost k) ∧
      PV 4 (S.deed (runS ps k) kept x).1 ∧ S.vars.length ≤ (S.deed (runS ps k) kept x).2.vars.length := by
  have pv0 : PV 4 (.lst []) := (PV.lst (k := 1) fun v hv => absurd hv List.not_mem_nil).le (by decide)
  have hle : b ≤ b + 1 + cost k := Nat.le_trans (Nat.le_succ b) (Nat.le_add_right _ _)
  obtain ⟨g, rfl⟩ : ∃ g', g = g' + 8 := ⟨g - 8, (Nat.sub_add_cancel (Nat.le_trans (Nat.le_trans (by decide) (Nat.le_add_left 11 _)) hg)).symm⟩
  cases x with
  | set rr v =>
    obtain ⟨M', h1, h2⟩ := deed_set_ok A (runS ps k) (g + 7) (plsV ps) (keptV u0 kept) kept rr v hx
    exact ⟨M', ops, h1, h2.mono hle, pv0, Nat.le_refl _⟩
  | put kk v =>
    obtain ⟨M', h1, h2, h3⟩ := deed_put_ok A (runS ps k) (g + 6) (plsV ps) (keptV u0 kept) kept kk v
    exact ⟨M', ops, h1, h2.mono hle, pv0, h3⟩
  | make ws =>
    obtain ⟨M', ops', h1, h2, h3, h4⟩ := deed_make_ok A (runS ps k) g (plsV ps) kept ws hk hx.1 hx.2 (Nat.le_trans hle hb) hu0
    exact ⟨M', ops', h1, h2.mono (Nat.le_add_right _ _), h3, h4⟩
  | call nn row w =>
    obtain ⟨q1, q2, q3⟩ := hx
    obtain ⟨M', h1, h2, h3, h4⟩ := deed_call_ok A RO (g + 7) (Nat.le_of_succ_le_succ hg) (keptV u0 kept) kept row w (n := nn) (Nat.lt_of_lt_of_le q1 hn) (Nat.lt_of_lt_of_le q1 hnl) q2 (q3.elim .inl fun h => .inr (by rcases h with h | h | h <;> simp [h])) hb
    exact ⟨M', ops, h1, h2, h3, h4⟩
theorem deed_step {ps : List Plan} {g : Nat} {x : Deed} {kept : List Nat} {nv v2 v3 vp vo vd vl x13 c d : V} {M1 : Mc} (A : At P u0 bl O F M1 S bs ops b) (hb : b ≤ 1000) (pv : PV 4 nv) (h1 : callD tab0 (g + 2) (.fn 38) [wref P, plsV ps, encD x, keptV u0 kept, fref F.j, .int F.size] (enc P M) = some (nv, enc P M1)) :
    exs (callD tab0 (g + 2)) deedsB (runM P ps v2 v3 F.j (keptV u0 kept) vp vo F.size vd vl (encD x) x13 c d) (enc P M) = some (.next, runM P ps v2 v3 F.j (keptV u0 kept) vp vo F.size vd vl (encD x) nv c d, enc P { M1 with notes := M1.notes ++ [noteV P M1 (bs O.D) F.size nv], places := M1.places ++ [placeV P M1 O.place (bs O.D) (bs O.D + F.size) ops] }) := by
  have hnote := A.ev_note pv hb g
  have hund := pv_undef pv
  have hxd : encD x ≠ .undef := by cases x <;> exact nofun
  exact exs_step (m' := runM P ps v2 v3 F.j (keptV u0 kept) vp vo F.size vd vl (encD x) nv c d) (x_asg' (r_call r_glob (r_cons rfl (r_cons rfl (r_cons (r_locu rfl hxd) (r_cons rfl (r_cons rfl (r_cons rfl r_nil)))))) h1) rfl)
    (exs_step (x_expr' (r_call r_glob (r_cons rfl (r_cons rfl (r_cons rfl (r_cons (r_locu rfl hund) r_nil)))) hnote)) exs_end)
theorem deedsOk {ps : List Plan} {k n : Nat} (RO : RunOk P u0 bl ps k) (hu0 : u0 ≤ 5000) (g : Nat) (hg : 2 * k + 11 ≤ g) (kept : List Nat) (hn : n ≤ k) (hnl : n ≤ ps.length) (v2 v3 vp vo vd vl c d : V) (ds : List Deed) :
    ∀ (M : Mc) (S : Sp) (ops : List (Nat × Nat)) (b : Nat) (x12 x13 : V), At P u0 bl O F M S bs ops b → (∀ x ∈ kept, x < S.vars.length) → (∀ x ∈ ds, DeedOk n F.size x) → b + ds.length * (2 + cost k) ≤ 1000 →
    ∃ M' ops' x12' x13', loopF (fun x m τ => (putNm 12 x m).bind fun m₂ => exs (callD tab0 g) deedsB m₂ τ) (ds.map encD) (runM P ps v2 v3 F.j (keptV u0 kept) vp vo F.size vd vl x12 x13 c d) (enc P M) =
      some (.next, runM P ps v2 v3 F.j (keptV u0 kept) vp vo F.size vd vl x12' x13' c d, enc P M') ∧ At P u0 bl O F M' (Sp.deeds (runS ps k) kept ds S) bs ops' (b + ds.length * (2 + cost k)) ∧ S.vars.length ≤ (Sp.deeds (runS ps k) kept ds S).vars.length := by
  induction ds with
  | nil => exact fun M S ops b x12 x13 A hk hd hb => ⟨M, ops, x12, x13, rfl, A.mono (Nat.le_add_right _ _), Nat.le_refl _⟩
  | cons x r ih =>
    intro M S ops b x12 x13 A hk hd hb
    have hc : b + (2 + cost k) + r.length * (2 + cost k) = b + (x :: r).length * (2 + cost k) := (Nat.add_assoc ..).trans (congrArg (b + ·) ((Nat.add_comm ..).trans (Nat.succ_mul ..).symm))
    have hc1 : b + 1 + cost k + 1 = b + (2 + cost k) := (Nat.add_right_comm (b + 1) (cost k) 1).trans (Nat.add_assoc b 2 (cost k))
    have hb2 : b + 1 + cost k + 1 ≤ 1000 := hc1 ▸ Nat.le_trans (Nat.le_add_right _ _) (hc ▸ hb)
    obtain ⟨M1, ops1, h1, A1, pv, hv1⟩ := deed_ok RO hu0 hg hn hnl A hk (hd x List.mem_cons_self) (Nat.le_of_succ_le hb2)
    have A2 := A1.note pv
    rw [hc1] at A2
    obtain ⟨M', ops', x12', x13', h2, A3, hv2⟩ := ih _ _ _ _ (encD x) (S.deed (runS ps k) kept x).1 A2 (fun y hy => Nat.lt_of_lt_of_le (hk y hy) hv1) (fun y hy => hd y (List.mem_cons_of_mem _ hy)) (hc ▸ hb)
    obtain ⟨g, rfl⟩ : ∃ g', g = g' + 2 := ⟨g - 2, (Nat.sub_add_cancel (Nat.le_trans (Nat.le_trans (by decide) (Nat.le_add_left 11 _)) hg)).symm⟩
    exact ⟨M', ops', x12', x13', bind_eq (bind_eq rfl (deed_step A1 (Nat.le_of_succ_le hb2) pv h1)) h2, hc ▸ A3, Nat.le_trans hv1 hv2⟩
end Mine
end
section
set_option maxRecDepth 100000
namespace Mine
variable {P : Bw} {u0 : Nat} {bl : List V} {M : Mc} {S : Sp} {bs : Nat → Nat} {ops : List (Nat × Nat)} {b : Nat} {O : Oc} {F : Fc}
noncomputable def enterM (M : Mc) (at' : Nat) : Mc := { M with ent := M.ent + 1, stack := M.stack.set at' (.int (500 + (M.ent + 1))) }
noncomputable def noteM (P : Bw) (O : Oc) (F : Fc) (bs : Nat → Nat) (ops : List (Nat × Nat)) (news : V) (M : Mc) : Mc := { M with notes := M.notes ++ [noteV P M (bs O.D) F.size news], places := M.places ++ [placeV P M O.place (bs O.D) (bs O.D + F.size) ops] }
theorem At.entered (A : At P u0 bl O F M S bs ops b) : At P u0 bl O F { M with ent := M.ent + 1 } { S with ent := S.ent + 1 } bs ops b := by
  have R := A.rl
  refine A.renew ⟨R.regs, R.sep, R.shf, R.bel, ⟨R.opo.opens, R.opo.up, R.opo.nodup, R.opo.few⟩, R.desc, R.upl, R.opv, R.shv, R.opi, R.known, R.made, R.madeOk, R.notes, ?_, R.places, R.basesT, R.opensT, ⟨R.sok.regs, R.sok.vars, R.sok.notes, R.sok.places⟩⟩ rfl rfl rfl (fun _ _ => rfl) rfl rfl A.ins rfl (Nat.le_refl _) ⟨A.sz.stack, A.sz.top, A.sz.frames, A.sz.notes, A.sz.places, A.sz.made, A.sz.up, A.sz.ops⟩
  show M.ent + 1 = ((S.ent + 1 : Nat) : Int)
  rw [R.ent]; rfl
theorem pv_rest {args : List V} (hat : ∀ v ∈ args, Atom v) (p : Plan) : PV 4 (.lst (if p.isOpen then args.drop p.params else [])) := by
  refine (PV.lst (k := 1) fun v hv => ?_).le (by decide)
  cases hp : p.isOpen with
  | true => rw [hp] at hv; exact (hat v (List.mem_of_mem_drop hv)).pv
  | false => rw [hp] at hv; exact absurd hv List.not_mem_nil
theorem At.start (A : At P u0 bl O F M S bs ops b) (p : Plan) (args : List V) (hs : F.size = p.size) (hat : ∀ v ∈ args, Atom v) :
    At P u0 bl O F (enterM M (bs O.D + (p.size - 1))) ((({ S with ent := S.ent + 1 } : Sp)).setR (S.fs.length - 1) (p.size - 1) (.int (500 + (S.ent + 1) : Nat))) bs ops b := by
  obtain ⟨f, hf, hfs, _⟩ := A.cur
  have hpos := A.pos
  have h := A.entered.setR (d := O.D) (r := p.size - 1) (v := .int (500 + (S.ent + 1) : Nat)) hf (by rw [hfs, hs]; exact Nat.sub_lt (hs ▸ hpos) Nat.one_pos) trivial
  rw [A.len, Nat.add_sub_cancel]
  have e : (V.int (500 + (M.ent + 1))) = .int (500 + (S.ent + 1) : Nat) := by rw [A.rl.ent]; congr 1
  unfold enterM
  rw [e]
  exact h
theorem At.begun (A : At P u0 bl O F M S bs ops b) (p : Plan) (args : List V) (hs : F.size = p.size) (hat : ∀ v ∈ args, Atom v) :
    At P u0 bl O F (noteM P O F bs ops (.lst (if p.isOpen then args.drop p.params else [])) (enterM M (bs O.D + (p.size - 1)))) (S.begin p args) bs ops (b + 1) := (A.start p args hs hat).note (pv_rest hat p)
theorem set_slice (l : List V) (i a n : Nat) (v : V) (h : a + n ≤ i) : ((l.set i v).drop a).take n = (l.drop a).take n := by
  apply List.ext_getElem?
  intro k
  by_cases hk : k < n
  · rw [List.getElem?_take, List.getElem?_take, if_pos hk, if_pos hk, List.getElem?_drop, List.getElem?_drop, List.getElem?_set, if_neg (Nat.ne_of_gt (Nat.lt_of_lt_of_le (Nat.add_lt_add_left hk a) h))]
  · rw [List.getElem?_take, List.getElem?_take, if_neg hk, if_neg hk]
theorem run_begin (A : At P u0 bl O F M S bs ops b) (ps : List Plan) (g : Nat) (p : Plan) (args : List V) (hs : F.size = p.size) (hat : ∀ v ∈ args, Atom v) (hb : b ≤ 1000)
    (hopen : p.isOpen = true → O.place + 1 + p.params ≤ bs O.D ∧ (M.stack.drop (O.place + 1 + p.params)).take (bs O.D - (O.place + 1 + p.params)) = args.drop p.params) (v2 v3 kv vd vl a11 c12 c13 c14 : V) {R : Option (Fl × List V × St)}
    (h : exs (callD tab0 (g + 2)) (runB.drop 5) (runM P ps v2 v3 F.j kv (.int p.params) (.bool p.isOpen) p.size vd vl a11 c12 c13 c14) (enc P (noteM P O F bs ops (.lst (if p.isOpen then args.drop p.params else [])) (enterM M (bs O.D + (p.size - 1))))) = R) :
    exs (callD tab0 (g + 2)) (runB.drop 2) (runM P ps v2 v3 F.j kv (.int p.params) (.bool p.isOpen) p.size vd vl a11 c12 c13 c14) (enc P M) = R := by
  obtain ⟨f, hf, hfs, _⟩ := A.cur
  have hpos := A.pos
  have hl := A.rl.inl (r := p.size - 1) hf (by rw [hfs, hs]; exact Nat.sub_lt (hs ▸ hpos) Nat.one_pos)
  have A1 := A.start p args hs hat
  have hnote := A1.ev_note (pv_rest hat p) hb g
  have hj := A.fr
  rw [← hs] at *
  generalize callD tab0 (g + 2) = cl at *
  refine exs_step (m' := runM P ps v2 v3 F.j kv (.int p.params) (.bool p.isOpen) F.size vd vl a11 c12 c13 c14) (σ' := enc P { M with ent := M.ent + 1 }) (x_asg' (r_bin (r_key rfl (e_dct P M) rfl) r_con (b_add rfl)) (s_key rfl (e_dct P M) rfl (s_ent P M (M.ent + 1)))) ?_
  have e1 : ((bs O.D : Int) + F.size) - 1 = ((bs O.D + (F.size - 1) : Nat) : Int) := by rw [Int.add_sub_assoc, show ((F.size : Int) - 1) = ((F.size - 1 : Nat) : Int) from (Int.ofNat_sub hpos).symm]; rfl
  refine exs_step (m' := runM P ps v2 v3 F.j kv (.int p.params) (.bool p.isOpen) F.size vd vl a11 c12 c13 c14) (σ' := enc P (enterM M (bs O.D + (F.size - 1)))) (x_asg' (r_bin r_con (r_key rfl (e_dct P { M with ent := M.ent + 1 }) rfl) (b_add rfl)) (s_idx (n := bs O.D + (F.size - 1)) rfl (r_bin (r_bin (r_attr rfl (f_at (M := { M with ent := M.ent + 1 }) hj) rfl) rfl (b_add rfl)) r_con (b_sub e1)) (e_stack P { M with ent := M.ent + 1 }) hl (s_stack P { M with ent := M.ent + 1 } _))) ?_
  have hnews : ev cl (.ite (.loc 8) (.slcAB (.loc 5) (.bin .Add (.bin .Add (.attr (.loc 4) .frame 0) (.con (.int 1))) (.loc 7)) (.attr (.loc 4) .frame 1)) (.lst [])) (runM P ps v2 v3 F.j kv (.int p.params) (.bool p.isOpen) F.size vd vl a11 c12 c13 c14) (enc P (enterM M (bs O.D + (F.size - 1)))) =
      some (.lst (if p.isOpen then args.drop p.params else []), enc P (enterM M (bs O.D + (F.size - 1)))) := by
    have hj' : (enterM M (bs O.D + (F.size - 1))).fr[F.j]? = some (frO O.place (bs O.D) (bs O.D + F.size) O.wanted F.tails) := hj
    clear hnote h e1
    cases hio : p.isOpen with
    | false => exact r_iteF (t_loc rfl) (r_lst r_nil)
    | true =>
      obtain ⟨h1, h2⟩ := hopen hio
      have hst : (enterM M (bs O.D + (F.size - 1))).stack = M.stack.set (bs O.D + (F.size - 1)) (.int (500 + (M.ent + 1))) := rfl
      have e9 := cut_some (enterM M (bs O.D + (F.size - 1))).stack (O.place + 1 + p.params) (bs O.D) h1 (by rw [hst, List.length_set]; exact Nat.le_of_lt (Nat.lt_of_le_of_lt (Nat.le_add_right _ _) hl))
      rw [hst, set_slice M.stack (bs O.D + (F.size - 1)) (O.place + 1 + p.params) (bs O.D - (O.place + 1 + p.params)) (.int (500 + (M.ent + 1))) (by rw [Nat.add_sub_of_le h1]; exact Nat.le_add_right _ _), h2, ← hst] at e9
      refine r_iteT (t_loc rfl) (r_slcAB rfl (r_bin (r_bin (r_attr rfl (f_at hj') rfl) r_con (b_add rfl)) rfl (b_add rfl)) (r_attr rfl (f_at hj') rfl) ?_)
      show ((enc P _).lst .stack (P.n .stack)).map _ = _
      rw [e_stack]; exact congrArg (fun l => some (V.lst l)) e9
  exact exs_step (x_expr' (r_call r_glob (r_cons rfl (r_cons rfl (r_cons rfl (r_cons hnews r_nil)))) hnote)) h
theorem run_fail (cl : CallF) (ps : List Plan) (v2 v3 kv vp vo vd a b c d : V) (j size : Nat) (σ : St) : exs cl (runB.drop 6) (runM P ps v2 v3 j kv vp vo size vd (.tup (encL .fail)) a b c d) σ = some (.ret (.bool false), runM P ps v2 v3 j kv vp vo size vd (.tup (encL .fail)) a b c d, σ) :=
  exs_ite_ret (c := true) rfl (by simp only [if_true]; exact exs_ret rfl)
theorem run_push (M M1 : Mc) (cl : CallF) (ps : List Plan) (v2 v3 kv vp vo vd c12 c13 c14 c15 : V) (j size func base tp : Nat) (wanted tails : Int) (l : Last) (row : List Nat) (vals : List V) (hl : l = .ret row ∧ vals = (row.map fun r => (M.stack[base + r]?).getD .none) ∨ ∃ n, l = .go n row ∧ vals = .int (n : Nat) :: (row.map fun r => (M.stack[base + r]?).getD .none))
    (hj : M.fr[j]? = some (frO func base tp wanted tails)) (hr : ∀ r ∈ row, base + r < M.stack.length) (hrl : row.length ≤ 3)
    (hp : cl (.fn 34) [wref P, .lst vals] (enc P M) = some (.int M.top, enc P M1)) {R : Option (Fl × List V × St)}
    (h : exs cl (runB.drop 9) (runM P ps (.int M.top) v3 j kv vp vo size vd (.tup (encL l)) c12 c13 (.lst (row.map fun r => (M.stack[base + r]?).getD .none)) c15) (enc P M1) = R) :
    exs cl (runB.drop 6) (runM P ps v2 v3 j kv vp vo size vd (.tup (encL l)) c12 c13 c14 c15) (enc P M) = R := by
  have hskip : evT cl (.cmp .Eq (.idx (.loc 11) (.con (.int 0))) (.con (.str "raise"))) (runM P ps v2 v3 j kv vp vo size vd (.tup (encL l)) c12 c13 c14 c15) (enc P M) = some (false, enc P M) := by
    rcases hl with ⟨rfl, _⟩ | ⟨n, rfl, _⟩ <;> rfl
  refine exs_skip hskip ?_
  have hev : ev cl (.idx (.loc 11) (.con (.int 2))) (runM P ps v2 v3 j kv vp vo size vd (.tup (encL l)) c12 c13 c14 c15) (enc P M) = some (rowV row, enc P M) := by
    rcases hl with ⟨rfl, _⟩ | ⟨n, rfl, _⟩ <;> rfl
  have hrow := ev_row P M cl (runM P ps v2 v3 j kv vp vo size vd (.tup (encL l)) c12 c13 c14 c15) j func base tp wanted tails row 4 5 16 _ hj hev rfl rfl rfl hr
  have hrl2 : (row.map fun r => (M.stack[base + r]?).getD .none).length = row.length := List.length_map ..
  generalize (row.map fun r => (M.stack[base + r]?).getD .none) = rv at *
  refine exs_step (m' := runM P ps v2 v3 j kv vp vo size vd (.tup (encL l)) c12 c13 (.lst rv) c15) (x_asg' hrow rfl) ?_
  have hpush : ev cl (.ite (.cmp .Eq (.idx (.loc 11) (.con (.int 0))) (.con (.str "go"))) (.bin .Add (.lst [.idx (.loc 11) (.con (.int 1))]) (.loc 14)) (.loc 14)) (runM P ps v2 v3 j kv vp vo size vd (.tup (encL l)) c12 c13 (.lst rv) c15) (enc P M) = some (.lst vals, enc P M) := by
    rcases hl with ⟨rfl, rfl⟩ | ⟨n, rfl, rfl⟩
    · rfl
    · exact r_iteT rfl (r_bin (r_lst (r_cons rfl r_nil)) rfl (b_addL (okLen_of (k := 4) (by rw [hrl2]; exact Nat.add_le_add_left hrl 1) rfl)))
  exact exs_step (x_asg' (r_call r_glob (r_cons rfl (r_cons hpush r_nil)) hp) rfl) h
theorem run_ret_skip (cl : CallF) (ps : List Plan) (v2 v3 kv vp vo vd a b c d : V) (j size : Nat) (row : List Nat) (σ : St) {R : Option (Fl × List V × St)} (h : exs cl (runB.drop 11) (runM P ps v2 v3 j kv vp vo size vd (.tup (encL (.ret row))) a b c d) σ = R) :
    exs cl (runB.drop 9) (runM P ps v2 v3 j kv vp vo size vd (.tup (encL (.ret row))) a b c d) σ = R := exs_skip rfl (exs_skip rfl h)
theorem ev_well (Mx : Mc) (cl : CallF) (m : List V) (j func base tp : Nat) (wanted tails : Int) (t : Bool) (hj : Mx.fr[j]? = some (frO func base tp wanted tails)) (h0 : m[0]? = some (wref P)) (h4 : m[4]? = some (fref j)) (h15 : m[15]? = some (.bool t)) (ht : t = decide (wanted ≥ 0)) :
    ev cl (.bop true [.key (.loc 0) .world 10, .cmp .Eq (.loc 15) (.cmp .GtE (.attr (.loc 4) .frame 3) (.con (.int 0)))]) m (enc P Mx) = some (.bool Mx.well, enc P Mx) := by
  have e4 := w10 P Mx
  subst ht
  cases hm : Mx.well with
  | true => exact r_bop (v_and1 (r_key (r_locR h0) (e_dct P Mx) (hm ▸ e4)) (v_one (r_cmp (r_locB h15) (r_cmp (r_attr (r_locR h4) (f_at hj) rfl) r_con rfl) (congrArg some (beq_self_eq_true _)))))
  | false => exact r_bop (v_and0 (r_key (r_locR h0) (e_dct P Mx) (hm ▸ e4)))
theorem run_finish (ps : List Plan) (g j func base tp size first : Nat) (wanted tails : Int) (v3 kv vp vo vd vl c12 c13 c14 c15 : V) (fs : List V) (hfs : M.frames = fs ++ [fref j]) (hj : M.fr[j]? = some (frO func base tp wanted tails)) (hw : WOk wanted) (hO : OpsOk P M ops) (hs : ∀ q ∈ ops, q.2 < M.stack.length)
    (h1 : func ≤ first) {n : Nat} (hn : M.top = first + n) (h3 : M.top ≤ M.stack.length) (h4 : M.stack.length ≤ 50000) :
    ∃ m', exs (callD tab0 (g + 4)) (runB.drop 11) (runM P ps (.int first) v3 j kv vp vo size vd vl c12 c13 c14 c15) (enc P M) =
      some (.ret (.bool true), m', enc P { M with tmp := M.tmp ++ [.gone], opens := (ops.drop (high ops base)).map fun q => uref q.1, up := closeUp M.stack (ops.take (high ops base)) M.up, stack := settledL M.stack func first n wanted, frames := fs, top := endAt wanted func n }) := by
  have hmn : M.top - first = n := by rw [hn, Nat.add_sub_cancel_left]
  obtain ⟨v, ht⟩ := ok_take_closed P M (g + 2) base ops hO hs
  have hb := ok_left_behind P { M with tmp := M.tmp ++ [.gone], opens := (ops.drop (high ops base)).map fun q => uref q.1, up := closeUp M.stack (ops.take (high ops base)) M.up } g fs j func base tp first M.top wanted tails hfs hj (by rcases hw with h | h | h | h <;> lia) h1 (hn ▸ Nat.le_add_right _ _) h3 h4
  simp only [hmn] at hb
  have hwell : (!(wanted == -1)) = decide (wanted ≥ 0) := by rcases hw with rfl | rfl | rfl | rfl <;> rfl
  generalize callD tab0 (g + 4) = cl at *
  generalize endAt wanted func n = et at *
  generalize settledL M.stack func first n wanted = sl at *
  generalize ((ops.drop (high ops base)).map fun q => uref q.1) = ol at *
  generalize closeUp M.stack (ops.take (high ops base)) M.up = ul at *
  refine ⟨runM P ps (.int first) v3 j kv vp vo size vd vl c12 c13 c14 (.bool (!(wanted == -1))), ?_⟩
  exact exs_step (x_expr' (r_call r_glob (r_cons (r_key rfl (e_dct P M) rfl) (r_cons (r_attr rfl (f_at hj) rfl) r_nil)) ht))
    (exs_step (m' := runM P ps (.int first) v3 j kv vp vo size vd vl c12 c13 c14 (.bool (!(wanted == -1)))) (σ' := enc P { M with tmp := M.tmp ++ [.gone], opens := ol, up := ul, stack := sl, frames := fs, top := et }) (x_asgT' (r_call r_glob (r_cons rfl (r_cons (r_key rfl (e_dct P { M with tmp := M.tmp ++ [.gone], opens := ol, up := ul }) rfl) (r_cons rfl (r_cons (r_key rfl (e_dct P { M with tmp := M.tmp ++ [.gone], opens := ol, up := ul }) rfl) r_nil)))) hb) (bind_eq (s_key rfl (e_dct P { M with tmp := M.tmp ++ [.gone], opens := ol, up := ul, stack := sl, frames := fs }) rfl (s_top P { M with tmp := M.tmp ++ [.gone], opens := ol, up := ul, stack := sl, frames := fs } et)) rfl))
      (exs_step (x_asg' (ev_well { M with tmp := M.tmp ++ [.gone], opens := ol, up := ul, stack := sl, frames := fs, top := et } cl _ j func base tp wanted tails (!(wanted == -1)) hj rfl rfl rfl hwell) (s_key rfl (e_dct P { M with tmp := M.tmp ++ [.gone], opens := ol, up := ul, stack := sl, frames := fs, top := et }) rfl (s_well P { M with tmp := M.tmp ++ [.gone], opens := ol, up := ul, stack := sl, frames := fs, top := et } M.well))) (exs_ret rfl)))
end Mine
end
section
set_option maxRecDepth 100000
namespace Mine
variable {P : Bw} {u0 : Nat} {bl : List V} {M : Mc} {S : Sp} {bs : Nat → Nat} {ops : List (Nat × Nat)} {b : Nat} {O : Oc} {F : Fc}
theorem leave_fs (S : Sp) : S.leave.fs = S.fs.take (S.fs.length - 1) := by
  show S.fs.dropLast = _
  rw [List.dropLast_eq_take]
theorem leave_vars (S : Sp) : S.leave.vars.length = S.vars.length := by
  show (S.vars.map _).length = _
  rw [List.length_map]
theorem At.lowb (A : At P u0 bl O F M S bs ops b) : lows (bs O.D) ops = O.ops0 := by
  rw [← A.low]
  unfold lows
  apply List.filter_congr
  intro q hq
  exact (A.ins q hq).elim (fun h => by rw [decide_eq_true h, decide_eq_true (Nat.lt_trans h A.plb)]) (fun h => by rw [decide_eq_false (Nat.not_lt.mpr h.1), decide_eq_false (Nat.not_lt.mpr (Nat.le_trans (Nat.le_of_lt A.plb) h.1))])
theorem At.leaveShape (A : At P u0 bl O F M S bs ops b) : S.leave.fs.map shp = O.sh := by
  rw [leave_fs, List.map_take, A.shape, A.len]
  simp
theorem At.leaveSep (A : At P u0 bl O F M S bs ops b) : ∀ d f, S.leave.fs[d]? = some f → bs d + f.regs.length ≤ O.place := fun d f h => by
  rw [leave_fs, A.len, List.getElem?_take] at h
  by_cases q : d < O.D + 1 - 1
  · rw [if_pos q] at h; exact A.seps d f q h
  · rw [if_neg q] at h; exact ns h
theorem ops0_low (A : At P u0 bl O F M S bs ops b) : ∀ q ∈ O.ops0, q.2 < O.place := fun q hq => by
  rw [← A.low] at hq
  have := (List.mem_filter.mp hq).2
  simpa using this
theorem At.leaveRl (A : At P u0 bl O F M S bs ops b) {M1 : Mc} (R : Rl P u0 bl M1 S bs ops) (t : List MObj) :
    Rl P u0 bl { M1 with tmp := t, opens := (ops.drop (high ops (bs O.D))).map fun q => uref q.1, up := closeUp M1.stack (ops.take (high ops (bs O.D))) M1.up } S.leave bs O.ops0 := by
  obtain ⟨f, hf, hfs, _, hfb⟩ := A.cur
  have hlen := A.len
  have h := R.shut (level := bs O.D) (d0 := O.D) (lv := S.cur.base) (fun d f' hf' => ⟨fun hd => Nat.le_trans (A.seps d f' hd hf') (Nat.le_of_lt A.plb), fun hd => by
    have h1 := (List.getElem?_eq_some_iff.mp hf').1
    rw [hlen] at h1
    rw [Nat.le_antisymm (Nat.le_of_lt_succ h1) hd]; exact Nat.le_refl _⟩) (fun hs => by rw [cur_of hlen hf]; exact R.basesT hs _ f hf) t
  rw [A.lowb] at h
  have h2 := h.down (n := O.D) fun x d r hx => close_noop hx
  rw [drop_high _ R.desc, A.lowb]
  have e : ({ (S.close O.D S.cur.base) with fs := (S.close O.D S.cur.base).fs.take O.D } : Sp) = S.leave := by
    unfold Sp.leave Sp.pop
    rw [hlen, Nat.add_sub_cancel]
    have : (S.close O.D S.cur.base).fs.dropLast = (S.close O.D S.cur.base).fs.take O.D := by
      rw [List.dropLast_eq_take]
      exact congrArg (List.take · _) (show S.fs.length - 1 = O.D by rw [hlen, Nat.add_sub_cancel])
    rw [this]
  rw [← e]
  exact h2
theorem At.fade (A : At P u0 bl O F M S bs ops b) {M1 : Mc} (R : Rl P u0 bl M1 S bs ops) (hst : P.stands = false) : Rl P u0 bl M1 S.leave bs ops := by
  obtain ⟨f, hf, hfs, _, hfb⟩ := A.cur
  have hlen := A.len
  have hlv : S.leave.fs = S.fs.take O.D := by rw [leave_fs, hlen]; rfl
  have hg : ∀ d f, S.leave.fs[d]? = some f → d < O.D ∧ S.fs[d]? = some f := fun d f h => by
    rw [hlv, List.getElem?_take] at h
    by_cases q : d < O.D
    · rw [if_pos q] at h; exact ⟨q, h⟩
    · rw [if_neg q] at h; simp at h
  have hvar : ∀ (x : Nat) (w : SV), S.leave.vars[x]? = some w → ∃ w0, S.vars[x]? = some w0 ∧ w = (match w0 with | .op d' r => if O.D ≤ d' then .sh (S.reg d' r) else w0 | y => y) := fun x w h => by
    have h' : (S.close (S.fs.length - 1) S.cur.base).vars[x]? = some w := h
    rw [hlen, show O.D + 1 - 1 = O.D by lia] at h'
    exact close_var h'
  refine ⟨fun d f r v h => R.regs d f r v (hg d f h).2, fun a b f f' hab h h' => R.sep a b f f' hab (hg a f h).2 (hg b f' h').2, fun d h => R.shf d ?_, R.bel, R.opo, R.desc, by rw [leave_vars]; exact R.upl, fun x d r hx => ?_, fun x v hx => ?_, R.opi, R.known, R.made, fun l hl x hx => by rw [leave_vars]; exact R.madeOk l hl x hx, R.notes, R.ent, R.places, fun hs => absurd hs (by rw [hst]; simp), fun hs => absurd hs (by rw [hst]; simp), ⟨fun d f h => R.sok.regs d f (hg d f h).2, fun x v hx => ?_, R.sok.notes, R.sok.places⟩⟩
  · rw [hlv, List.length_take] at h; lia
  · obtain ⟨w0, h0, e⟩ := hvar x _ hx
    cases w0 with
    | sh v => simp at e
    | op d' r' =>
      simp only at e
      by_cases hd : O.D ≤ d'
      · rw [if_pos hd] at e; simp at e
      · rw [if_neg hd] at e
        cases e
        obtain ⟨⟨f', hf', hr⟩, hm⟩ := R.opv x d r h0
        exact ⟨⟨f', by rw [hlv, List.getElem?_take, if_pos (by lia)]; exact hf', hr⟩, hm⟩
  · obtain ⟨w0, h0, e⟩ := hvar x _ hx
    cases w0 with
    | sh v' =>
      simp only at e
      cases e
      rcases R.shv x v h0 with e | ⟨e, p, hp, hpv, hps, hpo⟩
      · exact .inl e
      · exact .inr ⟨e, p, hp, hpv, hps, fun d f h => hpo d f (hg d f h).2⟩
    | op d' r' =>
      simp only at e
      by_cases hd : O.D ≤ d'
      · rw [if_pos hd] at e
        cases e
        obtain ⟨⟨f', hf', hr⟩, hm⟩ := R.opv x d' r' h0
        have hrg := R.regs d' f' r' _ hf' (List.getElem?_eq_getElem hr)
        refine .inr ⟨hst, bs d' + r', hm, ?_, by have := R.shf' hf'; lia, fun d f h => ?_⟩
        · rw [hrg]; simp [Sp.reg, hf', List.getElem?_eq_getElem hr]
        · obtain ⟨h1, h2⟩ := hg d f h
          have := R.sep d d' f f' (by lia) h2 hf'
          exact .inr (by lia)
      · rw [if_neg hd] at e; simp at e
  · obtain ⟨w0, h0, e⟩ := hvar x _ hx
    cases w0 with
    | sh v' => simp only at e; cases e; exact R.sok.vars x v h0
    | op d' r' =>
      simp only at e
      by_cases hd : O.D ≤ d'
      · rw [if_pos hd] at e; cases e; exact Sp.reg_atom R.sok _ _
      · rw [if_neg hd] at e; simp at e
theorem Rl.shutDead (R : Rl P u0 bl M S bs ops) (hst : P.stands = false) {level : Nat} (hsep : ∀ d f, S.fs[d]? = some f → bs d + f.regs.length ≤ level) (t : List MObj) :
    Rl P u0 bl { M with tmp := t, opens := (ops.drop (high ops level)).map fun q => uref q.1, up := closeUp M.stack (ops.take (high ops level)) M.up } S bs (lows level ops) := by
  have h := R.shut (level := level) (d0 := S.fs.length) (lv := 0) (fun d f hf => ⟨fun _ => hsep d f hf, fun hd => by have := (List.getElem?_eq_some_iff.mp hf).1; lia⟩) (fun hs => absurd hs (by rw [hst]; simp)) t
  rw [drop_high _ R.desc]
  have e : (S.close S.fs.length 0).vars = S.vars := by
    show S.vars.map _ = _
    refine (List.map_congr_left fun x hx => ?_).trans (List.map_id _)
    cases x with
    | sh v => rfl
    | op d r =>
      obtain ⟨i, hi, e⟩ := List.mem_iff_getElem.mp hx
      obtain ⟨⟨f, hf, _⟩, _⟩ := R.opv i d r (by rw [List.getElem?_eq_getElem hi, e])
      have := (List.getElem?_eq_some_iff.mp hf).1
      show (if S.fs.length ≤ d then _ else _) = _
      rw [if_neg (by lia)]; rfl
  refine ⟨h.regs, h.sep, h.shf, h.bel, h.opo, h.desc, by have := h.upl; rw [e] at this; exact this, fun x d r hx => h.opv x d r (by rw [e]; exact hx), fun x v hx => h.shv x v (by rw [e]; exact hx), h.opi, h.known, h.made, fun l hl x hx => by have := h.madeOk l hl x hx; rw [e] at this; exact this, h.notes, h.ent, h.places, h.basesT, fun hs => absurd hs (by rw [hst]; simp), ⟨h.sok.regs, fun x v hx => h.sok.vars x v (by rw [e]; exact hx), h.sok.notes, h.sok.places⟩⟩
theorem post_done (R : Rl P u0 bl M S bs O.ops0) {r : List V} {first b : Nat} (hb : ∀ d, d < O.D → bs d = O.bs d) (hsh : S.fs.map shp = O.sh) (hsep : ∀ d f, S.fs[d]? = some f → bs d + f.regs.length ≤ O.place) (hops : ∀ q ∈ O.ops0, q.2 < O.place) (hshf : P.shift ≤ O.place)
    (hr : ∀ i v, r[i]? = some v → M.stack[first + i]? = some v) (hf : O.place ≤ first) (hl : first + r.length ≤ M.stack.length) (hold : ∀ i, i < O.fr0.length → M.fr[i]? = O.fr0[i]?) (hfrl : O.fr0.length ≤ M.fr.length) (hwell : M.well = O.well) (hvn : O.vn ≤ S.vars.length)
    (hat : ∀ v ∈ r, Atom v) (hfew : r.length ≤ 3) (hw : WOk O.wanted) (hz : Sz u0 M O.ops0 b) (hfs : O.fs.length ≤ b) :
    PoS P u0 bl O (b + 1) r S { M with stack := settledL M.stack O.place first r.length O.wanted, frames := O.fs, top := endAt O.wanted O.place r.length } := by
  obtain ⟨s1, s2, s3, s4, s5⟩ := settled_spec M.stack r O.place first O.wanted hw hf hl hr
  obtain ⟨z1, z2, z3, z4, z5, z6, z7, z8⟩ := hz
  have hD : ∀ d, d < S.fs.length → O.bs d = bs d := fun d hd => by
    exact (hb d (by show d < O.sh.length; rw [← hsh, List.length_map]; exact hd)).symm
  have he : endAt O.wanted O.place r.length ≤ 40 * (b + 1) := by
    rw [s3]
    exact Nat.add_le_add (Nat.le_trans (Nat.le_trans hf (Nat.le_trans (Nat.le_add_right _ _) hl)) z1) (Nat.le_trans (adj_few hw hfew) (by decide))
  refine ⟨((R.above hsep hops hshf s1).bases hD).re rfl rfl rfl rfl rfl rfl rfl rfl, hsh, rfl, hold, hfrl, hwell, hvn, s3, s2, s4, hat, hfew, ⟨Nat.le_trans s5 (Nat.max_le.mpr ⟨Nat.le_trans z1 (Nat.le_add_right _ 40), he⟩), he, Nat.le_succ_of_le hfs, Nat.le_succ_of_le z4, Nat.le_succ_of_le z5, Nat.le_succ_of_le z6, Nat.le_trans z7 (Nat.add_le_add_left (Nat.le_add_right _ 2) _), Nat.le_trans z8 (Nat.le_add_right _ 2)⟩⟩
theorem At.failed (A : At P u0 bl O F M S bs ops b) : PoF P u0 bl O b S M bs ops [fref F.j] := by
  refine ⟨A.rl, ?_, A.bases, fun d f hd hf => ?_, A.low, A.frames, A.old, ?_, A.well, A.vn, A.sz⟩
  · rw [A.shape]; simp
  · have := (List.getElem?_eq_some_iff.mp hf).1
    have hl := A.len
    rw [show d = O.D by lia]
    have := A.plb; lia
  · have := A.jn
    have := (List.getElem?_eq_some_iff.mp A.fr).1
    lia
theorem PoF.mono {b' : Nat} {bs' : Nat → Nat} {ops' : List (Nat × Nat)} {ext : List V} (h : PoF P u0 bl O b S M bs' ops' ext) (hb : b ≤ b') : PoF P u0 bl O b' S M bs' ops' ext := { h with sz := h.sz.mono hb }
theorem PoS.mono {b' : Nat} {r : List V} (h : PoS P u0 bl O b r S M) (hb : b ≤ b') : PoS P u0 bl O b' r S M := { h with sz := h.sz.mono hb }
theorem PoR.mono {b' : Nat} {r : Option (List V)} (h : PoR P u0 bl O b r S M) (hb : b ≤ b') : PoR P u0 bl O b' r S M := by
  cases r with
  | some r => exact PoS.mono h hb
  | none => obtain ⟨a, c, d, h⟩ := h; exact ⟨a, c, d, h.mono hb⟩
theorem run_stand (ps : List Plan) (M : Mc) (g j func base tp size first n : Nat) (wanted tails : Int) (row : List Nat) (p : Plan) (v3 kv vp vo vd c12 c13 c14 c15 : V) (fs : List V) (hst : P.stands = true) (hfs : M.frames = fs ++ [fref j]) (hj : M.fr[j]? = some (frO func base tp wanted tails)) (hO : OpsOk P M ops)
    (hs : ∀ q ∈ ops, q.2 < M.stack.length) (hn : M.stack[first]? = some (.int n)) (hp : ps[n]? = some p) (h1 : func ≤ first) (h2 : first < M.top) (h3 : M.top ≤ M.stack.length) (h4 : M.stack.length ≤ 50000) (h5 : M.top ≤ 40000) (h6 : M.frames.length ≤ 50000) (h7 : p.params ≤ p.size) (h8 : p.size ≤ 1000)
    (st : List V) (hE : st = enterL M.stack p.isOpen first p.params p.size M.top) (hsl : baseOf p.isOpen first p.params M.top + p.size ≤ st.length) (hsl2 : st.length ≤ 100000) (hb0 : first ≤ baseOf p.isOpen first p.params M.top) :
    exs (callD tab0 (g + 5)) (runB.drop 9) (runM P ps (.int first) v3 j kv vp vo size vd (.tup (encL (.go n row))) c12 c13 c14 c15) (enc P M) =
      some (.cont, runM P ps (.int first) v3 j kv vp vo size vd (.tup (encL (.go n row))) c12 c13 c14 c15, enc P { M with
        tmp := M.tmp ++ [.gone], opens := (ops.drop (high ops base)).map fun q => uref q.1, up := closeUp M.stack (ops.take (high ops base)) M.up
        stack := mvL st func first (baseOf p.isOpen first p.params M.top + p.size - first), frames := fs ++ [fref j]
        fr := (M.fr ++ [frO first (baseOf p.isOpen first p.params M.top) (baseOf p.isOpen first p.params M.top + p.size) (-1) 0]).set j (frO func (func + (baseOf p.isOpen first p.params M.top - first)) (func + (baseOf p.isOpen first p.params M.top + p.size - first)) wanted (tails + 1))
        top := func + (baseOf p.isOpen first p.params M.top + p.size - first) }) := by
  obtain ⟨v, ht⟩ := ok_take_closed P M (g + 3) base ops hO hs
  have hpe : (ps.map encP)[n]? = some (.tup [.int p.params, .bool p.isOpen, .int p.size, .lst (p.deeds.map encD), .tup (encL p.last)]) := by rw [List.getElem?_map, hp]; rfl
  have he := ok_enter P { M with tmp := M.tmp ++ [.gone], opens := (ops.drop (high ops base)).map fun q => uref q.1, up := closeUp M.stack (ops.take (high ops base)) M.up } g (ps.map encP) first n p.params p.size p.isOpen (p.deeds.map encD) (encL p.last) (-1) hn hpe h7 h8 h2 h4 h5 h6
  simp only at he
  rw [← hE] at he
  have hjl := (List.getElem?_eq_some_iff.mp hj).1
  generalize baseOf p.isOpen first p.params M.top = bb at *
  generalize ((ops.drop (high ops base)).map fun q => uref q.1) = ol at *
  generalize closeUp M.stack (ops.take (high ops base)) M.up = ul at *
  have hs := ok_stood_in P { M with tmp := M.tmp ++ [.gone], opens := ol, up := ul, stack := st, frames := M.frames ++ [fref M.fr.length], fr := M.fr ++ [frO first bb (bb + p.size) (-1) 0], top := bb + p.size } (g + 3) fs j M.fr.length func base tp first bb (bb + p.size) (bb + p.size) wanted tails (-1) 0 (by lia) (by simp only; rw [hfs]; simp) (by simp only; rw [List.getElem?_append_left hjl]; exact hj) (by simp) h1 hb0 (by lia) hsl hsl2
  simp only at hs
  generalize callD tab0 (g + 5) = cl at *
  generalize mvL st func first (bb + p.size - first) = st2 at *
  generalize (M.fr ++ [frO first bb (bb + p.size) (-1) 0]).set j (frO func (func + (bb - first)) (func + (bb + p.size - first)) wanted (tails + 1)) = fr2 at *
  generalize M.fr ++ [frO first bb (bb + p.size) (-1) 0] = fr1 at *
  have htest : evT cl (.bop true [.cmp .Eq (.idx (.loc 11) (.con (.int 0))) (.con (.str "go")), .key (.loc 0) .world 8]) (runM P ps (.int first) v3 j kv vp vo size vd (.tup (encL (.go n row))) c12 c13 c14 c15) (enc P M) = some (true, enc P M) := by
    have h8 := w8 P M
    rw [hst] at h8
    exact t_bop (t_and1 rfl (t_and1 (t_key rfl (e_dct P M) h8) rfl))
  exact exs_ite_cont htest (exs_step (x_expr' (r_call r_glob (r_cons (r_key rfl (e_dct P M) rfl) (r_cons (r_attr rfl (f_at hj) rfl) r_nil)) ht))
    (exs_step (x_expr' (r_call r_glob (r_cons rfl (r_cons rfl (r_cons rfl (r_cons r_glob r_nil)))) he))
      (exs_step (ex_top (P := P) (M := { M with tmp := M.tmp ++ [.gone], opens := ol, up := ul, stack := st2, frames := fs ++ [fref j], fr := fr2, top := bb + p.size }) (r_call r_glob (r_cons rfl (r_cons (r_key rfl (e_dct P _) rfl) (r_cons (r_key rfl (e_dct P _) rfl) r_nil))) hs) rfl) rfl)))
end Mine
end
section
set_option maxRecDepth 100000
namespace Mine
variable {P : Bw} {u0 : Nat} {bl : List V} {M : Mc} {S : Sp} {bs : Nat → Nat} {ops : List (Nat × Nat)} {b : Nat} {O : Oc} {F : Fc}
noncomputable def standM (M1 : Mc) (ops : List (Nat × Nat)) (base place first bb size j : Nat) (wanted tails : Int) (fs : List V) (st : List V) : Mc := { M1 with
  tmp := M1.tmp ++ [.gone], opens := (ops.drop (high ops base)).map fun q => uref q.1, up := closeUp M1.stack (ops.take (high ops base)) M1.up
  stack := mvL st place first (bb + size - first), frames := fs ++ [fref j]
  fr := (M1.fr ++ [frO first bb (bb + size) (-1) 0]).set j (frO place (place + (bb - first)) (place + (bb + size - first)) wanted (tails + 1))
  top := place + (bb + size - first) }
noncomputable def standK (M1 : Mc) (ops : List (Nat × Nat)) (base place first k size j : Nat) (wanted tails : Int) (fs : List V) (st : List V) : Mc := { M1 with
  tmp := M1.tmp ++ [.gone], opens := (ops.drop (high ops base)).map fun q => uref q.1, up := closeUp M1.stack (ops.take (high ops base)) M1.up
  stack := mvL st place first (k + size), frames := fs ++ [fref j]
  fr := (M1.fr ++ [frO first (first + k) (first + k + size) (-1) 0]).set j (frO place (place + k) (place + k + size) wanted (tails + 1))
  top := place + k + size }
theorem standM_eq {M1 : Mc} {base place first k size j : Nat} {wanted tails : Int} {fs st : List V} : standM M1 ops base place first (first + k) size j wanted tails fs st = standK M1 ops base place first k size j wanted tails fs st := by
  unfold standM standK
  rw [show first + k + size - first = k + size by rw [Nat.add_assoc, Nat.add_sub_cancel_left], Nat.add_sub_cancel_left, ← Nat.add_assoc]
theorem At.standK (A : At P u0 bl O F M S bs ops b) {n k : Nat} {vals st : List V} {p : Plan} (hat : ∀ v ∈ vals, Atom v) (hl : vals.length ≤ 3) (hp : p.params < p.size) (hp2 : p.size ≤ 10) (hk1 : 0 < k) (hk2 : k ≤ 13)
    (hfb : (if p.isOpen then F.func + 1 + max vals.length p.params else F.func + 1) = F.func + k) (e1 : ∀ j, j ≤ M.top → st[j]? = (pushL M.stack M.top (.int n :: vals))[j]?)
    (e2 : ∀ r v, ((List.range p.size).map fun r => if r < p.params then (vals[r]?).getD .none else .none)[r]? = some v → st[M.top + k + r]? = some v)
    (e3 : p.isOpen = true → 1 + p.params ≤ k ∧ (st.drop (M.top + (1 + p.params))).take (k - (1 + p.params)) = vals.drop p.params) (e5 : st.length ≤ 40 * b + 40) (e6 : M.top + k + p.size ≤ st.length) :
    let M2 := standK { M with stack := pushL M.stack M.top (.int n :: vals), top := M.top + (V.int n :: vals).length } ops (bs O.D) O.place M.top k p.size F.j O.wanted F.tails O.fs st
    At P u0 bl O ⟨F.j, p.size, F.func, if p.isOpen then F.func + 1 + max vals.length p.params else F.func + 1, F.tails + 1⟩ M2 (S.leave.enter p vals F.func) (upd bs O.D (O.place + k)) O.ops0 (b + 1) ∧
      M2.stack[O.place]? = some (.int n) ∧ (p.isOpen = true → O.place + 1 + p.params ≤ upd bs O.D (O.place + k) O.D ∧ (M2.stack.drop (O.place + 1 + p.params)).take (upd bs O.D (O.place + k) O.D - (O.place + 1 + p.params)) = vals.drop p.params) := by
  intro M2
  have R1 := (A.pre (n := n) hat hl).rl
  have hpat := pushL_at M.stack M.top (.int n :: vals) A.topl 0 _ rfl
  obtain ⟨z1, z2, z3, z4, z5, z6, z7, z8⟩ := A.sz
  have hD := A.len
  have hjl := (List.getElem?_eq_some_iff.mp A.fr).1
  have hpm : O.place < M.top := A.top ▸ Nat.lt_of_lt_of_le A.plb (Nat.le_add_right _ _)
  have hlv : S.leave.fs.length = O.D := by rw [leave_fs, List.length_take, hD]; exact Nat.min_eq_left (Nat.le_succ _)
  have hup : upd bs O.D (O.place + k) O.D = O.place + k := if_pos rfl
  have hup2 : ∀ d, d < O.D → upd bs O.D (O.place + k) d = bs d := fun d hd => if_neg (Nat.ne_of_lt hd)
  have hmin : ∀ i, i < k + p.size → M2.stack[O.place + i]? = st[M.top + i]? := fun i hi => mvL_in _ _ _ _ _ (Nat.le_of_lt hpm) hi (by rw [← Nat.add_assoc]; exact e6)
  have hregs : ∀ r v, (((List.range p.size).map fun r => if r < p.params then (vals[r]?).getD .none else .none))[r]? = some v → M2.stack[O.place + k + r]? = some v := fun r v hr => by
    rw [Nat.add_assoc, hmin _ (Nat.add_lt_add_left (fresh_at hr).1 _), ← Nat.add_assoc]
    exact e2 r v hr
  have hfa : ∀ v ∈ ((List.range p.size).map fun r => if r < p.params then (vals[r]?).getD .none else .none), Atom v := fun v hv => by
    obtain ⟨r, _, rfl⟩ := List.mem_map.mp hv
    by_cases q : r < p.params
    · rw [if_pos q]
      cases hr : vals[r]? with
      | none => trivial
      | some w => exact hat w (List.mem_of_getElem? hr)
    · rw [if_neg q]; trivial
  have R3 := (A.leaveRl R1 (M.tmp ++ [.gone])).push (lim := O.place) (base := O.place + k) (st := M2.stack) (f := ⟨(List.range p.size).map fun r => if r < p.params then (vals[r]?).getD .none else .none, F.func, if p.isOpen then F.func + 1 + max vals.length p.params else F.func + 1⟩)
    A.leaveSep (ops0_low A) A.shf (fun j hj => (mvL_low _ _ _ _ _ hj).trans (e1 j (Nat.le_of_lt (Nat.lt_trans hj hpm)))) (Nat.le_add_right _ _) hregs hfa (fun hs => by rw [A.fu hs, Nat.add_assoc, ← hfb])
  rw [hlv] at R3
  refine ⟨⟨R3.re rfl rfl rfl rfl rfl rfl rfl rfl, ?_, fun d hd => (hup2 d hd).trans (A.bases d hd), rfl, ?_, fun i hi => ?_, A.jn, by rw [hup]; rfl, by rw [hup]; exact Nat.lt_add_of_pos_right hk1, A.shf, A.fu, fun q hq => .inl (ops0_low A q hq), ?_, fun d f hd hf => ?_, A.well, by show O.vn ≤ (S.leave.vars).length; rw [leave_vars]; exact A.vn, Nat.lt_of_le_of_lt (Nat.zero_le _) hp, ?_⟩, ?_, fun hio => ?_⟩
  · show (S.leave.fs ++ [_]).map shp = _
    rw [List.map_append, A.leaveShape, List.map_singleton, shp, List.length_map, List.length_range]
  · show (List.set _ _ _)[F.j]? = _
    rw [List.getElem?_set, if_pos rfl, if_pos (by rw [List.length_append]; exact Nat.lt_of_lt_of_le hjl (Nat.le_add_right _ _)), hup]
  · show (List.set _ _ _)[i]? = _
    have hij := Nat.lt_of_lt_of_le hi A.jn
    rw [List.getElem?_set, if_neg (Nat.ne_of_gt hij), List.getElem?_append_left (Nat.lt_trans hij hjl)]
    exact A.old i hi
  · exact List.filter_eq_self.mpr fun q hq => decide_eq_true (ops0_low A q hq)
  · rw [hup2 d hd]
    have h' : (S.leave.fs ++ [_])[d]? = some f := hf
    rw [List.getElem?_append_left (by rw [hlv]; exact hd)] at h'
    exact A.leaveSep d f h'
  · refine ⟨?_, ?_, ?_, Nat.le_succ_of_le z4, Nat.le_succ_of_le z5, Nat.le_succ_of_le z6, ?_, ?_⟩
    · exact (mvL_len ..).symm ▸ e5
    · exact Nat.le_trans (Nat.add_le_add (Nat.add_le_add (Nat.le_trans (Nat.le_of_lt hpm) z2) hk2) hp2) (Nat.add_le_add_left (n := 23) (m := 40) (by decide) (40 * b))
    · show (O.fs ++ [fref F.j]).length ≤ b + 1
      rw [← A.frames]; exact Nat.le_succ_of_le z3
    · exact (closeUp_len ..).symm ▸ Nat.le_trans z7 (Nat.add_le_add_left (Nat.mul_le_mul_left 2 (Nat.le_succ b)) _)
    · rw [← A.low]; exact Nat.le_trans (List.length_filter_le _ _) (Nat.le_trans z8 (Nat.mul_le_mul_left 2 (Nat.le_succ b)))
  · exact ((hmin 0 (Nat.lt_of_lt_of_le hk1 (Nat.le_add_right _ _))).trans (e1 M.top (Nat.le_refl _))).trans hpat
  · obtain ⟨h1, h2⟩ := e3 hio
    rw [hup, Nat.add_assoc O.place 1, Nat.add_sub_add_left, ← h2]
    refine ⟨Nat.add_le_add_left h1 _, List.ext_getElem? fun i => ?_⟩
    by_cases hi : i < k - (1 + p.params)
    · rw [List.getElem?_take, List.getElem?_take, if_pos hi, if_pos hi, List.getElem?_drop, List.getElem?_drop, Nat.add_assoc O.place, Nat.add_assoc M.top, hmin _ (Nat.lt_of_lt_of_le (Nat.add_lt_of_lt_sub' hi) (Nat.le_add_right _ _))]
    · rw [List.getElem?_take, List.getElem?_take, if_neg hi, if_neg hi]
theorem enter_k {io : Bool} {place params l bb : Nat} (h : bb = if io then place + 1 + max l params else place + 1) (hl : l ≤ 4) (hp : params ≤ 9) (func : Nat) :
    ∃ k, bb = place + k ∧ 0 < k ∧ k ≤ 13 ∧ (if io then func + 1 + max l params else func + 1) = func + k ∧ (io = true → 1 + params ≤ k) := by
  cases io with
  | false => exact ⟨1, h, Nat.one_pos, by decide, rfl, fun h => nomatch h⟩
  | true => exact ⟨1 + max l params, h.trans (Nat.add_assoc ..), Nat.lt_of_lt_of_le Nat.one_pos (Nat.le_add_right _ _), Nat.le_trans (Nat.add_le_add_left (Nat.max_le.mpr ⟨Nat.le_trans hl (by decide), hp⟩) 1) (by decide), Nat.add_assoc .., fun _ => Nat.add_le_add_left (Nat.le_max_right _ _) 1⟩
theorem At.stand (A : At P u0 bl O F M S bs ops b) {n : Nat} {vals : List V} {p : Plan} (hat : ∀ v ∈ vals, Atom v) (hl : vals.length ≤ 3) (hp : p.params < p.size) (hp2 : p.size ≤ 10) {bb : Nat} {st : List V}
    (hbb : bb = baseOf p.isOpen M.top p.params (M.top + (V.int n :: vals).length)) (hst : st = enterL (pushL M.stack M.top (.int n :: vals)) p.isOpen M.top p.params p.size (M.top + (V.int n :: vals).length)) :
    let M2 := standM { M with stack := pushL M.stack M.top (.int n :: vals), top := M.top + (V.int n :: vals).length } ops (bs O.D) O.place M.top bb p.size F.j O.wanted F.tails O.fs st
    At P u0 bl O ⟨F.j, p.size, F.func, if p.isOpen then F.func + 1 + max vals.length p.params else F.func + 1, F.tails + 1⟩ M2 (S.leave.enter p vals F.func) (upd bs O.D (O.place + (bb - M.top))) O.ops0 (b + 1) ∧
      M2.stack[O.place]? = some (.int n) ∧ (p.isOpen = true → O.place + 1 + p.params ≤ upd bs O.D (O.place + (bb - M.top)) O.D ∧ (M2.stack.drop (O.place + 1 + p.params)).take (upd bs O.D (O.place + (bb - M.top)) O.D - (O.place + 1 + p.params)) = vals.drop p.params) ∧
      M.top < bb ∧ bb + p.size ≤ st.length ∧ st.length ≤ 40 * b + 60 := by
  have htl := A.topl
  obtain ⟨z1, z2, _⟩ := A.sz
  have hpl1 := pushL_len M.stack M.top (.int n :: vals) htl
  have hpat := pushL_at M.stack M.top (.int n :: vals) htl
  obtain ⟨e1, e2, e3, e4, e5, e6⟩ := enter_spec (pushL M.stack M.top (.int n :: vals)) p.isOpen M.top p.params p.size (M.top + (V.int n :: vals).length) vals (by rw [List.length_cons, Nat.add_assoc, Nat.add_comm 1]) (by rw [hpl1]; exact Nat.le_max_right _ _) (fun i v hi => by rw [Nat.add_assoc, Nat.add_comm 1]; exact hpat (i + 1) v hi) (Nat.le_of_lt hp)
  rw [← hst] at e1
  rw [← hbb] at e4
  rw [← hst, ← hbb] at e2 e3 e5 e6
  obtain ⟨k, hk, hk1, hk2, hfb, hk3⟩ := enter_k e4 (Nat.le_succ_of_le hl) (Nat.le_of_lt_succ (Nat.lt_of_lt_of_le hp hp2)) F.func
  clear hbb hst e4
  subst hk
  have h5 : st.length ≤ 40 * b + 40 := by
    refine Nat.le_trans e5 (Nat.max_le.mpr ⟨?_, ?_⟩)
    · rw [hpl1, List.length_cons]; exact Nat.max_le.mpr ⟨Nat.le_trans z1 (Nat.le_add_right _ _), Nat.add_le_add z2 (Nat.le_trans (Nat.succ_le_succ hl) (by decide))⟩
    · exact Nat.le_trans (Nat.add_le_add (Nat.add_le_add (Nat.add_le_add z2 hk2) (Nat.le_of_lt (Nat.lt_of_lt_of_le hp hp2))) hp2) (Nat.add_le_add_left (n := 33) (m := 40) (by decide) (40 * b))
  rw [standM_eq, Nat.add_sub_cancel_left]
  obtain ⟨h1, h2, h3⟩ := A.standK hat hl hp hp2 hk1 hk2 hfb e1 e2 (fun hio => ⟨hk3 hio, by have := e3 hio; rwa [Nat.add_assoc M.top 1, Nat.add_sub_add_left] at this⟩) h5 e6
  exact ⟨h1, h2, h3, Nat.lt_add_of_pos_right hk1, e6, Nat.le_trans h5 (Nat.add_le_add_left (by decide) _)⟩
end Mine
end
section
set_option maxRecDepth 100000
namespace Mine
theorem t_last {cl : CallF} {e : ME} {m : List V} {σ σ₁ : St} {c : Bool} (h : evT cl e m σ = some (c, σ₁)) : evA cl true [e] m σ = some (c, σ₁) := match c, h with
  | true, h => t_and1 h rfl
  | false, h => t_and0 h
variable {P : Bw} {u0 : Nat} {bl : List V}
noncomputable def HeadOk (P : Bw) (u0 : Nat) (bl : List V) (ps : List Plan) (k : Nat) : Prop := ∀ (g n : Nat) (p : Plan) (args : List V) (O : Oc) (F : Fc) (M : Mc) (S : Sp) (bs : Nat → Nat) (ops : List (Nat × Nat)) (b W : Nat) (v2 v3 a4 a5 a6 a7 a8 a9 a10 a11 a12 a13 a14 a15 : V),
  2 * k + 11 ≤ g → n < k + 1 → ps[n]? = some p → At P u0 bl O F M S bs ops b → F.size = p.size → M.stack[O.place]? = some (.int n) →
  (p.isOpen = true → O.place + 1 + p.params ≤ bs O.D ∧ (M.stack.drop (O.place + 1 + p.params)).take (bs O.D - (O.place + 1 + p.params)) = args.drop p.params) → (∀ v ∈ args, Atom v) → WOk O.wanted → b + hcost k ≤ 1000 → k + 2 ≤ W →
  ∃ m' M', loopW (evT (callD tab0 g) (.con (.bool true))) (exs (callD tab0 g) runB) W [wref P, plsV ps, v2, v3, a4, a5, a6, a7, a8, a9, a10, a11, a12, a13, a14, a15] (enc P M) = some (.ret (.bool (Sp.work (runS ps k) p args F.func S).1.isSome), m', enc P M') ∧
    PoR P u0 bl O (b + hcost k) (Sp.work (runS ps k) p args F.func S).1 (Sp.work (runS ps k) p args F.func S).2 M'
theorem loopW_ret {t : List V → St → Option (Bool × St)} {bd : List V → St → Option (Fl × List V × St)} {W : Nat} {m m' : List V} {σ σ' : St} {v : V} (ht : t m σ = some (true, σ)) (hb : bd m σ = some (.ret v, m', σ')) : loopW t bd (W + 1) m σ = some (.ret v, m', σ') := bind_eq ht (if_eq rfl (bind_eq hb rfl))
theorem loopW_cont {t : List V → St → Option (Bool × St)} {bd : List V → St → Option (Fl × List V × St)} {W : Nat} {m m' : List V} {σ σ' : St} (ht : t m σ = some (true, σ)) (hb : bd m σ = some (.cont, m', σ')) : loopW t bd (W + 1) m σ = loopW t bd W m' σ' := bind_eq ht (if_eq rfl (bind_eq hb rfl))
variable {M : Mc} {S : Sp} {bs : Nat → Nat} {ops : List (Nat × Nat)} {b : Nat} {O : Oc} {F : Fc}
theorem head_ret {row : List Nat} {g : Nat} (A : At P u0 bl O F M S bs ops b) (hb : b + 1 ≤ 1000) (hrow : RowOk F.size row) (hw : WOk O.wanted) (ps : List Plan) (v2 v3 kv vp vo vd x12 x13 a14 a15 : V) :
    ∃ m' M', exs (callD tab0 (g + 4)) (runB.drop 6) (runM P ps v2 v3 F.j kv vp vo F.size vd (.tup (encL (.ret row))) x12 x13 a14 a15) (enc P M) = some (.ret (.bool true), m', enc P M') ∧ PoS P u0 bl O (b + 2) (S.row row) S.leave M' := by
  have hvl := row_len (S := S) hrow.1
  have htl := A.topl
  have hpm := Nat.le_of_lt A.pm
  have z := A.sz.push (vals := S.row row) (Nat.le_succ_of_le hvl) htl
  have hst : M.top + (S.row row).length ≤ (pushL M.stack M.top (S.row row)).length := by rw [pushL_len _ _ _ htl]; exact Nat.le_max_right _ _
  have R4 : Rl P u0 bl (M.pushM (S.row row)) S bs ops := (A.rl.above (lim := M.top) A.sepT A.opl (Nat.le_trans A.shf hpm) fun i hi => pushL_low _ _ _ htl i hi).re rfl rfl rfl rfl rfl rfl rfl rfl
  obtain ⟨m', hfin⟩ := run_finish (M := M.pushM (S.row row)) ps g F.j O.place (bs O.D) (bs O.D + F.size) F.size M.top O.wanted F.tails v3 kv vp vo vd (.tup (encL (.ret row))) x12 x13 (.lst (row.map fun r => (M.stack[bs O.D + r]?).getD .none)) a15 O.fs A.frames A.fr hw R4.opo (fun q hq => R4.opl hq) hpm rfl hst (Nat.le_trans (big_of z.stack hb) (by decide))
  exact ⟨m', _, run_push M _ (callD tab0 (g + 4)) ps v2 v3 kv vp vo vd x12 x13 a14 a15 F.j F.size O.place (bs O.D) (bs O.D + F.size) O.wanted F.tails (.ret row) row (S.row row) (.inl ⟨rfl, (A.row hrow.2).symm⟩) A.fr (A.inl hrow.2) hrow.1
      (ok_push P M (g + 3) (S.row row) (Nat.le_trans (big_of z.top hb) (by decide)) (Nat.le_trans (big_of A.sz.stack (Nat.le_of_succ_le hb)) (by decide))) (run_ret_skip _ _ _ _ _ _ _ _ _ _ _ _ _ _ _ _ hfin),
    post_done (O := O) (first := M.top) (b := b + 1) (A.leaveRl R4 (M.tmp ++ [.gone])) (r := S.row row) A.bases A.leaveShape A.leaveSep (ops0_low A) A.shf (fun i v hi => pushL_at _ _ _ htl i v hi) hpm hst A.old (Nat.le_trans A.jn (Nat.le_of_lt A.frl)) A.well (by rw [leave_vars]; exact A.vn) (row_atoms A.rl.sok row) hvl hw
      (z.shut A.low) (Nat.le_of_succ_le (Nat.le_succ_of_le A.fsl))⟩
theorem head_stand {row : List Nat} {n g : Nat} {p : Plan} {ps : List Plan} (A : At P u0 bl O F M S bs ops b) (hb : b + 2 ≤ 1000) (hrow : RowOk F.size row) (hstd : P.stands = true) (hpn : ps[n]? = some p) (hp : p.params < p.size) (hp2 : p.size ≤ 10) (v2 v3 kv vp vo vd x12 x13 a14 a15 : V) :
    ∃ M' bs', exs (callD tab0 (g + 5)) (runB.drop 6) (runM P ps v2 v3 F.j kv vp vo F.size vd (.tup (encL (.go n row))) x12 x13 a14 a15) (enc P M) = some (.cont, runM P ps (.int M.top) v3 F.j kv vp vo F.size vd (.tup (encL (.go n row))) x12 x13 (.lst (S.row row)) a15, enc P M') ∧
      At P u0 bl O ⟨F.j, p.size, F.func, if p.isOpen then F.func + 1 + max (S.row row).length p.params else F.func + 1, F.tails + 1⟩ M' (S.leave.enter p (S.row row) F.func) bs' O.ops0 (b + 1) ∧ M'.stack[O.place]? = some (.int n) ∧
      (p.isOpen = true → O.place + 1 + p.params ≤ bs' O.D ∧ (M'.stack.drop (O.place + 1 + p.params)).take (bs' O.D - (O.place + 1 + p.params)) = (S.row row).drop p.params) := by
  have hvl := row_len (S := S) hrow.1
  have htl := A.topl
  have hat := row_atoms A.rl.sok row
  have hvals := A.row hrow.2
  have Pq := A.pre (n := n) hat hvl
  obtain ⟨A4, g1, g2, g3, g4, g5⟩ := A.stand (n := n) (p := p) hat hvl hp hp2 rfl rfl
  have hstand := run_stand (P := P) (ops := ops) ps (M.pushM (.int n :: S.row row)) g F.j O.place (bs O.D) (bs O.D + F.size) F.size M.top n O.wanted F.tails row p v3 kv vp vo vd x12 x13 (.lst (S.row row)) a15 O.fs hstd A.frames A.fr Pq.rl.opo (fun q hq => Pq.rl.opl hq) Pq.at0 hpn (Nat.le_of_lt A.pm) (Nat.lt_add_of_pos_right (Nat.succ_pos _)) Pq.topl
    (Nat.le_trans (big_of Pq.sz.stack (Nat.le_of_succ_le hb)) (by decide)) (big_of Pq.sz.top (Nat.le_of_succ_le hb)) (Nat.le_trans Pq.sz.frames (Nat.le_trans (Nat.le_of_succ_le hb) (by decide))) (Nat.le_of_lt hp) (Nat.le_trans hp2 (by decide)) _ rfl g4 (Nat.le_trans g5 (Nat.le_trans (Nat.add_le_add_right (Nat.mul_le_mul_left 40 (Nat.le_of_succ_le (Nat.le_of_succ_le hb))) 60) (by decide))) (Nat.le_of_lt g3)
  have hpush := fun R h => run_push M _ (callD tab0 (g + 5)) ps v2 v3 kv vp vo vd x12 x13 a14 a15 F.j F.size O.place (bs O.D) (bs O.D + F.size) O.wanted F.tails (.go n row) row (.int n :: S.row row) (.inr ⟨n, rfl, by rw [hvals]⟩) A.fr (A.inl hrow.2) hrow.1
    (ok_push P M (g + 4) (.int n :: S.row row) (Nat.le_trans (big_of Pq.sz.top (Nat.le_of_succ_le hb)) (by decide)) (Nat.le_trans (big_of A.sz.stack (Nat.le_of_succ_le (Nat.le_of_succ_le hb))) (by decide))) (R := R) h
  have hpush : ∀ R, exs (callD tab0 (g + 5)) (runB.drop 9) (runM P ps (.int M.top) v3 F.j kv vp vo F.size vd (.tup (encL (.go n row))) x12 x13 (.lst (S.row row)) a15) (enc P (M.pushM (.int n :: S.row row))) = R → _ = R := hvals ▸ hpush
  exact ⟨_, _, hpush _ hstand, A4, g1, g2⟩
theorem head_run {row : List Nat} {n k g : Nat} {ps : List Plan} (RO : RunOk P u0 bl ps k) (A : At P u0 bl O F M S bs ops b) (hg : 2 * k + 10 ≤ g + 4) (hn : n < k) (hnl : n < ps.length) (hb : b + 1 + cost k ≤ 1000) (hrow : RowOk F.size row) (hw : WOk O.wanted) (hstd : P.stands = false) (v2 v3 kv vp vo vd x12 x13 a14 a15 : V) :
    ∃ m' M', exs (callD tab0 (g + 4)) (runB.drop 6) (runM P ps v2 v3 F.j kv vp vo F.size vd (.tup (encL (.go n row))) x12 x13 a14 a15) (enc P M) = some (.ret (.bool (runS ps k n (S.row row) F.func S.leave).1.isSome), m', enc P M') ∧
      PoR P u0 bl O (b + 1 + cost k + 1) (runS ps k n (S.row row) F.func S.leave).1 (runS ps k n (S.row row) F.func S.leave).2 M' := by
  have hvl := row_len (S := S) hrow.1
  have hvals := A.row hrow.2
  have hpm := A.pm
  have Pq := A.pre (n := n) (row_atoms A.rl.sok row) hvl
  have hlv : S.leave.fs.length = O.D := by rw [leave_fs, List.length_take, A.len]; exact Nat.min_eq_left (Nat.le_succ _)
  have hvn : O.vn ≤ S.leave.vars.length := by rw [leave_vars]; exact A.vn
  have Pq2 : PrR P u0 bl n (S.row row) F.func S.leave (M.pushM (.int n :: S.row row)) bs ops M.top (b + 1) :=
    ⟨A.fade Pq.rl hstd, Pq.at0, Pq.argv, Pq.top, Pq.topl, Pq.atoms, Pq.few, fun d f' h => Nat.le_trans (A.leaveSep d f' h) (Nat.le_of_lt hpm), Pq.opl, Pq.shf, fun hs => (nomatch hs.symm.trans hstd), Pq.sz⟩
  have hb1 : b + 1 ≤ 1000 := Nat.le_trans (Nat.le_add_right _ _) hb
  have hpush := fun R h => run_push M _ (callD tab0 (g + 4)) ps v2 v3 kv vp vo vd x12 x13 a14 a15 F.j F.size O.place (bs O.D) (bs O.D + F.size) O.wanted F.tails (.go n row) row (.int n :: S.row row) (.inr ⟨n, rfl, by rw [hvals]⟩) A.fr (A.inl hrow.2) hrow.1
    (ok_push P M (g + 3) (.int n :: S.row row) (Nat.le_trans (big_of Pq.sz.top hb1) (by decide)) (Nat.le_trans (big_of A.sz.stack (Nat.le_of_succ_le hb1)) (by decide))) (R := R) h
  have hpush : ∀ R, exs (callD tab0 (g + 4)) (runB.drop 9) (runM P ps (.int M.top) v3 F.j kv vp vo F.size vd (.tup (encL (.go n row))) x12 x13 (.lst (S.row row)) a15) (enc P (M.pushM (.int n :: S.row row))) = R → _ = R := hvals ▸ hpush
  obtain ⟨M5, hrun, hpost⟩ := RO (g + 4) n (S.row row) F.func S.leave _ bs ops M.top (-1) _ hg hn hnl Pq2 (.inl rfl) hb
  generalize runS ps k n (S.row row) F.func S.leave = rs at *
  obtain ⟨res, S5⟩ := rs
  have h8 := w8 P (M.pushM (.int n :: S.row row))
  rw [hstd] at h8
  have hskip : evT (callD tab0 (g + 4)) (.bop true [.cmp .Eq (.idx (.loc 11) (.con (.int 0))) (.con (.str "go")), .key (.loc 0) .world 8]) (runM P ps (.int M.top) v3 F.j kv vp vo F.size vd (.tup (encL (.go n row))) x12 x13 (.lst (S.row row)) a15) (enc P (M.pushM (.int n :: S.row row))) = some (false, _) := t_bop (t_and1 rfl (t_and0 (t_key rfl (e_dct P _) h8)))
  have htest : evT (callD tab0 (g + 4)) (.bop true [.cmp .Eq (.idx (.loc 11) (.con (.int 0))) (.con (.str "go")), .not (.call (.glob "_law_run" (.fn 39)) [.loc 0, .loc 1, .loc 2, .glob "_law_all" (.int (-1))])]) (runM P ps (.int M.top) v3 F.j kv vp vo F.size vd (.tup (encL (.go n row))) x12 x13 (.lst (S.row row)) a15) (enc P (M.pushM (.int n :: S.row row))) = some (!res.isSome, enc P M5) :=
    t_bop (t_and1 rfl (t_last (t_not (t_call rfl rfl hrun))))
  have hold : ∀ {M5 : Mc}, (∀ i, i < M.fr.length → M5.fr[i]? = M.fr[i]?) → ∀ i, i < O.fr0.length → M5.fr[i]? = O.fr0[i]? := fun h i hi => (h i (Nat.lt_of_lt_of_le hi (Nat.le_trans A.jn (Nat.le_of_lt A.frl)))).trans (A.old i hi)
  have hfrl := Nat.le_trans A.jn (Nat.le_of_lt A.frl)
  cases res with
  | some r =>
    have hpost : PoS P u0 bl (ocOf S.leave (M.pushM (.int n :: S.row row)) bs ops M.top (-1)) (b + 1 + cost k) r S5 M5 := hpost
    have q1 : Rl P u0 bl M5 S5 bs ops := hpost.rl
    obtain ⟨m', hfin⟩ := run_finish (M := M5) (ops := ops) (P := P) ps g F.j O.place (bs O.D) (bs O.D + F.size) F.size M.top O.wanted F.tails v3 kv vp vo vd (.tup (encL (.go n row))) x12 x13 (.lst (S.row row)) a15 O.fs (hpost.frames.trans A.frames) ((hpost.old _ A.frl).trans A.fr) hw q1.opo (fun q hq => q1.opl hq) (Nat.le_of_lt hpm) hpost.top hpost.topl (Nat.le_trans (big_of hpost.sz.stack hb) (by decide))
    have hsep5 : ∀ d f', S5.fs[d]? = some f' → bs d + f'.regs.length ≤ O.place := fun d f' h => by
      obtain ⟨f0, h0, e⟩ := shp_get (S := S.leave) (S' := S5) (n := S5.fs.length) (by rw [hpost.shape]; rfl) (List.getElem?_eq_some_iff.mp h).1 h
      have e1 : f0.regs.length = f'.regs.length := congrArg Prod.fst e
      exact e1 ▸ A.leaveSep d f0 h0
    have R6 := q1.shutDead hstd (level := bs O.D) (fun d f' h => Nat.le_trans (hsep5 d f' h) (Nat.le_of_lt A.plb)) (M5.tmp ++ [.gone])
    rw [A.lowb] at R6
    exact ⟨m', _, hpush _ (exs_skip hskip (exs_skip (σ₁ := enc P M5) htest hfin)),
      post_done (O := O) (first := M.top) (b := b + 1 + cost k) R6 (r := r) A.bases (hpost.shape.trans A.leaveShape) hsep5 (ops0_low A) A.shf hpost.res (Nat.le_of_lt hpm) (hpost.top ▸ hpost.topl) (hold hpost.old) (Nat.le_trans hfrl hpost.frl) (hpost.well.trans A.well) (Nat.le_trans hvn hpost.vn) hpost.atoms hpost.few hw
        (hpost.sz.shut A.low) (Nat.le_trans (Nat.le_of_succ_le A.fsl) (Nat.le_trans (Nat.le_succ _) (Nat.le_add_right _ _)))⟩
  | none =>
    obtain ⟨bs', ops', ext, hpost⟩ := (hpost : ∃ bs' ops' ext, PoF P u0 bl (ocOf S.leave (M.pushM (.int n :: S.row row)) bs ops M.top (-1)) (b + 1 + cost k) S5 M5 bs' ops' ext)
    have hD : (ocOf S.leave (M.pushM (.int n :: S.row row)) bs ops M.top (-1)).D = O.D := (List.length_map ..).trans hlv
    refine ⟨_, M5, hpush _ (exs_skip hskip (bind_eq (x_if1 htest (exs_ret rfl)) rfl)), bs', ops', fref F.j :: ext, hpost.rl, ?_, fun d hd => (hpost.bases d (hD.symm ▸ hd)).trans (A.bases d hd), fun d f' hd h => Nat.le_trans (Nat.le_of_lt hpm) (hpost.high d f' (hD.symm ▸ hd) h), ?_, ?_, hold hpost.old, Nat.le_trans hfrl hpost.frl, hpost.well.trans A.well, Nat.le_trans hvn hpost.vn, hpost.sz.mono (Nat.le_succ _)⟩
    · rw [← hD]; exact hpost.shape.trans A.leaveShape
    · rw [← A.low, ← show lows M.top ops' = ops from hpost.low]
      unfold lows
      rw [List.filter_filter]
      refine List.filter_congr fun q _ => ?_
      by_cases hq : q.2 < O.place
      · rw [decide_eq_true hq, decide_eq_true (Nat.lt_trans hq hpm)]; rfl
      · rw [decide_eq_false hq]; rfl
    · rw [hpost.frames, show (ocOf S.leave (M.pushM (.int n :: S.row row)) bs ops M.top (-1)).fs = O.fs ++ [fref F.j] from A.frames, List.append_assoc]; rfl
theorem headOk {ps : List Plan} {k : Nat} (hps : PlansOk ps) (hu0 : u0 ≤ 5000) (RO : RunOk P u0 bl ps k) (HO : ∀ k', k = k' + 1 → HeadOk P u0 bl ps k') : HeadOk P u0 bl ps k := by
  intro g n p args O F M S bs ops b W v2 v3 a4 a5 a6 a7 a8 a9 a10 a11 a12 a13 a14 a15 hg hn hpn A hsz hat0 hopen hargs hw hb hW
  have hnl := (List.getElem?_eq_some_iff.mp hpn).1
  have PO := hps.2 n p hpn
  have hps1 := PO.params
  have hps2 := PO.size
  obtain ⟨W, rfl⟩ : ∃ w, W = w + 1 := ⟨W - 1, by lia⟩
  unfold hcost at hb ⊢
  have hkept : (M.made.getLast?).getD (.lst []) = keptV u0 ((S.made.getLast?).getD []) := by
    rw [A.rl.made, List.getLast?_map]
    cases S.made.getLast? with
    | none => rfl
    | some l => simp
  have hkok : ∀ x ∈ (S.made.getLast?).getD [], x < S.vars.length := fun x hx => by
    cases hl : S.made.getLast? with
    | none => rw [hl] at hx; simp at hx
    | some l => rw [hl] at hx; exact A.rl.madeOk l (List.mem_of_getLast? hl) x hx
  have A1 := A.begun p args hsz hargs
  obtain ⟨M3, ops3, x12, x13, hL, A3, hv3⟩ := deedsOk RO hu0 g hg ((S.made.getLast?).getD []) (n := n) (by lia) (by lia) v2 v3 (.int p.params) (.bool p.isOpen) (.lst (p.deeds.map encD)) (.tup (encL p.last)) a14 a15 p.deeds _ _ _ _ a12 a13 A1 hkok (fun x hx => by rw [hsz]; exact PO.deeds x hx) (by
    have := PO.few
    have h2 : p.deeds.length * (2 + cost k) ≤ 2 * (2 + cost k) := Nat.mul_le_mul_right _ this
    omega)
  have hdl : p.deeds.length * (2 + cost k) ≤ 2 * (2 + cost k) := Nat.mul_le_mul_right _ PO.few
  have A3 := A3.mono (show b + 1 + p.deeds.length * (2 + cost k) ≤ b + 5 + 2 * cost k by lia)
  have body : ∀ R, exs (callD tab0 g) (runB.drop 6) (runM P ps v2 v3 F.j (keptV u0 ((S.made.getLast?).getD [])) (.int p.params) (.bool p.isOpen) p.size (.lst (p.deeds.map encD)) (.tup (encL p.last)) x12 x13 a14 a15) (enc P M3) = R →
      exs (callD tab0 g) runB [wref P, plsV ps, v2, v3, a4, a5, a6, a7, a8, a9, a10, a11, a12, a13, a14, a15] (enc P M) = R := by
    intro R hR
    have hbeg := run_begin A ps (g - 2) p args hsz hargs (by lia) hopen v2 v3 (keptV u0 ((S.made.getLast?).getD [])) (.lst (p.deeds.map encD)) (.tup (encL p.last)) a12 a13 a14 a15 (R := R)
    rw [show g - 2 + 2 = g by lia] at hbeg
    have hhd := run_head P ps M (callD tab0 g) v2 v3 F.j n O.place (bs O.D) (bs O.D + F.size) O.wanted F.tails O.fs p a4 a5 a6 a7 a8 a9 a10 a11 a12 a13 a14 a15 A.frames A.fr hat0 hpn (by have := A.sz.made; lia) (r := runB.drop 2) (R := R)
    rw [List.take_append_drop, hkept] at hhd
    refine hhd (hbeg ?_)
    rw [hsz] at hL
    generalize keptV u0 ((S.made.getLast?).getD []) = kv at *
    refine exs_step (x_forS' (vs := p.deeds.map encD) (B := deedsB) rfl hL) hR
  have hT : ∀ m σ, evT (callD tab0 g) (.con (.bool true)) m σ = some (true, σ) := fun _ _ => rfl
  unfold Sp.work
  simp only
  generalize hS1 : Sp.deeds (runS ps k) ((S.made.getLast?).getD []) p.deeds (S.begin p args) = S1 at *
  rw [← hsz] at body
  have hlast := PO.last
  rw [← hsz] at hlast
  have hbk : b + 5 + 2 * cost k + 2 + cost k ≤ 1000 := by lia
  clear hdl hps1 hps2 hkok hkept hL A1 hsz hopen hat0 hargs A
  generalize keptV u0 ((S.made.getLast?).getD []) = kv at *
  have hle : ∀ n, n ≤ 5 + cost k → b + 5 + 2 * cost k + 2 + n ≤ b + (12 + 3 * cost k) := fun n hn => by lia
  cases hpl : p.last with
  | fail =>
    rw [hpl] at body
    exact ⟨_, M3, loopW_ret (hT _ _) (body _ (run_fail ..)), _, _, _, A3.failed.mono (by lia)⟩
  | ret row =>
    rw [hpl] at body hlast
    obtain ⟨g, rfl⟩ : ∃ g', g = g' + 4 := ⟨g - 4, by lia⟩
    obtain ⟨m', M', h1, h2⟩ := head_ret (g := g) A3 (Nat.le_trans (Nat.le_trans (Nat.le_succ _) (Nat.le_add_right _ _)) hbk) hlast hw ps v2 v3 kv (.int p.params) (.bool p.isOpen) (.lst (p.deeds.map encD)) x12 x13 a14 a15
    exact ⟨m', M', loopW_ret (hT _ _) (body _ h1), h2.mono (hle 0 (Nat.zero_le _))⟩
  | go n' row =>
    rw [hpl] at body hlast
    obtain ⟨hn', hrow⟩ := hlast
    simp only
    have hnk := Nat.lt_of_lt_of_le hn' (Nat.le_of_lt_succ hn)
    cases hstd : P.stands with
    | true =>
      obtain ⟨g, rfl⟩ : ∃ g', g = g' + 5 := ⟨g - 5, by lia⟩
      obtain ⟨k', rfl⟩ : ∃ k', k = k' + 1 := ⟨k - 1, by lia⟩
      have hpn' := List.getElem?_eq_getElem (Nat.lt_trans hn' hnl)
      have PO' := hps.2 n' _ hpn'
      obtain ⟨M4, bs4, h0, A4, g1, g2⟩ := head_stand (g := g) A3 (Nat.le_trans (Nat.le_add_right _ _) hbk) hrow hstd hpn' PO'.params PO'.size v2 v3 kv (.int p.params) (.bool p.isOpen) (.lst (p.deeds.map encD)) x12 x13 a14 a15
      have hcost : hcost k' + 2 = cost (k' + 1) := by unfold hcost; rw [cost, Nat.add_right_comm]
      obtain ⟨m', M', h1, h2⟩ := HO k' rfl (g + 5) n' _ (S1.row row) O _ _ _ _ _ _ W (.int M3.top) v3 (fref F.j) (sref P) kv (.int p.params) (.bool p.isOpen) (.int F.size) (.lst (p.deeds.map encD)) (.tup (encL (.go n' row))) x12 x13 (.lst (S1.row row)) a15 (by lia) hnk hpn' A4 rfl g1 g2 (row_atoms A3.rl.sok row) hw (by lia) (by lia)
      have hspec : runS ps (k' + 1) n' (S1.row row) F.func S1.leave = Sp.work (runS ps k') ps[n'] (S1.row row) F.func (S1.leave.enter ps[n'] (S1.row row) F.func) := by
        rw [runS]; simp only [hpn']
      rw [hspec]
      exact ⟨m', M', (loopW_cont (hT _ _) (body _ h0)).trans h1, h2.mono (by lia)⟩
    | false =>
      obtain ⟨g, rfl⟩ : ∃ g', g = g' + 4 := ⟨g - 4, by lia⟩
      obtain ⟨m', M', h1, h2⟩ := head_run (g := g) RO A3 (Nat.le_of_succ_le hg) hnk (Nat.lt_trans hn' hnl) (Nat.le_trans (Nat.add_le_add_right (Nat.le_succ _) _) hbk) hrow hw hstd v2 v3 kv (.int p.params) (.bool p.isOpen) (.lst (p.deeds.map encD)) x12 x13 a14 a15
      exact ⟨m', M', loopW_ret (hT _ _) (body _ h1), h2.mono (by lia)⟩
end Mine
end
section
set_option maxRecDepth 100000
namespace Mine
theorem exs_fl {cl : CallF} {t : ME} {b r : List MS} {m m' : List V} {σ σ' : St} {v : V} (h : loopW (evT cl t) (exs cl b) WF m σ = some (.ret v, m', σ')) : exs cl (.whil t b :: r) m σ = some (.ret v, m', σ') := bind_eq h rfl
variable {P : Bw} {u0 : Nat} {bl : List V}
theorem cost_ge : ∀ k, k ≤ cost k
  | 0 => Nat.le_refl _
  | k + 1 => by have := cost_ge k; rw [cost]; lia
variable {M : Mc} {S : Sp} {bs : Nat → Nat} {ops : List (Nat × Nat)}
theorem PrR.enter {n func place b k : Nat} {args st : List V} {wanted : Int} {p : Plan} (Pq : PrR P u0 bl n args func S M bs ops place b) (hp : p.params < p.size) (hp2 : p.size ≤ 10) (hk1 : 0 < k) (hk2 : k ≤ 13)
    (hfb : (if p.isOpen then func + 1 + max args.length p.params else func + 1) = func + k) (e1 : ∀ i, i ≤ place → st[i]? = M.stack[i]?) (e2 : ∀ r v, ((List.range p.size).map fun r => if r < p.params then (args[r]?).getD .none else .none)[r]? = some v → st[place + k + r]? = some v)
    (hup : upd bs S.fs.length (place + k) (ocOf S M bs ops place wanted).D = place + k) (e5 : st.length ≤ 40 * b + 40) :
    At P u0 bl (ocOf S M bs ops place wanted) ⟨M.fr.length, p.size, func, if p.isOpen then func + 1 + max args.length p.params else func + 1, 0⟩
      { M with stack := st, frames := M.frames ++ [fref M.fr.length], fr := M.fr ++ [frO place (place + k) (place + k + p.size) wanted 0], top := place + k + p.size } (S.enter p args func) (upd bs S.fs.length (place + k)) ops (b + 1) := by
  have hD : (ocOf S M bs ops place wanted).D = S.fs.length := List.length_map ..
  have z := Pq.sz
  have hpt : place ≤ M.top := Pq.top ▸ Nat.le_trans (Nat.le_succ _) (Nat.le_add_right _ _)
  have hup2 : ∀ d, d < S.fs.length → upd bs S.fs.length (place + k) d = bs d := fun d hd => if_neg (Nat.ne_of_lt hd)
  have hfa : ∀ v ∈ ((List.range p.size).map fun r => if r < p.params then (args[r]?).getD .none else .none), Atom v := fun v hv => by
    obtain ⟨r, _, rfl⟩ := List.mem_map.mp hv
    by_cases q : r < p.params
    · rw [if_pos q]
      cases hr : args[r]? with
      | none => trivial
      | some w => exact Pq.atoms w (List.mem_of_getElem? hr)
    · rw [if_neg q]; trivial
  have R3 := Pq.rl.push (lim := place) (base := place + k) (st := st) (f := ⟨(List.range p.size).map fun r => if r < p.params then (args[r]?).getD .none else .none, func, if p.isOpen then func + 1 + max args.length p.params else func + 1⟩)
    Pq.seps Pq.opl Pq.shf (fun i hi => e1 i (Nat.le_of_lt hi)) (Nat.le_add_right _ _) e2 hfa (fun hs => by rw [Pq.fu hs, Nat.add_assoc, ← hfb])
  refine ⟨R3.re rfl rfl rfl rfl rfl rfl rfl rfl, ?_, fun d hd => hup2 d (hD ▸ hd), rfl, ?_, fun i hi => List.getElem?_append_left hi, Nat.le_refl _, by rw [hup], by rw [hup]; exact Nat.lt_add_of_pos_right hk1, Pq.shf, Pq.fu, fun q hq => .inl (Pq.opl q hq), List.filter_eq_self.mpr fun q hq => decide_eq_true (Pq.opl q hq), fun d f hd hf => ?_, rfl, Nat.le_refl _, Nat.lt_of_le_of_lt (Nat.zero_le _) hp,
    ⟨e5, Nat.le_trans (Nat.add_le_add (Nat.add_le_add (Nat.le_trans hpt z.top) hk2) hp2) (Nat.add_le_add_left (n := 23) (m := 40) (by decide) (40 * b)), (List.length_append ..).symm ▸ Nat.succ_le_succ z.frames, Nat.le_succ_of_le z.notes, Nat.le_succ_of_le z.places, Nat.le_succ_of_le z.made, Nat.le_trans z.up (Nat.add_le_add_left (Nat.le_add_right _ 2) _), Nat.le_trans z.ops (Nat.le_add_right _ 2)⟩⟩
  · show (S.fs ++ [_]).map shp = S.fs.map shp ++ _
    rw [List.map_append, List.map_singleton, shp, List.length_map, List.length_range]
  · show (M.fr ++ [_])[M.fr.length]? = _
    rw [hup, List.getElem?_append_right (Nat.le_refl _), Nat.sub_self]; rfl
  · have hd' : d < S.fs.length := hD ▸ hd
    rw [hup2 d hd']
    have h' : (S.fs ++ [_])[d]? = some f := hf
    rw [List.getElem?_append_left hd'] at h'
    exact Pq.seps d f h'
theorem runOk_succ {ps : List Plan} {k : Nat} (hps : PlansOk ps) (HO : HeadOk P u0 bl ps k) : RunOk P u0 bl ps (k + 1) := by
  intro g n args func S M bs ops place wanted b hg hn hnl Pq hw hb
  obtain ⟨g, rfl⟩ : ∃ g', g = g' + 6 := ⟨g - 6, (Nat.sub_add_cancel (Nat.le_trans (Nat.le_trans (by decide) (Nat.le_add_left 10 _)) hg)).symm⟩
  have hpn := List.getElem?_eq_getElem hnl
  generalize ps[n] = p at hpn
  have PO := hps.2 n p hpn
  have hps1 := PO.params
  have hps2 := PO.size
  have hcost : b + 1 + hcost k + 1 = b + cost (k + 1) := by unfold hcost; rw [cost, Nat.add_right_comm b, Nat.add_assoc b, Nat.add_assoc b]; exact congrArg (b + ·) (by lia)
  have z := Pq.sz
  have hpt : place < M.top := Pq.top ▸ Nat.lt_of_lt_of_le (Nat.lt_succ_self _) (Nat.le_add_right _ _)
  have hb1 : b ≤ 1000 := Nat.le_trans (Nat.le_add_right _ _) hb
  obtain ⟨e1, e2, e3, e4, e5, e6⟩ := enter_spec M.stack p.isOpen place p.params p.size M.top args Pq.top Pq.topl Pq.argv (Nat.le_of_lt hps1)
  have hpe : (ps.map encP)[n]? = some (.tup [.int p.params, .bool p.isOpen, .int p.size, .lst (p.deeds.map encD), .tup (encL p.last)]) := by rw [List.getElem?_map, hpn]; rfl
  have he := ok_enter P M g (ps.map encP) place n p.params p.size p.isOpen (p.deeds.map encD) (encL p.last) wanted Pq.at0 hpe (Nat.le_of_lt hps1) (Nat.le_trans hps2 (by decide)) hpt (Nat.le_trans (big_of z.stack hb1) (by decide)) (big_of z.top hb1) (Nat.le_trans z.frames (Nat.le_trans hb1 (by decide)))
  generalize baseOf p.isOpen place p.params M.top = bb at *
  generalize enterL M.stack p.isOpen place p.params p.size M.top = st at *
  obtain ⟨kk, hk, hk1, hk2, hfb, hk3⟩ := enter_k e4 Pq.few (Nat.le_of_lt_succ (Nat.lt_of_lt_of_le hps1 hps2)) func
  clear e4 e6
  subst hk
  have hup : upd bs S.fs.length (place + kk) (ocOf S M bs ops place wanted).D = place + kk := if_pos (List.length_map ..)
  have h5 : st.length ≤ 40 * b + 40 := Nat.le_trans e5 (Nat.max_le.mpr ⟨Nat.le_trans z.stack (Nat.le_add_right _ _), Nat.le_trans (Nat.add_le_add (Nat.add_le_add (Nat.add_le_add (Nat.le_trans (Nat.le_of_lt hpt) z.top) hk2) (Nat.le_of_lt (Nat.lt_of_lt_of_le hps1 hps2))) hps2) (Nat.add_le_add_left (n := 33) (m := 40) (by decide) (40 * b))⟩)
  obtain ⟨m', M', h1, h2⟩ := HO (g + 5) n p args _ _ _ _ _ _ (b + 1) WF (.int place) (.int wanted) .undef .undef .undef .undef .undef .undef .undef .undef .undef .undef .undef .undef (Nat.le_of_succ_le_succ (show 2 * k + 11 + 1 ≤ g + 5 + 1 from hg)) hn hpn (Pq.enter (wanted := wanted) hps1 hps2 hk1 hk2 hfb e1 e2 hup h5) rfl ((e1 place (Nat.le_refl _)).trans Pq.at0)
    (fun hio => by rw [hup]; exact ⟨by rw [Nat.add_assoc]; exact Nat.add_le_add_left (hk3 hio) _, e3 hio⟩) Pq.atoms hw (Nat.le_of_succ_le (show b + 1 + Mine.hcost k + 1 ≤ 1000 by rw [hcost]; exact hb)) (by have := Nat.le_trans (cost_ge (k + 1)) (Nat.le_trans (Nat.le_add_left _ b) hb); unfold WF; lia)
  have hspec : runS ps (k + 1) n args func S = Sp.work (runS ps k) p args func (S.enter p args func) := by
    rw [runS]; simp only [hpn]
  rw [hspec]
  refine ⟨M', ?_, h2.mono (hcost ▸ Nat.le_succ _)⟩
  refine call_go [wref P, plsV ps, .int place, .int wanted, .undef, .undef, .undef, .undef, .undef, .undef, .undef, .undef, .undef, .undef, .undef, .undef] (n := 39) rfl rfl rfl ?_
  rw [f39_body]
  exact fin_step (x_expr' (r_call rfl rfl he)) (congrArg fin (exs_fl h1))
theorem runOk_all {ps : List Plan} (hps : PlansOk ps) (hu0 : u0 ≤ 5000) : ∀ k, RunOk P u0 bl ps k ∧ HeadOk P u0 bl ps k
  | 0 => by
    have R0 : RunOk P u0 bl ps 0 := fun g n args func S M bs ops place wanted b hg hn => absurd hn (by lia)
    exact ⟨R0, headOk hps hu0 R0 fun k' h => by lia⟩
  | k + 1 => by
    obtain ⟨_, HO⟩ := runOk_all hps hu0 k
    have R1 := runOk_succ hps HO
    exact ⟨R1, headOk hps hu0 R1 fun k' h => by cases h; exact HO⟩
end Mine
end
section
set_option maxRecDepth 100000
namespace Mine
section
variable {cl : CallF} {m : List V} {σ σ₁ σ₂ : St} {a nn elt : ME} {vs ys : List V} {es : List ME} {i : Nat} {kd : Kd} {p : Int}
theorem r_listN (h1 : ev cl a m σ = some (.lst vs, σ₁)) (h3 : (σ₁ kd).length = i) (h2 : σ₁.push kd (.list vs) = σ₂) : ev cl (.listOf kd a) m σ = some (.ref kd i, σ₂) := by
  subst h3; exact r_listOf h1 h2
theorem r_newN (h : evs cl es m σ = some (ys, σ₁)) (h3 : (σ₁ kd).length = i) (h2 : σ₁.push kd (.list ys) = σ₂) : ev cl (.newl kd es) m σ = some (.ref kd i, σ₂) := by
  subst h3; exact r_newl h h2
theorem r_newd (h : evs cl es m σ = some (ys, σ₁)) (h2 : σ₁.push kd (.dict ys) = σ₂) : ev cl (.newd kd es) m σ = some (.ref kd (σ₁ kd).length, σ₂) := by
  subst h2; exact bind_eq h rfl
theorem r_compR (h1 : ev cl nn m σ = some (.int p, σ₁)) (h2 : okLen p.toNat = true) (h2' : small p = true) (h3 : gather (fun j τ => (ev cl elt (m ++ [.int j]) τ).bind fun (y, τ₁) => some ([y], τ₁)) p.toNat 0 σ₁ = some (ys, σ₂)) : ev cl (.compR elt nn) m σ = some (.lst ys, σ₂) := bind_eq h1 (if_eq ⟨h2, h2'⟩ (bind_eq h3 rfl))
end
noncomputable def groundS (σ : St) (vs : List V) : St := fun k => match k with
  | .ground => σ .ground ++ [.inst [.ref .stack (σ .stack).length, .ref .opens (σ .opens).length, .none, .bool false]]
  | .stack => σ .stack ++ [.list vs]
  | .opens => σ .opens ++ [.list []]
  | k => σ k
noncomputable def groundA (σ : St) (a : List V) (s o : List MObj) : St := fun k => match k with
  | .ground => σ .ground ++ [.inst a]
  | .stack => σ .stack ++ s
  | .opens => σ .opens ++ o
  | k => σ k
theorem gA_ins (σ : St) (a : List V) (s o : List MObj) : (groundA σ a s o).ins .ground (σ .ground).length = some a := by simp [St.ins, groundA]
theorem gA_set (σ : St) (a a' : List V) (s o : List MObj) : (groundA σ a s o).setO .ground (σ .ground).length (.inst a') = groundA σ a' s o := by
  funext k; cases k <;> simp [St.setO, St.put, groundA]
theorem gA_pushS (σ : St) (a : List V) (vs : List V) : (groundA σ a [] []).push .stack (.list vs) = groundA σ a [.list vs] [] := by
  funext k; cases k <;> simp [St.push, St.put, groundA]
theorem gA_pushO (σ : St) (a : List V) (s : List MObj) (vs : List V) : (groundA σ a s []).push .opens (.list vs) = groundA σ a s [.list vs] := by
  funext k; cases k <;> simp [St.push, St.put, groundA]
theorem ok_ground0 (σ : St) (d : Nat) (vs : List V) : callD tab0 (d + 2) (.cls .ground) [.lst vs] σ = some (.ref .ground (σ .ground).length, groundS σ vs) := by
  have e0 : σ.push .ground (.inst []) = groundA σ [] [] [] := by funext k; cases k <;> simp [St.push, St.put, groundA]
  have e1 : groundA σ [.ref .stack (σ .stack).length, .ref .opens (σ .opens).length, .none, .bool false] [.list vs] [.list []] = groundS σ vs := funext fun k => by cases k <;> rfl
  refine cls_eq (k := .ground) (n := 21) rfl ?_
  rw [e0, ← e1]
  refine call_go [.ref .ground (σ .ground).length, .lst vs] (n := 21) rfl rfl rfl ?_
  generalize callD tab0 d = cl
  refine fin_step (m' := [.ref .ground (σ .ground).length, .lst vs]) (x_asg' (r_listN rfl (congrArg List.length (List.append_nil (σ .stack))) (gA_pushS ..)) (s_attrN rfl (gA_ins ..) rfl (gA_set ..))) ?_
  refine fin_step (m' := [.ref .ground (σ .ground).length, .lst vs]) (x_asg' (r_newN r_nil (congrArg List.length (List.append_nil (σ .opens))) (gA_pushO ..)) (s_attrN rfl (gA_ins ..) rfl (gA_set ..))) ?_
  refine fin_step (m' := [.ref .ground (σ .ground).length, .lst vs]) (x_asg' rfl (s_attrN rfl (gA_ins ..) rfl (gA_set ..))) ?_
  refine fin_step (m' := [.ref .ground (σ .ground).length, .lst vs]) (x_asg' rfl (s_attrN rfl (gA_ins ..) rfl (gA_set ..))) ?_
  exact fin_nil
noncomputable def frameA (σ : St) (a : List V) : St := fun k => match k with
  | .frame => σ .frame ++ [.inst a]
  | k => σ k
theorem fA_ins (σ : St) (a : List V) : (frameA σ a).ins .frame (σ .frame).length = some a := by simp [St.ins, frameA]
theorem fA_set (σ : St) (a a' : List V) : (frameA σ a).setO .frame (σ .frame).length (.inst a') = frameA σ a' := by
  funext k; cases k <;> simp [St.setO, St.put, frameA]
theorem ok_frame0 (σ : St) (d : Nat) (func base top : Nat) (wanted : Int) :
    callD tab0 (d + 2) (.cls .frame) [.int func, .int base, .int top, .int wanted] σ = some (.ref .frame (σ .frame).length, frameA σ [.int func, .int base, .int top, .int wanted, .int 0, .int 0, .bool false]) := by
  have e0 : σ.push .frame (.inst []) = frameA σ [] := by funext k; cases k <;> simp [St.push, St.put, frameA]
  refine cls_eq (k := .frame) (n := 16) rfl ?_
  rw [e0]
  refine call_go [.ref .frame (σ .frame).length, .int func, .int base, .int top, .int wanted] (n := 16) rfl rfl rfl ?_
  generalize callD tab0 d = cl
  refine fin_step (m' := [.ref .frame (σ .frame).length, .int func, .int base, .int top, .int wanted]) (x_asg' rfl (s_attrN rfl (fA_ins ..) rfl (fA_set ..))) ?_
  refine fin_step (m' := [.ref .frame (σ .frame).length, .int func, .int base, .int top, .int wanted]) (x_asg' rfl (s_attrN rfl (fA_ins ..) rfl (fA_set ..))) ?_
  refine fin_step (m' := [.ref .frame (σ .frame).length, .int func, .int base, .int top, .int wanted]) (x_asg' rfl (s_attrN rfl (fA_ins ..) rfl (fA_set ..))) ?_
  refine fin_step (m' := [.ref .frame (σ .frame).length, .int func, .int base, .int top, .int wanted]) (x_asg' rfl (s_attrN rfl (fA_ins ..) rfl (fA_set ..))) ?_
  refine fin_step (m' := [.ref .frame (σ .frame).length, .int func, .int base, .int top, .int wanted]) (x_asg' rfl (s_attrN rfl (fA_ins ..) rfl (fA_set ..))) ?_
  refine fin_step (m' := [.ref .frame (σ .frame).length, .int func, .int base, .int top, .int wanted]) (x_asg' rfl (s_attrN rfl (fA_ins ..) rfl (fA_set ..))) ?_
  refine fin_step (m' := [.ref .frame (σ .frame).length, .int func, .int base, .int top, .int wanted]) (x_asg' rfl (s_attrN rfl (fA_ins ..) rfl (fA_set ..))) ?_
  exact fin_nil
noncomputable def belowV (s : Bool) (shift : Nat) : List V := (List.range shift).map fun (j : Nat) => V.int (60 * (if s then 1 else 0) + (j : Int))
noncomputable def bw (σ : St) (shift : Nat) (s : Bool) : Bw := ⟨σ, shift, s⟩
noncomputable def mc0 (σ : St) (shift : Nat) (s : Bool) : Mc := ⟨σ .tmp, belowV s shift, [], [fref (σ .frame).length], shift, [], [], [], [], 0, true, σ .frame ++ [frO 0 1 shift 0 0], σ .upval⟩
noncomputable def preW (σ : St) (shift : Nat) (s : Bool) : St := fun k => match k with
  | .world => σ .world
  | k => enc (bw σ shift s) (mc0 σ shift s) k
noncomputable def worldM (ps : List Plan) (args : List V) (wanted : Int) (shift : Nat) (s : Bool) (a b c d e f g : V) : List V := [plsV ps, .lst args, .int wanted, .int shift, .bool s, a, b, c, d, e, f, g]
theorem world_start (σ : St) (g : Nat) (ps : List Plan) (args : List V) (wanted : Int) (shift : Nat) (s : Bool) (hs : shift ≤ 1000) {R : Option (V × St)}
    (h : fin (exs (callD tab0 (g + 2)) (f40.body.drop 2) (worldM ps args wanted shift s (.lst (belowV s shift)) (wref (bw σ shift s)) .undef .undef .undef .undef .undef) (enc (bw σ shift s) (mc0 σ shift s))) = R) :
    callD tab0 (g + 3) (.fn 40) [plsV ps, .lst args, .int wanted, .int shift, .bool s] σ = R := by
  have h1 := ok_ground0 σ g (belowV s shift)
  have h2 := ok_frame0 (groundS σ (belowV s shift)) g 0 1 shift 0
  have h2 : callD tab0 (g + 2) (.cls .frame) [.int 0, .int 1, .int shift, .int 0] (groundS σ (belowV s shift)) = _ := h2
  refine call_go (worldM ps args wanted shift s .undef .undef .undef .undef .undef .undef .undef) (n := 40) rfl rfl rfl ?_
  generalize callD tab0 (g + 2) = cl at *
  have hg := gather_map (σ := σ) (f := fun j τ => (ev cl (.bin .Add (.bin .Mult (.con (.int 60)) (.loc 4)) (.loc 12)) (worldM ps args wanted shift s .undef .undef .undef .undef .undef .undef .undef ++ [.int j]) τ).bind fun (y, τ₁) => some ([y], τ₁)) (fun j => V.int (60 * (if s then 1 else 0) + (j : Int))) shift 0 (fun i _ => by cases s <;> rfl)
  simp only [Nat.zero_add] at hg
  refine fin_step (m' := worldM ps args wanted shift s (.lst (belowV s shift)) .undef .undef .undef .undef .undef .undef) (x_asg' (r_compR (p := shift) rfl (okLen_of (k := 1000) hs rfl) (small_of hs rfl) hg) rfl) ?_
  refine fin_step (m' := worldM ps args wanted shift s (.lst (belowV s shift)) (wref (bw σ shift s)) .undef .undef .undef .undef .undef) (x_asg' (r_newd (r_cons (r_call rfl (r_cons rfl r_nil) h1) (r_cons (r_newl (r_cons (r_call rfl (r_cons rfl (r_cons rfl (r_cons rfl (r_cons rfl r_nil)))) h2) r_nil) rfl) (r_cons rfl (r_cons (r_newl r_nil rfl) (r_cons (r_newl r_nil rfl) (r_cons (r_newl r_nil rfl) (r_cons (r_newl r_nil rfl) (r_cons rfl (r_cons rfl (r_cons rfl (r_cons rfl r_nil))))))))))) ?_) rfl) h
  funext k
  cases k <;> rfl
end Mine
end
section
set_option maxRecDepth 100000
namespace Mine
theorem v_or0 {cl : CallF} {e a : ME} {es : List ME} {m : List V} {σ σ₁ σ₂ : St} {z : V} (h1 : ev cl e m σ = some (.bool false, σ₁)) (h2 : evB cl false (a :: es) m σ₁ = some (z, σ₂)) : evB cl false (e :: a :: es) m σ = some (z, σ₂) := bind_eq h1 (if_eq rfl h2)
theorem v_or1 {cl : CallF} {e a : ME} {es : List ME} {m : List V} {σ σ₁ : St} (h1 : ev cl e m σ = some (.bool true, σ₁)) : evB cl false (e :: a :: es) m σ = some (.bool true, σ₁) := bind_eq h1 rfl
theorem get_shut (σ : St) (d i : Nat) (v : V) (h : σ.ins .upval i = some [.int 0, .int 0, .int 4, .none, .int (-1), v]) : callD tab0 (d + 1) (.fn 18) [uref i] σ = some (v, σ) :=
  call_go [uref i] (n := 18) rfl rfl rfl (fin_ifR (t_cmp (r_attr rfl h rfl) rfl rfl) (exs_ret (r_attr rfl h rfl)))
theorem cmp_same {σ : St} {l : List V} (h : eqP 30 (.lst l) (.lst l) = true) : cmpop σ .Eq (.lst l) (.lst l) = some true :=
  (if_neg fun h => h rfl).trans (if_pos h)
theorem deref_lst {σ : St} {kd : Kd} {i : Nat} {l : List V} (h : σ.lst kd i = some l) : deref σ (.ref kd i) = .lst l := by
  show (match σ.lst kd i with | some vs => V.lst vs | Option.none => V.ref kd i) = _
  rw [h]
theorem world_end (P : Bw) (M : Mc) (g : Nat) (ps : List Plan) (args : List V) (wanted : Int) (s : Bool) (below found : List V) (pl : V) (isd : Bool) (w0 : V) (kv : List (Nat × V)) (hwell : M.well = true) (hbel : M.stack.take P.shift = below) (hsl : P.shift ≤ M.stack.length) (hb : PV 20 (.lst below))
    (hop : M.opens = []) (hfr : M.frames.length = 1) (hk : M.known = kv.map fun q => uref q.1) (hu : ∀ q ∈ kv, M.up[q.1]? = some (clU q.2)) (hlen : isd = true → 0 ≤ wanted → (found.length : Int) = wanted) :
    fin (exs (callD tab0 (g + 1)) (f40.body.drop 5) (worldM ps args wanted P.shift s (.lst below) (wref P) pl (.bool isd) (.lst found) (gref P) w0) (enc P M)) =
      some (.tup [.lst [.bool true, .bool isd, .lst found, .lst M.notes, .lst (kv.map (·.2))], .lst M.places], ((enc P M).setO .notes (P.n .notes) .gone).setO .places (P.n .places) .gone) := by
  have hget : ∀ q ∈ kv, callD tab0 (g + 1) (.fn 18) [uref q.1] ((enc P M).setO .notes (P.n .notes) .gone) = some (q.2, (enc P M).setO .notes (P.n .notes) .gone) := fun q hq => get_shut _ g q.1 q.2 ((e_up P M q.1).trans (by rw [hu q hq]))
  generalize callD tab0 (g + 1) = cl at *
  have hw10 : (M.wd P)[10]? = some (.bool true) := by rw [w10, hwell]
  have hcut : sliced (enc P M) (sref P) Option.none (some (P.shift : Int)) = some (.lst below) := by
    have e2 : PySem.clipAt M.stack.length P.shift = P.shift := clip_of hsl
    show ((enc P M).lst .stack (P.n .stack)).map (fun vs => V.lst (cutAB vs Option.none (some (P.shift : Int)))) = _
    rw [e_stack, ← hbel]
    simp only [Option.map_some, cutAB, Option.elim, e2, List.drop_zero, Nat.sub_zero]
  refine fin_step (m' := worldM ps args wanted P.shift s (.lst below) (wref P) pl (.bool isd) (.lst found) (gref P) (.bool true)) (x_asg' (r_bop (v_and1 (r_key rfl (e_dct P M) hw10) (v_and1 (r_cmp (r_slcB (r_attr rfl (e_gro P M) rfl) rfl hcut) rfl (cmp_same (hb 10)))
    (v_and1 (r_cmp (r_attr rfl (e_gro P M) rfl) rfl (by rw [deref_lst (e_opens P M), hop]; rfl)) (v_one (r_cmp (r_len (r_key rfl (e_dct P M) rfl) (i_frames P M)) rfl (c_eq (congrArg Nat.cast hfr)))))))) rfl) ?_
  refine fin_step (m' := worldM ps args wanted P.shift s (.lst below) (wref P) pl (.bool isd) (.lst found) (gref P) (.bool true)) (σ' := enc P M) ?_ ?_
  · cases isd with
    | false => rfl
    | true =>
      refine x_asg' (r_bop (v_and1 rfl (v_one (r_bop (c := false) (σ₁ := enc P M) (z := .bool true) ?_)))) rfl
      by_cases hw : wanted < 0
      · exact v_or0 rfl (v_or1 (r_cmp rfl rfl (c_lt hw)))
      · exact v_or0 rfl (v_or0 (r_cmp rfl rfl (c_nlt hw)) (v_one (r_cmp (r_len rfl rfl) rfl (c_eq (hlen rfl (by lia))))))
  have d1 : ((enc P M).setO .notes (P.n .notes) .gone).dct .world (P.n .world) = some (M.wd P) := e_dct P M
  have d2 : turns ((enc P M).setO .notes (P.n .notes) .gone) (.ref .known (P.n .known)) = some kv.length := (congrArg (Option.map List.length) (e_known P M)).trans (by rw [hk]; exact congrArg some (List.length_map ..))
  refine fin_ret (r_tup (r_cons (r_lst (r_cons rfl (r_cons rfl (r_cons rfl (r_cons (r_freeze (r_key rfl (e_dct P M) rfl) (e_notes P M) rfl) (r_cons (r_compS (r_key rfl d1 rfl) d2 (gather_all (fun q : Nat × V => q.2) kv 0 fun i q hq => ?_) d2) r_nil)))))) (r_cons (r_freeze (r_key rfl d1 rfl) (e_places P M) rfl) r_nil)))
  have hkq : M.known[i]? = some (uref q.1) := by rw [hk, List.getElem?_map, hq]; rfl
  have hkl : M.known.length = kv.length := by rw [hk, List.length_map]
  have hmem := List.mem_of_getElem? hq
  refine bind_eq (a := uref q.1) ?_ (bind_eq (r_meth rfl ((e_up P M q.1).trans (by rw [hu q hmem])) r_nil (hget q hmem)) rfl)
  show (match ((enc P M).setO .notes (P.n .notes) .gone).lst .known (P.n .known) with | some vs => if vs.length = kv.length then vs[0 + i]? else Option.none | Option.none => Option.none) = _
  rw [show ((enc P M).setO .notes (P.n .notes) .gone).lst .known (P.n .known) = some M.known from e_known P M, Nat.zero_add]
  exact (if_pos hkl).trans hkq
noncomputable def S0 : Sp := ⟨[], [], [], [], [], [], 0⟩
noncomputable def worldR (ps : List Plan) (args : List V) (wanted : Int) : Bool × List V × Sp := match runS ps ps.length (ps.length - 1) args 0 S0 with
  | (some r, S) => (true, adj wanted r, S)
  | (Option.none, S) => (false, [], { S.close 0 0 with fs := S.fs.take 0 })
noncomputable def told (ps : List Plan) (args : List V) (wanted : Int) : V :=
  .lst [.bool true, .bool (worldR ps args wanted).1, .lst (worldR ps args wanted).2.1, .lst (worldR ps args wanted).2.2.notes, .lst ((List.range (worldR ps args wanted).2.2.vars.length).map (worldR ps args wanted).2.2.get)]
theorem below_pv (s : Bool) (shift : Nat) : PV 20 (.lst (belowV s shift)) := by
  refine (PV.lst (k := 1) fun v hv => ?_).le (by lia)
  obtain ⟨j, _, rfl⟩ := List.mem_map.mp hv
  exact PV.int _
theorem kv_of {P : Bw} {u0 : Nat} {bl : List V} {M : Mc} {S : Sp} {bs : Nat → Nat} (R : Rl P u0 bl M S bs []) (hfs : S.fs = []) :
    M.known = (((List.range S.vars.length).map fun x => (u0 + x, S.get x)).map fun q => uref q.1) ∧ ∀ q ∈ ((List.range S.vars.length).map fun x => (u0 + x, S.get x)), M.up[q.1]? = some (clU q.2) := by
  refine ⟨?_, fun q hq => ?_⟩
  · rw [R.known, R.upl, kn_range, List.map_map]; rfl
  · obtain ⟨x, hx, rfl⟩ := List.mem_map.mp hq
    have hx := List.mem_range.mp hx
    have hv := List.getElem?_eq_getElem hx
    cases hw : S.vars[x] with
    | op d r =>
      rw [hw] at hv
      obtain ⟨⟨f, hf, _⟩, _⟩ := R.opv x d r hv
      rw [hfs] at hf; simp at hf
    | sh v =>
      rw [hw] at hv
      rcases R.shv x v hv with e | ⟨_, p, hp, _⟩
      · simp only [e, Sp.get, hv, Option.map_some, Option.getD_some, Sp.val]
      · simp at hp
theorem cost_small {k : Nat} (h : k ≤ 3) : cost k ≤ 182 := by
  have mono : ∀ k, cost k ≤ cost (k + 1) := fun k => by rw [cost]; exact Nat.le_trans (Nat.le_mul_of_pos_left _ (by decide)) (Nat.le_add_left (3 * cost k) 14)
  have h3 : cost 3 = 182 := rfl
  match k, h with
  | 0, _ => exact Nat.zero_le _
  | 1, _ => exact h3 ▸ Nat.le_trans (mono 1) (mono 2)
  | 2, _ => exact h3 ▸ mono 2
  | 3, _ => exact Nat.le_of_eq h3
noncomputable def WRes (σ : St) (g : Nat) (ps : List Plan) (args : List V) (wanted : Int) (shift : Nat) (s : Bool) : Prop :=
  ∃ σ' pl, callD tab0 g (.fn 40) [plsV ps, .lst args, .int wanted, .int shift, .bool s] σ = some (.tup [told ps args wanted, .lst pl], σ') ∧ σ' .bag = σ .bag ∧ (σ' .upval).length ≤ (σ .upval).length + 400 ∧ (s = true → pl = (worldR ps args wanted).2.2.places) ∧ PV 15 (told ps args wanted) ∧ (∀ v ∈ (worldR ps args wanted).2.2.places, PV 8 v)
theorem below_len (s : Bool) (shift : Nat) : (belowV s shift).length = shift := by unfold belowV; rw [List.length_map, List.length_range]
theorem world_pre (σ : St) (s : Bool) {n shift : Nat} {args : List V} (hat : ∀ v ∈ args, Atom v) (hal : args.length ≤ 3) (hs : shift ≤ 20) (hu : (σ .upval).length ≤ 5000) :
    PrR (bw σ shift s) (σ .upval).length (belowV s shift) n args 0 S0 ((mc0 σ shift s).pushM (.int n :: args)) (fun _ => 0) [] shift 10 := by
  have htl : shift ≤ (belowV s shift).length := Nat.le_of_eq (below_len s shift).symm
  have hlen : (pushL (belowV s shift) shift (.int n :: args)).length = shift + (args.length + 1) := by rw [pushL_len _ _ _ htl, below_len, List.length_cons]; exact Nat.max_eq_right (Nat.le_add_right _ _)
  have hsm : shift + (args.length + 1) ≤ 40 * 10 := Nat.le_trans (Nat.add_le_add hs (Nat.succ_le_succ hal)) (by decide)
  have non : ∀ {x : V}, x ∉ ([] : List V) := List.not_mem_nil
  refine ⟨⟨fun d f r v h => ns h, fun d d' f f' _ h => ns h, fun d h => absurd h (Nat.not_lt_zero d), fun k hk => pushL_low _ _ _ htl k hk, ⟨rfl, fun q hq => absurd hq List.not_mem_nil, List.nodup_nil, Nat.zero_le _⟩, .nil, rfl, fun x d r hx => ns hx, fun x v hx => ns hx, fun q hq => absurd hq List.not_mem_nil, ?_, rfl, fun l hl => absurd hl List.not_mem_nil, rfl, rfl, fun _ => rfl, fun _ d f h => ns h, fun _ => rfl,
      ⟨fun d f h => ns h, fun x v hx => ns hx, fun v hv => absurd hv non, fun v hv => absurd hv non⟩⟩,
    pushL_at _ _ _ htl 0 _ rfl, fun i v hi => by rw [Nat.add_assoc, Nat.add_comm 1]; exact pushL_at _ _ _ htl (i + 1) v hi, by rw [Nat.add_assoc, Nat.add_comm 1]; rfl, Nat.le_of_eq hlen.symm, hat, Nat.le_succ_of_le hal, fun d f h => ns h, fun q hq => absurd hq List.not_mem_nil, Nat.le_refl _, fun _ => rfl,
    ⟨Nat.le_trans (Nat.le_of_eq hlen) hsm, hsm, (show 1 ≤ 10 by decide), Nat.zero_le _, Nat.zero_le _, Nat.zero_le _, Nat.le_add_right _ _, Nat.zero_le _⟩⟩
  exact (List.length_eq_zero_iff.mp ((kn_len ..).trans (Nat.sub_self _))).symm
theorem world_fin (σ : St) (g : Nat) (ps : List Plan) (args : List V) (wanted : Int) (shift : Nat) (s : Bool) (M3 : Mc) (R3 : Rl (bw σ shift s) (σ .upval).length (belowV s shift) M3 (worldR ps args wanted).2.2 (fun _ => 0) []) (hfs : (worldR ps args wanted).2.2.fs = []) (hwell : M3.well = true) (hfr : M3.frames.length = 1)
    (hul : M3.up.length ≤ (σ .upval).length + 400) (hsl : shift ≤ M3.stack.length) (hlen : (worldR ps args wanted).1 = true → 0 ≤ wanted → ((worldR ps args wanted).2.1.length : Int) = wanted) (hfa : ∀ v ∈ (worldR ps args wanted).2.1, Atom v)
    (hR : ∀ R, fin (exs (callD tab0 (g + 1)) (f40.body.drop 5) (worldM ps args wanted shift s (.lst (belowV s shift)) (wref (bw σ shift s)) (.int shift) (.bool (worldR ps args wanted).1) (.lst (worldR ps args wanted).2.1) (gref (bw σ shift s)) .undef) (enc (bw σ shift s) M3)) = R →
      callD tab0 (g + 2) (.fn 40) [plsV ps, .lst args, .int wanted, .int shift, .bool s] σ = R) : WRes σ (g + 2) ps args wanted shift s := by
  obtain ⟨k1, k2⟩ := kv_of R3 hfs
  have hbel : M3.stack.take shift = belowV s shift := by
    apply List.ext_getElem?
    intro i
    rw [List.getElem?_take]
    by_cases hi : i < shift
    · rw [if_pos hi]; exact R3.bel i hi
    · rw [if_neg hi, List.getElem?_eq_none_iff.mpr (by rw [below_len]; exact Nat.le_of_not_lt hi)]
  have he := world_end (bw σ shift s) M3 g ps args wanted s (belowV s shift) (worldR ps args wanted).2.1 (.int shift) (worldR ps args wanted).1 .undef _ hwell hbel hsl (below_pv s shift) R3.opo.opens hfr k1 k2 hlen
  refine ⟨((enc (bw σ shift s) M3).setO .notes ((bw σ shift s).n .notes) .gone).setO .places ((bw σ shift s).n .places) .gone, M3.places, (hR _ he).trans ?_, rfl, hul, fun hst => R3.places hst, ?_, R3.sok.places⟩
  · rw [R3.notes, List.map_map]; rfl
  · refine PV.lst (k := 14) fun v hv => ?_
    rcases List.mem_cons.mp hv with rfl | hv
    · exact (PV.bool _).le (by decide)
    rcases List.mem_cons.mp hv with rfl | hv
    · exact (PV.bool _).le (by decide)
    rcases List.mem_cons.mp hv with rfl | hv
    · exact (PV.lst (k := 1) fun v hv => (hfa v hv).pv).le (by decide)
    rcases List.mem_cons.mp hv with rfl | hv
    · exact (PV.lst (k := 8) fun v hv => R3.sok.notes v hv).le (by decide)
    rw [List.mem_singleton.mp hv]
    refine (PV.lst (k := 1) fun v hv => ?_).le (by decide)
    obtain ⟨x, _, rfl⟩ := List.mem_map.mp hv
    exact (Sp.get_atom R3.sok x).pv
theorem world_run (σ : St) (g : Nat) (ps : List Plan) (args : List V) (wanted : Int) (shift : Nat) (s : Bool) {b : Bool} {M2 : Mc} (hne : 0 < ps.length) (hal : args.length ≤ 3) (hs : shift ≤ 20)
    (hrun : callD tab0 (g + 2) (.fn 39) [wref (bw σ shift s), plsV ps, .int shift, .int wanted] (enc (bw σ shift s) ((mc0 σ shift s).pushM (.int (ps.length - 1 : Nat) :: args))) = some (.bool b, enc (bw σ shift s) M2)) {R : Option (V × St)}
    (h : fin (exs (callD tab0 (g + 2)) (f40.body.drop 4) (worldM ps args wanted shift s (.lst (belowV s shift)) (wref (bw σ shift s)) (.int shift) (.bool b) (.lst []) (gref (bw σ shift s)) .undef) (enc (bw σ shift s) M2)) = R) :
    callD tab0 (g + 3) (.fn 40) [plsV ps, .lst args, .int wanted, .int shift, .bool s] σ = R := by
  have hp := ok_push (bw σ shift s) (mc0 σ shift s) (g + 1) (.int (ps.length - 1 : Nat) :: args) (Nat.le_trans (Nat.add_le_add hs (Nat.succ_le_succ hal)) (by decide)) (Nat.le_trans (Nat.le_of_eq (below_len s shift)) (Nat.le_trans hs (by decide)))
  refine world_start σ g ps args wanted shift s (Nat.le_trans hs (by decide)) ?_
  have c1 : okLen (1 + args.length) = true := okLen_of (k := 4) (Nat.add_le_add_left hal 1) rfl
  have c2 : (((ps.map encP).length : Int) - 1) = ((ps.length - 1 : Nat) : Int) := by rw [List.length_map, Int.ofNat_sub hne]; rfl
  generalize callD tab0 (g + 2) = cl at *
  refine fin_step (m' := worldM ps args wanted shift s (.lst (belowV s shift)) (wref (bw σ shift s)) (.int shift) .undef .undef .undef .undef) (σ' := enc (bw σ shift s) ((mc0 σ shift s).pushM (.int (ps.length - 1 : Nat) :: args))) (x_asg' (r_call rfl (r_cons rfl (r_cons (r_bin (r_lst (r_cons (r_bin (r_len rfl rfl) rfl (b_sub c2)) r_nil)) rfl (b_addL c1)) r_nil)) hp) rfl) ?_
  exact fin_step (m' := worldM ps args wanted shift s (.lst (belowV s shift)) (wref (bw σ shift s)) (.int shift) (.bool b) (.lst []) (gref (bw σ shift s)) .undef) (x_asgT' (r_tup (r_cons (r_call rfl rfl hrun) (r_cons rfl (r_cons (r_key rfl (e_dct _ _) rfl) r_nil)))) rfl) h
theorem world_some (σ : St) (g : Nat) (ps : List Plan) (args : List V) (wanted : Int) (shift : Nat) (s : Bool) {r : List V} {S' : Sp} {M2 : Mc} (hw : WOk wanted) {M1 : Mc} (hM1 : M1.frames = [fref (σ .frame).length]) (hM1w : M1.well = true) {b : Nat} (hb : b ≤ 200) (hres : runS ps ps.length (ps.length - 1) args 0 S0 = (some r, S'))
    (h : PoS (bw σ shift s) (σ .upval).length (belowV s shift) (ocOf S0 M1 (fun _ => 0) [] shift wanted) b r S' M2)
    (hR : ∀ R, fin (exs (callD tab0 (g + 1)) (f40.body.drop 4) (worldM ps args wanted shift s (.lst (belowV s shift)) (wref (bw σ shift s)) (.int shift) (.bool true) (.lst []) (gref (bw σ shift s)) .undef) (enc (bw σ shift s) M2)) = R →
      callD tab0 (g + 2) (.fn 40) [plsV ps, .lst args, .int wanted, .int shift, .bool s] σ = R) : WRes σ (g + 2) ps args wanted shift s := by
  have hfs : S'.fs = [] := List.length_eq_zero_iff.mp (by have := congrArg List.length h.shape; rwa [List.length_map] at this)
  have e : worldR ps args wanted = (true, adj wanted r, S') := by unfold worldR; rw [hres]
  have htop : M2.top = shift + (adj wanted r).length := h.top
  have hsl : shift ≤ M2.stack.length := Nat.le_trans (htop ▸ Nat.le_add_right _ _) h.topl
  refine world_fin σ g ps args wanted shift s M2 (by rw [e]; exact h.rl) (by rw [e]; exact hfs) (h.well.trans hM1w) (by rw [h.frames]; exact congrArg List.length hM1) (Nat.le_trans h.sz.up (Nat.add_le_add_left (Nat.mul_le_mul_left 2 hb) _)) hsl
    (fun _ h0 => by rw [e]; show ((adj wanted r).length : Int) = wanted; rw [adj_len, if_neg (Int.not_lt.mpr h0), Int.toNat_of_nonneg h0]) (by rw [e]; exact adj_atoms h.atoms) fun R hR' => hR R ?_
  rw [e] at hR'
  have hct := cut_some M2.stack shift M2.top (htop ▸ Nat.le_add_right _ _) h.topl
  rw [show M2.top - shift = (adj wanted r).length by rw [htop, Nat.add_sub_cancel_left], drop_take_of (show ∀ i v, (adj wanted r)[i]? = some v → M2.stack[shift + i]? = some v from h.res)] at hct
  refine fin_step (x_if1 rfl (exs_step (x_asg' (r_slcAB (r_attr rfl (e_gro _ _) rfl) rfl (r_key rfl (e_dct _ _) rfl) ?_) rfl) exs_end)) hR'
  exact (congrArg (Option.map fun vs => V.lst (cutAB vs (some (shift : Int)) (some (M2.top : Int)))) (e_stack _ _)).trans (congrArg (fun l => some (V.lst l)) hct)
theorem world_none (σ : St) (g : Nat) (ps : List Plan) (args : List V) (wanted : Int) (shift : Nat) (s : Bool) {S' : Sp} {M2 : Mc} {M1 : Mc} (hM1 : M1.frames = [fref (σ .frame).length]) (hM1w : M1.well = true) {b : Nat} (hb : b ≤ 200) (hres : runS ps ps.length (ps.length - 1) args 0 S0 = (Option.none, S')) {bs' : Nat → Nat} {ops' : List (Nat × Nat)} {ext : List V}
    (h : PoF (bw σ shift s) (σ .upval).length (belowV s shift) (ocOf S0 M1 (fun _ => 0) [] shift wanted) b S' M2 bs' ops' ext)
    (hR : ∀ R, fin (exs (callD tab0 (g + 2)) (f40.body.drop 4) (worldM ps args wanted shift s (.lst (belowV s shift)) (wref (bw σ shift s)) (.int shift) (.bool false) (.lst []) (gref (bw σ shift s)) .undef) (enc (bw σ shift s) M2)) = R →
      callD tab0 (g + 3) (.fn 40) [plsV ps, .lst args, .int wanted, .int shift, .bool s] σ = R) : WRes σ (g + 3) ps args wanted shift s := by
  have e : worldR ps args wanted = (false, [], { S'.close 0 0 with fs := S'.fs.take 0 }) := by unfold worldR; rw [hres]
  have h1 := ok_unwound (bw σ shift s) M2 (g + 1) 1 (Nat.le_trans h.sz.frames (Nat.le_trans hb (by decide)))
  obtain ⟨v, h2⟩ := ok_take_closed (bw σ shift s) { M2 with frames := M2.frames.take 1 } g shift ops' ⟨h.rl.opo.opens, h.rl.opo.up, h.rl.opo.nodup, h.rl.opo.few⟩ (fun q hq => h.rl.opl hq)
  have hft : M2.frames.take 1 = [fref (σ .frame).length] := by rw [h.frames, show (ocOf S0 M1 (fun _ => 0) [] shift wanted).fs = [fref (σ .frame).length] from hM1]; rfl
  have hlow : lows shift ops' = [] := h.low
  have R2 := h.rl.shut (level := shift) (d0 := 0) (lv := 0) (fun d f' hf' => ⟨fun hd => absurd hd (Nat.not_lt_zero d), fun _ => h.high d f' (Nat.zero_le _) hf'⟩) (fun _ => rfl) (M2.tmp ++ [.gone])
  have R3 := (R2.down (n := 0) fun x d r hx => close_noop hx).bases (bs' := fun _ => 0) fun d hd => absurd (Nat.lt_of_lt_of_le hd (List.length_take_le ..)) (Nat.not_lt_zero d)
  rw [hlow] at R3
  rw [drop_high _ h.rl.desc, hlow] at h2
  have hsl : shift ≤ M2.stack.length := by
    cases shift with
    | zero => exact Nat.zero_le _
    | succ n =>
      have h3 := h.rl.bel n (Nat.lt_succ_self n)
      rw [List.getElem?_eq_getElem (show n < (belowV s (n + 1)).length by rw [below_len]; exact Nat.lt_succ_self n)] at h3
      exact (List.getElem?_eq_some_iff.mp h3).1
  refine world_fin σ (g + 1) ps args wanted shift s { M2 with frames := M2.frames.take 1, tmp := M2.tmp ++ [.gone], opens := ([] : List (Nat × Nat)).map fun q => uref q.1, up := closeUp M2.stack (ops'.take (high ops' shift)) M2.up } (by rw [e]; exact R3.re rfl rfl rfl rfl rfl rfl rfl rfl) (by rw [e]; rfl) (h.well.trans hM1w) (by rw [hft]; rfl)
    (Nat.le_trans (Nat.le_of_eq (closeUp_len ..)) (Nat.le_trans h.sz.up (Nat.add_le_add_left (Nat.mul_le_mul_left 2 hb) _))) hsl (fun q => by rw [e] at q; exact absurd q Bool.false_ne_true) (by rw [e]; exact fun v hv => absurd hv List.not_mem_nil) fun R hR' => hR R ?_
  rw [e] at hR'
  generalize callD tab0 (g + 2) = cl at *
  exact fin_step (x_if0 rfl (exs_step (x_expr' (r_call rfl (r_cons (r_key rfl (e_dct _ _) rfl) (r_cons rfl r_nil)) h1)) (exs_step (x_expr' (r_call rfl rfl h2)) exs_end))) hR'
theorem world_ok (σ : St) (g : Nat) (ps : List Plan) (args : List V) (wanted : Int) (shift : Nat) (s : Bool) (hg : 2 * ps.length + 10 ≤ g) (hps : PlansOk ps) (hne : 0 < ps.length) (hat : ∀ v ∈ args, Atom v) (hal : args.length ≤ 3) (hw : WOk wanted) (hs : shift ≤ 20) (hu : (σ .upval).length ≤ 5000) : WRes σ (g + 1) ps args wanted shift s := by
  have hc := cost_small hps.1
  obtain ⟨g, rfl⟩ : ∃ g', g = g' + 2 := ⟨g - 2, (Nat.sub_add_cancel (Nat.le_trans (Nat.le_trans (by decide) (Nat.le_add_left 10 _)) hg)).symm⟩
  have hlt : ps.length - 1 < ps.length := Nat.sub_lt hne Nat.one_pos
  obtain ⟨RO, _⟩ := runOk_all (P := bw σ shift s) (u0 := (σ .upval).length) (bl := belowV s shift) hps hu ps.length
  obtain ⟨M2, hrun, hpost⟩ := RO (g + 2) (ps.length - 1) args 0 S0 _ (fun _ => 0) [] shift wanted 10 hg hlt hlt (world_pre σ s hat hal hs hu) hw (Nat.le_trans (Nat.add_le_add_left hc 10) (by decide))
  have hb : 10 + cost ps.length ≤ 200 := Nat.le_trans (Nat.add_le_add_left hc 10) (by decide)
  generalize hres : runS ps ps.length (ps.length - 1) args 0 S0 = rs at *
  obtain ⟨res, S'⟩ := rs
  cases res with
  | some r => exact world_some σ (g + 1) ps args wanted shift s hw rfl rfl hb hres hpost fun R h => world_run σ g ps args wanted shift s hne hal hs hrun h
  | none =>
    obtain ⟨bs', ops', ext, h⟩ := (hpost : ∃ bs' ops' ext, PoF _ _ _ _ _ S' M2 bs' ops' ext)
    exact world_none σ g ps args wanted shift s rfl rfl hb hres h fun R h => world_run σ g ps args wanted shift s hne hal hs hrun h
end Mine
end
section
set_option maxRecDepth 100000
namespace Mine
noncomputable def Bg (is : List Int) (n : Nat) (σ : St) : Prop := ∃ at' : Nat, at' ≤ n ∧ σ .bag = [.dict [.lst (is.map .int), .int at']]
noncomputable def Same (σ σ' : St) : Prop := ∀ k, k ≠ .bag → σ' k = σ k
noncomputable def Same2 (σ σ' : St) : Prop := ∀ k, k ≠ .bag → k ≠ .tmp → σ' k = σ k
theorem Same.refl (σ : St) : Same σ σ := fun _ _ => rfl
theorem Same.trans {σ σ' σ'' : St} (h : Same σ σ') (h' : Same σ' σ'') : Same σ σ'' := fun k hk => (h' k hk).trans (h k hk)
theorem Same2.refl (σ : St) : Same2 σ σ := fun _ _ _ => rfl
theorem Same2.trans {σ σ' σ'' : St} (h : Same2 σ σ') (h' : Same2 σ' σ'') : Same2 σ σ'' := fun k hk hk' => (h' k hk hk').trans (h k hk hk')
theorem Same.two {σ σ' : St} (h : Same σ σ') : Same2 σ σ' := fun k hk _ => h k hk
theorem Bg.mono {is : List Int} {n n' : Nat} {σ : St} (h : Bg is n σ) (hn : n ≤ n') : Bg is n' σ := by
  obtain ⟨a, h1, h2⟩ := h
  exact ⟨a, by lia, h2⟩
theorem Bg.other {is : List Int} {n : Nat} {σ σ' : St} (h : Bg is n σ) (e : σ' .bag = σ .bag) : Bg is n σ' := by
  obtain ⟨a, h1, h2⟩ := h
  exact ⟨a, h1, e.trans h2⟩
noncomputable abbrev bagR : V := .ref .bag 0
theorem mod_pos (x : Int) (many : Nat) (h : 0 < many) : ∃ v : Nat, v < many ∧ binop .Mod (.int x) (.int many) = some (.int v) := by
  have h0 : (0 : Int) < many := by lia
  have h1 := Int.fmod_nonneg_of_pos x h0
  have h2 := Int.fmod_lt_of_pos x h0
  refine ⟨(Int.fmod x many).toNat, by lia, ?_⟩
  show (if ¬ ((many : Nat) : Int) = 0 then some (V.int (Int.fmod x (many : Int))) else Option.none) = _
  rw [if_pos (by lia)]
  congr 2
  lia
theorem told_17 : small 17 = true := by simp [small]
theorem told_4 : small 4 = true := by simp [small]
theorem told_small (a : Nat) (h : a ≤ 200) : small ((a + 1 : Nat) : Int) = true ∧ small (((a + 1 : Nat) : Int) * ((a + 1 : Nat) : Int)) = true := by
  have hsq : (a + 1) * (a + 1) ≤ 40401 := Nat.le_trans (Nat.mul_le_mul (show a + 1 ≤ 201 by lia) (show a + 1 ≤ 201 by lia)) (by decide)
  constructor
  · simp [small]; lia
  · have : (((a + 1 : Nat) : Int) * ((a + 1 : Nat) : Int)) = (((a + 1) * (a + 1) : Nat) : Int) := by rw [Int.natCast_mul]
    rw [this]
    simp only [small, Bool.and_eq_true, decide_eq_true_eq]
    lia
theorem ok_told {is : List Int} {n : Nat} {σ : St} (B : Bg is n σ) (d many : Nat) (hm : 0 < many) (hn : n ≤ 200) :
    ∃ (v : Nat) (σ' : St), v < many ∧ callD tab0 (d + 1) (.fn 30) [bagR, .int many] σ = some (.int v, σ') ∧ Bg is (n + 1) σ' ∧ Same σ σ' := by
  obtain ⟨a, ha, hb⟩ := B
  have hd : σ.dct .bag 0 = some [.lst (is.map .int), .int a] := by simp [St.dct, hb]
  let σ' := σ.setO .bag 0 (.dict [.lst (is.map .int), .int (a + 1 : Nat)])
  have hb' : σ' .bag = [.dict [.lst (is.map .int), .int (a + 1 : Nat)]] := by simp [σ', St.setO, St.put, hb]
  have hd' : σ'.dct .bag 0 = some [.lst (is.map .int), .int (a + 1 : Nat)] := by simp [St.dct, hb']
  have hS : Same σ σ' := fun k hk => by simp [σ', St.setO, St.put, hk]
  have hB : Bg is (n + 1) σ' := ⟨a + 1, by lia, hb'⟩
  have key : ∃ v : Nat, v < many ∧ callD tab0 (d + 1) (.fn 30) [bagR, .int many] σ = some (.int v, σ') := by
    have go : ∀ R, fin (exs (callD tab0 d) (f30.body.drop 2) [bagR, .int many, .int (a + 1 : Nat)] σ') = R → callD tab0 (d + 1) (.fn 30) [bagR, .int many] σ = R := by
      intro R hR
      refine call_go [bagR, .int many, .undef] (n := 30) rfl rfl rfl ?_
      generalize callD tab0 d = cl at *
      refine fin_step (m' := [bagR, .int many, .undef]) (σ' := σ') (x_asg' (r_bin (r_key rfl hd rfl) rfl (b_add rfl)) (s_key rfl hd rfl rfl)) ?_
      exact fin_step (m' := [bagR, .int many, .int (a + 1 : Nat)]) (σ' := σ') (x_asg' (r_key rfl hd' rfl) rfl) hR
    by_cases hlt : a + 1 ≤ is.length
    · obtain ⟨v, hv, hmod⟩ := mod_pos is[a] many hm
      refine ⟨v, hv, go _ ?_⟩
      have e1 : ((a + 1 : Nat) : Int) - 1 = (a : Nat) := Int.add_sub_cancel (a : Int) 1
      have e2 : place (is.map V.int).length (a : Int) = some a := place_nat (by rw [List.length_map]; exact hlt)
      have e3 : (is.map V.int)[a]? = some (.int is[a]) := by rw [List.getElem?_map, List.getElem?_eq_getElem hlt]; rfl
      have e4 : ((a + 1 : Nat) : Int) ≤ ((is.map V.int).length : Nat) := Int.ofNat_le.mpr (by rw [List.length_map]; exact hlt)
      exact fin_ifR (t_cmp rfl (r_len (r_key rfl hd' rfl) rfl) (c_le e4)) (exs_ret (r_bin (r_idx (r_key rfl hd' rfl) (r_bin rfl rfl (b_sub e1)) rfl e2 e3) rfl hmod))
    · obtain ⟨v, hv, hmod⟩ := mod_pos (17 * ((a + 1 : Nat) : Int) + Int.fdiv (((a + 1 : Nat) : Int) * ((a + 1 : Nat) : Int)) 4) many hm
      refine ⟨v, hv, go _ ?_⟩
      have e4 : ¬ ((a + 1 : Nat) : Int) ≤ ((is.map V.int).length : Nat) := fun h => hlt (by rw [List.length_map] at h; exact Int.ofNat_le.mp h)
      obtain ⟨c1, c2⟩ := told_small a (Nat.le_trans ha hn)
      generalize ((a + 1 : Nat) : Int) = a1 at *
      exact fin_skip (t_cmp rfl (r_len (r_key rfl hd' rfl) rfl) (c_nle e4)) (fin_ret (r_bin (r_bin (r_bin rfl rfl (b_mul told_17 c1 rfl)) (r_bin (r_bin rfl rfl (b_mul c1 c1 rfl)) rfl (if_pos ⟨c2, told_4, by decide⟩)) (b_add rfl)) rfl hmod))
  obtain ⟨v, hv, hc⟩ := key
  exact ⟨v, σ', hv, hc, hB, hS⟩
end Mine
end
section
set_option maxRecDepth 100000
namespace Mine
theorem gather_ex {α : Type} {f : Nat → St → Option (List V × St)} (h : α → V) (Q : Nat → α → Prop) (I : Nat → St → Prop) (N : Nat) (hf : ∀ j σ, j < N → I j σ → ∃ a σ', f j σ = some ([h a], σ') ∧ Q j a ∧ I (j + 1) σ') :
    ∀ (n j : Nat) (σ : St), j + n ≤ N → I j σ → ∃ (as : List α) (σ' : St), gather f n j σ = some (as.map h, σ') ∧ as.length = n ∧ (∀ i a, as[i]? = some a → Q (j + i) a) ∧ I (j + n) σ'
  | 0, j, σ, hN, hI => ⟨[], σ, rfl, rfl, fun i a h => by simp at h, hI⟩
  | n + 1, j, σ, hN, hI => by
    obtain ⟨a, σ₁, h1, h2, h3⟩ := hf j σ (by lia) hI
    obtain ⟨as, σ₂, g1, g2, g3, g4⟩ := gather_ex h Q I N hf n (j + 1) σ₁ (by lia) h3
    refine ⟨a :: as, σ₂, ?_, by simp [g2], fun i b hb => ?_, by rw [show j + (n + 1) = j + 1 + n by lia]; exact g4⟩
    · exact bind_eq h1 (bind_eq g1 rfl)
    · cases i with
      | zero => simp at hb; subst hb; exact h2
      | succ i => rw [show j + (i + 1) = j + 1 + i by lia]; exact g3 i b hb
theorem ev_told {is : List Int} {n : Nat} {σ : St} (B : Bg is n σ) (hn : n ≤ 200) (d : Nat) (x : PySem.Str) (e : ME) (m : List V) (many : Nat) (hm : m[0]? = some bagR) (he : ev (callD tab0 (d + 1)) e m σ = some (.int many, σ)) (hp : 0 < many) :
    ∃ (v : Nat) (σ' : St), v < many ∧ ev (callD tab0 (d + 1)) (.call (.glob x (.fn 30)) [.loc 0, e]) m σ = some (.int v, σ') ∧ Bg is (n + 1) σ' ∧ Same σ σ' := by
  obtain ⟨v, σ', h1, h2, h3, h4⟩ := ok_told B d many hp hn
  exact ⟨v, σ', h1, r_call rfl (r_cons (r_locR hm) (r_cons he r_nil)) h2, h3, h4⟩
theorem ok_row {is : List Int} {n : Nat} {σ : St} (B : Bg is n σ) (d size : Nat) (hs : 0 < size) (hn : n ≤ 190) :
    ∃ (row : List Nat) (σ' : St), RowOk size row ∧ callD tab0 (d + 2) (.fn 31) [bagR, .int size] σ = some (rowV row, σ') ∧ Bg is (n + 4) σ' ∧ Same σ σ' := by
  obtain ⟨c, σ₁, h1, h2, h3, h4⟩ := ev_told B (by lia) d "_law_told" (.con (.int 4)) [bagR, .int size] 4 rfl rfl (by lia)
  obtain ⟨row, σ', g1, g2, g3, g4⟩ := gather_ex (f := fun j τ => (ev (callD tab0 (d + 1)) (.call (.glob "_law_told" (.fn 30)) [.loc 0, .loc 1]) ([bagR, .int size] ++ [.int j]) τ).bind fun (y, τ₁) => some ([y], τ₁)) (fun i : Nat => .int i) (fun _ i => i < size) (fun j τ => Bg is (n + 1 + j) τ ∧ Same σ τ) 3 (fun j τ hj hI => by
    obtain ⟨v, τ', k1, k2, k3, k4⟩ := ev_told hI.1 (by lia) d "_law_told" (.loc 1) ([bagR, .int size] ++ [.int j]) size rfl rfl hs
    exact ⟨v, τ', by rw [k2]; rfl, k1, k3, hI.2.trans k4⟩) c 0 σ₁ (by lia) ⟨h3, h4⟩
  refine ⟨row, σ', ⟨by lia, fun i hi => ?_⟩, ?_, g4.1.mono (by lia), g4.2⟩
  · obtain ⟨k, hk, rfl⟩ := List.mem_iff_getElem.mp hi
    exact g3 k _ (List.getElem?_eq_getElem hk)
  exact call_go [bagR, .int size] (n := 31) rfl rfl rfl (fin_ret (r_compR h2 (okLen_of (k := 4) (Nat.le_of_lt h1) rfl) (small_of (k := 4) (Nat.le_of_lt h1) rfl) g1))
theorem ok_wanted {is : List Int} {n : Nat} {σ : St} (B : Bg is n σ) (d : Nat) (hn : n ≤ 200) :
    ∃ (w : Int) (σ' : St), WOk w ∧ callD tab0 (d + 2) (.fn 32) [bagR] σ = some (.int w, σ') ∧ Bg is (n + 1) σ' ∧ Same σ σ' := by
  obtain ⟨c, σ₁, h1, h2, h3, h4⟩ := ev_told B (by lia) d "_law_told" (.con (.int 4)) [bagR] 4 rfl rfl (by lia)
  have key : ∃ w : Int, WOk w ∧ ([V.int (-1), .int 2, .int 0, .int 1])[c]? = some (.int w) := by
    rcases (by lia : c = 0 ∨ c = 1 ∨ c = 2 ∨ c = 3) with rfl | rfl | rfl | rfl
    · exact ⟨-1, .inl rfl, rfl⟩
    · exact ⟨2, .inr (.inr (.inr rfl)), rfl⟩
    · exact ⟨0, .inr (.inl rfl), rfl⟩
    · exact ⟨1, .inr (.inr (.inl rfl)), rfl⟩
  obtain ⟨w, hw, hwc⟩ := key
  refine ⟨w, σ₁, hw, ?_, h3, h4⟩
  exact call_go [bagR] (n := 32) rfl rfl rfl (fin_ret (r_idx rfl h2 rfl (place_nat h1) hwc))
noncomputable def Tm (tl : Nat) (l : List V) (σ : St) : Prop := σ.lst .tmp tl = some l
theorem Tm.same {tl : Nat} {l : List V} {σ σ' : St} (h : Tm tl l σ) (s : Same σ σ') : Tm tl l σ' := by
  unfold Tm St.lst at *
  rw [s .tmp (by decide)]; exact h
theorem Tm.set {tl : Nat} {l l' : List V} {σ : St} (h : Tm tl l σ) : Tm tl l' (σ.setO .tmp tl (.list l')) := by
  unfold Tm St.lst at *
  have : tl < (σ .tmp).length := by
    cases hh : (σ .tmp)[tl]? with
    | none => rw [hh] at h; simp at h
    | some o => exact (List.getElem?_eq_some_iff.mp hh).1
  simp [St.setO, St.put, this]
theorem Bg.tmp {is : List Int} {n tl : Nat} {σ : St} {o : MObj} (h : Bg is n σ) : Bg is n (σ.setO .tmp tl o) := h.other (by simp [St.setO, St.put])
theorem Same2.tmp {σ σ' : St} {tl : Nat} {o : MObj} (h : Same2 σ σ') : Same2 σ (σ'.setO .tmp tl o) := fun k hk hk' => by
  simp only [St.setO, St.put, if_neg hk']; exact h k hk hk'
noncomputable def planM (a params : Nat) (io : Bool) (size tl : Nat) (t kd : V) : List V := [bagR, .int a, .int params, .bool io, .int size, .ref .tmp tl, t, kd]
noncomputable def turnB : List MS := match f33.body.drop 2 with | .forR1 _ _ b :: _ => b | _ => []
theorem ex_append {cl : CallF} {e : ME} {m : List V} {σ σ' : St} {tl : Nat} {l : List V} {y : V} (hm : m[5]? = some (.ref .tmp tl)) (T : Tm tl l σ) (he : ev cl e m σ = some (y, σ')) (S : Same σ σ') (hl : l.length ≤ 1000) :
    ex cl (.expr (.append (.loc 5) e)) m σ = some (.next, m, σ'.setO .tmp tl (.list (l ++ [y]))) := by
  have T' : σ'.lst .tmp tl = some l := T.same S
  have T0 : σ.lst .tmp tl = some l := T
  exact x_expr' (r_append (r_locR hm) he T0 T' (okLen_of (k := 1001) (Nat.succ_le_succ hl) rfl) rfl)
theorem ok_words {is : List Int} {n : Nat} {σ : St} (B : Bg is n σ) (d : Nat) (m : List V) (hm : m[0]? = some bagR) (hn : n ≤ 190) :
    ∃ (ws : List (Nat × Nat)) (σ' : St), ws.length ≤ 2 ∧ (∀ w ∈ ws, w.2 < 4) ∧ ev (callD tab0 (d + 1)) (.tup [.con (.str "make"), .compR (.tup [.call (.glob "_law_told" (.fn 30)) [.loc 0, .con (.int 2)], .call (.glob "_law_told" (.fn 30)) [.loc 0, .con (.int 4)]]) (.bin .Add (.con (.int 1)) (.call (.glob "_law_told" (.fn 30)) [.loc 0, .con (.int 2)]))]) m σ = some (encD (.make ws), σ') ∧ Bg is (n + 5) σ' ∧ Same σ σ' := by
  obtain ⟨c, σ₁, h1, h2, h3, h4⟩ := ev_told B (by lia) d "_law_told" (.con (.int 2)) m 2 hm rfl (by lia)
  obtain ⟨ws, σ', g1, g2, g3, g4⟩ := gather_ex (f := fun j τ => (ev (callD tab0 (d + 1)) (.tup [.call (.glob "_law_told" (.fn 30)) [.loc 0, .con (.int 2)], .call (.glob "_law_told" (.fn 30)) [.loc 0, .con (.int 4)]]) (m ++ [.int j]) τ).bind fun (y, τ₁) => some ([y], τ₁)) (fun w : Nat × Nat => .tup [.int w.1, .int w.2]) (fun _ w => w.2 < 4) (fun j τ => Bg is (n + 1 + 2 * j) τ ∧ Same σ τ) 2 (fun j τ hj hI => by
    have hm0 : (m ++ [V.int j])[0]? = some bagR := by
      rw [List.getElem?_append_left (List.getElem?_eq_some_iff.mp hm).1]; exact hm
    obtain ⟨v, τ', k1, k2, k3, k4⟩ := ev_told hI.1 (by lia) d "_law_told" (.con (.int 2)) (m ++ [.int j]) 2 hm0 rfl (by lia)
    obtain ⟨v2, τ2, q1, q2, q3, q4⟩ := ev_told k3 (by lia) d "_law_told" (.con (.int 4)) (m ++ [.int j]) 4 hm0 rfl (by lia)
    refine ⟨(v, v2), τ2, ?_, q1, q3.mono (by lia), (hI.2.trans k4).trans q4⟩
    exact bind_eq (r_tup (r_cons k2 (r_cons q2 r_nil))) rfl) (1 + c) 0 σ₁ (by lia) ⟨h3, h4⟩
  refine ⟨ws, σ', by lia, fun w hw => ?_, ?_, g4.1.mono (by lia), g4.2⟩
  · obtain ⟨k, hk, rfl⟩ := List.mem_iff_getElem.mp hw
    exact g3 k _ (List.getElem?_eq_getElem hk)
  exact r_tup (r_cons rfl (r_cons (r_compR (r_bin rfl h2 (b_add (r := ((1 + c : Nat) : Int)) rfl)) (okLen_of (k := 4) (by lia) rfl) (small_of (n := 1 + c) (k := 4) (by lia) rfl) g1) r_nil))
theorem plan_turn {is : List Int} {n : Nat} {σ : St} (B : Bg is n σ) (d a params size tl j : Nat) (io : Bool) (kd : V) (ds : List Deed) (T : Tm tl (ds.map encD) σ) (hn : n ≤ 180) (hs : 0 < size) (hl : ds.length ≤ 100) :
    ∃ (x : Deed) (kd' : V) (σ' : St), exs (callD tab0 (d + 2)) turnB (planM a params io size tl (.int j) kd) σ = some (.next, planM a params io size tl (.int j) kd', σ') ∧ DeedOk a size x ∧ Tm tl ((ds ++ [x]).map encD) σ' ∧ Bg is (n + 8) σ' ∧ Same2 σ σ' := by
  obtain ⟨kind, σ₁, h1, h2, B1, S1⟩ := ev_told B (by lia) (d + 1) "_law_told" (.con (.int 4)) (planM a params io size tl (.int j) kd) 4 rfl rfl (by lia)
  have T1 := T.same S1
  have hll : (ds.map encD).length ≤ 1000 := by rw [List.length_map]; lia
  have done : ∀ (x : Deed) (σ₂ : St), DeedOk a size x → Same σ₁ σ₂ → Bg is (n + 8) σ₂ → exs (callD tab0 (d + 2)) (turnB.drop 1) (planM a params io size tl (.int j) (.int kind)) σ₁ = some (.next, planM a params io size tl (.int j) (.int kind), σ₂.setO .tmp tl (.list (ds.map encD ++ [encD x]))) →
      ∃ (x : Deed) (kd' : V) (σ' : St), exs (callD tab0 (d + 2)) turnB (planM a params io size tl (.int j) kd) σ = some (.next, planM a params io size tl (.int j) kd', σ') ∧ DeedOk a size x ∧ Tm tl ((ds ++ [x]).map encD) σ' ∧ Bg is (n + 8) σ' ∧ Same2 σ σ' := fun x σ₂ hx hS hB he =>
    ⟨x, .int kind, σ₂.setO .tmp tl (.list (ds.map encD ++ [encD x])), exs_step (m' := planM a params io size tl (.int j) (.int kind)) (x_asg' h2 rfl) he, hx, by rw [List.map_append]; exact (T1.same hS).set, hB.tmp, ((S1.trans hS).two).tmp⟩
  have fin' : ∀ (x : Deed) (e : ME) (σ₂ : St), ev (callD tab0 (d + 2)) e (planM a params io size tl (.int j) (.int kind)) σ₁ = some (encD x, σ₂) → Same σ₁ σ₂ →
      exs (callD tab0 (d + 2)) [.expr (.append (.loc 5) e)] (planM a params io size tl (.int j) (.int kind)) σ₁ = some (.next, planM a params io size tl (.int j) (.int kind), σ₂.setO .tmp tl (.list (ds.map encD ++ [encD x]))) := fun x e σ₂ he hS =>
    exs_step (ex_append rfl T1 he hS hll) exs_end
  rcases (by lia : kind = 0 ∨ kind = 1 ∨ kind = 2 ∨ kind = 3) with rfl | rfl | rfl | rfl
  · -- set
    obtain ⟨r, σ₂, k1, k2, B2, S2⟩ := ev_told B1 (by lia) (d + 1) "_law_told" (.loc 4) (planM a params io size tl (.int j) (.int 0)) size rfl rfl hs
    obtain ⟨v, σ₃, g1, g2, B3, S3⟩ := ev_told B2 (by lia) (d + 1) "_law_told" (.con (.int 50)) (planM a params io size tl (.int j) (.int 0)) 50 rfl rfl (by lia)
    exact done (.set r v) σ₃ k1 (S2.trans S3) (B3.mono (by lia)) (exs_step (x_if1 rfl (fin' (.set r v) _ _ (r_tup (r_cons rfl (r_cons k2 (r_cons g2 r_nil)))) (S2.trans S3))) exs_end)
  · -- put
    obtain ⟨r, σ₂, k1, k2, B2, S2⟩ := ev_told B1 (by lia) (d + 1) "_law_told" (.con (.int 6)) (planM a params io size tl (.int j) (.int 1)) 6 rfl rfl (by lia)
    obtain ⟨v, σ₃, g1, g2, B3, S3⟩ := ev_told B2 (by lia) (d + 1) "_law_told" (.con (.int 50)) (planM a params io size tl (.int j) (.int 1)) 50 rfl rfl (by lia)
    exact done (.put r v) σ₃ trivial (S2.trans S3) (B3.mono (by lia)) (exs_step (x_if0 rfl (exs_step (x_if1 rfl (fin' (.put r v) _ _ (r_tup (r_cons rfl (r_cons k2 (r_cons g2 r_nil)))) (S2.trans S3))) exs_end)) exs_end)
  · -- make
    obtain ⟨ws, σ₂, k1, k2, k3, B2, S2⟩ := ok_words B1 (d + 1) (planM a params io size tl (.int j) (.int 2)) rfl (by lia)
    exact done (.make ws) σ₂ ⟨k1, k2⟩ S2 (B2.mono (by lia)) (exs_step (x_if0 rfl (exs_step (x_if0 rfl (exs_step (x_if0 rfl (fin' _ _ _ k3 S2)) exs_end)) exs_end)) exs_end)
  · by_cases hc : 0 < a ∧ j = 0
    · -- call
      have ht : evT (callD tab0 (d + 2)) (.bop true [.cmp .Eq (.loc 7) (.con (.int 3)), .cmp .Gt (.loc 1) (.con (.int 0)), .cmp .Eq (.loc 6) (.con (.int 0))]) (planM a params io size tl (.int j) (.int 3)) σ₁ = some (true, σ₁) :=
        t_bop (t_and1 rfl (t_and1 (t_cmp rfl rfl (c_gt (Int.natCast_pos.mpr hc.1))) (t_and1 (t_cmp rfl rfl (c_eq (congrArg Nat.cast hc.2))) rfl)))
      obtain ⟨v, σ₂, k1, k2, B2, S2⟩ := ev_told B1 (by lia) (d + 1) "_law_told" (.loc 1) (planM a params io size tl (.int j) (.int 3)) a rfl rfl hc.1
      obtain ⟨row, σ₃, g1, g2, B3, S3⟩ := ok_row B2 d size hs (by lia)
      obtain ⟨w, σ₄, q1, q2, B4, S4⟩ := ok_wanted B3 d (by lia)
      exact done (.call v row w) σ₄ ⟨k1, g1, by rcases q1 with h | h | h | h <;> simp [h]⟩ ((S2.trans S3).trans S4) (B4.mono (by lia)) (exs_step (x_if0 rfl (exs_step (x_if0 rfl (exs_step (x_if1 ht
        (fin' (.call v row w) _ _ (r_tup (r_cons rfl (r_cons k2 (r_cons (r_call rfl (r_cons rfl (r_cons rfl r_nil)) g2) (r_cons (r_call rfl (r_cons rfl r_nil) q2) r_nil))))) ((S2.trans S3).trans S4))) exs_end)) exs_end)) exs_end)
    · have ht : evT (callD tab0 (d + 2)) (.bop true [.cmp .Eq (.loc 7) (.con (.int 3)), .cmp .Gt (.loc 1) (.con (.int 0)), .cmp .Eq (.loc 6) (.con (.int 0))]) (planM a params io size tl (.int j) (.int 3)) σ₁ = some (false, σ₁) := by
        refine t_bop (t_and1 rfl ?_)
        by_cases h1 : 0 < a
        · exact t_and1 (t_cmp rfl rfl (c_gt (Int.natCast_pos.mpr h1))) (t_and0 (t_cmp rfl rfl (c_neq fun h => hc ⟨h1, Int.ofNat.inj h⟩)))
        · exact t_and0 (t_cmp rfl rfl (c_ngt fun h => h1 (Int.natCast_pos.mp h)))
      obtain ⟨ws, σ₂, k1, k2, k3, B2, S2⟩ := ok_words B1 (d + 1) (planM a params io size tl (.int j) (.int 3)) rfl (by lia)
      exact done (.make ws) σ₂ ⟨k1, k2⟩ S2 (B2.mono (by lia)) (exs_step (x_if0 rfl (exs_step (x_if0 rfl (exs_step (x_if0 ht (fin' _ _ _ k3 S2)) exs_end)) exs_end)) exs_end)
theorem turns_ok {is : List Int} (d a params size tl : Nat) (io : Bool) (hs : 0 < size) (σ₀ : St) : ∀ (N : Nat) (j : Nat) (xs : List V) (σ : St) (t kd : V) (ds : List Deed) (n : Nat), xs.length = N → N ≤ 2 → (∀ (i : Nat) (x : V), xs[i]? = some x → x = V.int ((j + i : Nat) : Int)) → Bg is n σ → Tm tl (ds.map encD) σ → Same2 σ₀ σ → n + 8 * N ≤ 180 → ds.length + N ≤ 4 → (∀ x ∈ ds, DeedOk a size x) →
    ∃ (ds' : List Deed) (t' kd' : V) (σ' : St), loopF (fun x m τ => (putNm 6 x m).bind fun m₂ => exs (callD tab0 (d + 2)) turnB m₂ τ) xs (planM a params io size tl t kd) σ = some (.next, planM a params io size tl t' kd', σ') ∧ Tm tl (ds'.map encD) σ' ∧ Bg is (n + 8 * N) σ' ∧ Same2 σ₀ σ' ∧ ds'.length = ds.length + N ∧ (∀ x ∈ ds', DeedOk a size x)
  | 0, j, xs, σ, t, kd, ds, n, hx, _, _, B, T, S, _, _, hd => by
    rw [List.length_eq_zero_iff.mp hx]
    exact ⟨ds, t, kd, σ, rfl, T, B, S, rfl, hd⟩
  | N + 1, j, xs, σ, t, kd, ds, n, hx, hN, hxi, B, T, S, hn, hl, hd => by
    cases xs with
    | nil => simp at hx
    | cons x r =>
      have hx0 := hxi 0 x rfl
      rw [Nat.add_zero] at hx0
      subst hx0
      obtain ⟨y, kd₁, σ₁, h1, h2, h3, h4, h5⟩ := plan_turn B d a params size tl j io kd ds T (by lia) hs (by lia)
      obtain ⟨ds', t', kd', σ', g1, g2, g3, g4, g5, g6⟩ := turns_ok d a params size tl io hs σ₀ N (j + 1) r σ₁ (.int j) kd₁ (ds ++ [y]) (n + 8) (by simpa using hx) (by lia) (fun i x hi => by rw [show j + 1 + i = j + (i + 1) by lia]; exact hxi (i + 1) x hi) h4 h3 (S.trans h5) (by lia) (by simp only [List.length_append, List.length_singleton]; lia) (fun z hz => by
        rcases List.mem_append.mp hz with h | h
        · exact hd z h
        · rw [List.mem_singleton.mp h]; exact h2)
      refine ⟨ds', t', kd', σ', ?_, g2, g3.mono (by lia), g4, by rw [g5]; simp; lia, g6⟩
      exact bind_eq (bind_eq rfl h1) g1
end Mine
end
section
set_option maxRecDepth 100000
namespace Mine
theorem ev_row_told {is : List Int} {n : Nat} {σ : St} (B : Bg is n σ) (d size : Nat) (m : List V) (hm : m[0]? = some bagR) (hm4 : m[4]? = some (.int size)) (hs : 0 < size) (hn : n ≤ 190) :
    ∃ (row : List Nat) (σ' : St), RowOk size row ∧ ev (callD tab0 (d + 2)) (.call (.glob "_law_row" (.fn 31)) [.loc 0, .loc 4]) m σ = some (rowV row, σ') ∧ Bg is (n + 4) σ' ∧ Same σ σ' := by
  obtain ⟨row, σ', g1, g2, B3, S3⟩ := ok_row B d size hs hn
  exact ⟨row, σ', g1, r_call rfl (r_cons (r_locR hm) (r_cons (r_locI hm4) r_nil)) g2, B3, S3⟩
noncomputable def endB : List MS := f33.body.drop 4
theorem plan_end {is : List Int} {n : Nat} {σ : St} (B : Bg is n σ) (d a params size tl k5 : Nat) (io : Bool) (t : V) (ds : List Deed) (T : Tm tl (ds.map encD) σ) (hn : n ≤ 185) (hs : params < size) (hs2 : size ≤ 10) (hl : ds.length ≤ 2) (hd : ∀ x ∈ ds, DeedOk a size x) (hk5 : k5 < 5) :
    ∃ (p : Plan) (σ' : St), fin (exs (callD tab0 (d + 2)) endB (planM a params io size tl t (.int k5)) σ) = some (encP p, σ') ∧ PlanOk a p ∧ Bg is (n + 5) σ' ∧ Same2 σ σ' := by
  have T0 : σ.lst .tmp tl = some (ds.map encD) := T
  have B1 : Bg is n (σ.setO .tmp tl .gone) := B.tmp
  have S1 : Same2 σ (σ.setO .tmp tl .gone) := (Same2.refl σ).tmp
  have hm0 : (planM a params io size tl t (.int k5))[0]? = some bagR := rfl
  have tup : ∀ (e : ME) (l : Last) (σ₂ : St), ev (callD tab0 (d + 2)) e (planM a params io size tl t (.int k5)) (σ.setO .tmp tl .gone) = some (.tup (encL l), σ₂) →
      ev (callD tab0 (d + 2)) (.tup [.loc 2, .loc 3, .loc 4, .freeze (.loc 5), e]) (planM a params io size tl t (.int k5)) σ = some (encP ⟨params, io, size, ds, l⟩, σ₂) := fun e l σ₂ he =>
    r_tup (r_cons rfl (r_cons rfl (r_cons rfl (r_cons (r_freeze rfl T0 rfl) (r_cons he r_nil)))))
  have pok : ∀ l, LastOk a size l → PlanOk a ⟨params, io, size, ds, l⟩ := fun l hl' => ⟨hs, hs2, hl, hd, hl'⟩
  by_cases h4 : k5 = 4
  · subst h4
    refine ⟨_, _, ?_, pok .fail trivial, B1.mono (by lia), S1⟩
    exact fin_ifR rfl (exs_ret (tup _ .fail _ rfl))
  have hskip : evT (callD tab0 (d + 2)) (.cmp .Eq (.loc 7) (.con (.int 4))) (planM a params io size tl t (.int k5)) σ = some (false, σ) := t_cmp rfl rfl (c_neq fun h => h4 (Int.ofNat.inj h))
  by_cases hg : (k5 = 0 ∨ k5 = 2) ∧ 0 < a
  · have ht : evT (callD tab0 (d + 2)) (.bop true [.cmp .In (.loc 7) (.tup [.con (.int 0), .con (.int 2)]), .cmp .Gt (.loc 1) (.con (.int 0))]) (planM a params io size tl t (.int k5)) σ = some (true, σ) := by
      refine t_bop (t_and1 ?_ (t_and1 (t_cmp rfl rfl (c_gt (Int.natCast_pos.mpr hg.2))) rfl))
      rcases hg.1 with rfl | rfl <;> rfl
    obtain ⟨v, σ₂, k1, k2, B2, S2⟩ := ev_told B1 (by lia) (d + 1) "_law_told" (.loc 1) (planM a params io size tl t (.int k5)) a rfl rfl hg.2
    obtain ⟨row, σ₃, g1, g2, B3, S3⟩ := ev_row_told B2 d size (planM a params io size tl t (.int k5)) rfl rfl (by lia) (by lia)
    refine ⟨_, σ₃, ?_, pok (.go v row) ⟨k1, g1⟩, B3.mono (by lia), (S1.trans S2.two).trans S3.two⟩
    exact fin_skip hskip (fin_ifR ht (exs_ret (tup _ (.go v row) σ₃ (r_tup (r_cons rfl (r_cons k2 (r_cons g2 r_nil)))))))
  · have ht : evT (callD tab0 (d + 2)) (.bop true [.cmp .In (.loc 7) (.tup [.con (.int 0), .con (.int 2)]), .cmp .Gt (.loc 1) (.con (.int 0))]) (planM a params io size tl t (.int k5)) σ = some (false, σ) := by
      have hb : ∀ b : Bool, evT (callD tab0 (d + 2)) (.cmp .In (.loc 7) (.tup [.con (.int 0), .con (.int 2)])) (planM a params io size tl t (.int k5)) σ = some (b, σ) → (b = true → ¬ 0 < a) →
          evT (callD tab0 (d + 2)) (.bop true [.cmp .In (.loc 7) (.tup [.con (.int 0), .con (.int 2)]), .cmp .Gt (.loc 1) (.con (.int 0))]) (planM a params io size tl t (.int k5)) σ = some (false, σ) := fun b h h' => match b, h, h' with
        | true, h, h' => t_bop (t_and1 h (t_and0 (t_cmp rfl rfl (c_ngt fun h => h' rfl (Int.natCast_pos.mp h)))))
        | false, h, _ => t_bop (t_and0 h)
      rcases (by lia : k5 = 0 ∨ k5 = 1 ∨ k5 = 2 ∨ k5 = 3) with rfl | rfl | rfl | rfl
      · exact hb true rfl fun _ h => hg ⟨.inl rfl, h⟩
      · exact hb false rfl fun h => nomatch h
      · exact hb true rfl fun _ h => hg ⟨.inr rfl, h⟩
      · exact hb false rfl fun h => nomatch h
    obtain ⟨row, σ₃, g1, g2, B3, S3⟩ := ev_row_told B1 d size (planM a params io size tl t (.int k5)) rfl rfl (by lia) (by lia)
    refine ⟨_, σ₃, ?_, pok (.ret row) g1, B3.mono (by lia), S1.trans S3.two⟩
    exact fin_skip hskip (fin_skip ht (fin_ret (tup _ (.ret row) σ₃ (r_tup (r_cons rfl (r_cons rfl (r_cons g2 r_nil)))))))
theorem ok_plan {is : List Int} {n : Nat} {σ : St} (B : Bg is n σ) (d a : Nat) (hn : n ≤ 150) :
    ∃ (p : Plan) (σ' : St), callD tab0 (d + 3) (.fn 33) [bagR, .int a] σ = some (encP p, σ') ∧ PlanOk a p ∧ Bg is (n + 26) σ' ∧ Same2 σ σ' := by
  let m0 : List V := [bagR, .int a, .undef, .undef, .undef, .undef, .undef, .undef]
  obtain ⟨params, σ₁, k1, k2, B1, S1⟩ := ev_told B (by lia) (d + 1) "_law_told" (.con (.int 3)) m0 3 rfl rfl (by lia)
  obtain ⟨iov, σ₂, g1, g2, B2, S2⟩ := ev_told B1 (by lia) (d + 1) "_law_told" (.con (.int 2)) m0 2 rfl rfl (by lia)
  let io : Bool := ((iov : Int) == 1)
  let m1 : List V := [bagR, .int a, .int params, .bool io, .undef, .undef, .undef, .undef]
  obtain ⟨v, σ₃, q1, q2, B3, S3⟩ := ev_told B2 (by lia) (d + 1) "_law_told" (.con (.int 2)) m1 2 rfl rfl (by lia)
  let tl := (σ₃ .tmp).length
  let σ₄ := σ₃.push .tmp (.list [])
  have B4 : Bg is (n + 1 + 1 + 1) σ₄ := B3.other (by simp [σ₄, St.push, St.put])
  have S4 : Same2 σ σ₄ := ((S1.trans S2).trans S3).two.trans fun k hk hk' => by simp [σ₄, St.push, St.put, hk']
  have T4 : Tm tl (([] : List Deed).map encD) σ₄ := by simp [Tm, St.lst, σ₄, tl, St.push, St.put]
  let m2 : List V := planM a params io (params + 1 + v) tl .undef .undef
  obtain ⟨c, σ₅, w1, w2, B5, S5⟩ := ev_told B4 (by lia) (d + 1) "_law_told" (.con (.int 3)) m2 3 rfl rfl (by lia)
  have T5 := T4.same S5
  have hrl : (rangeV 0 (c : Int)).length = c := by
    have : (rangeV ((0 : Nat) : Int) (c : Int)).length = c := by rw [rangeV_length]; lia
    exact this
  obtain ⟨ds, t', kd', σ₆, y1, T6, B6, S6, y5, y6⟩ := turns_ok d a params (params + 1 + v) tl io (by lia) σ c 0 (rangeV 0 c) σ₅ .undef .undef [] _ hrl (by lia) (fun i x hi => by
    have hi' : (rangeV ((0 : Nat) : Int) (c : Int))[i]? = some x := hi
    exact (range_get hi').2) B5 T5 (S4.trans S5.two) (by lia) (by simp; lia) (fun x hx => by simp at hx)
  obtain ⟨k5, σ₇, z1, z2, B7, S7⟩ := ev_told B6 (by lia) (d + 1) "_law_told" (.con (.int 5)) (planM a params io (params + 1 + v) tl t' kd') 5 rfl rfl (by lia)
  obtain ⟨p, σ₈, e1, e2, B8, S8⟩ := plan_end B7 d a params (params + 1 + v) tl k5 io t' ds (T6.same S7) (by lia) (by lia) (by lia) (by simp at y5; lia) y6 z1
  refine ⟨p, σ₈, ?_, e2, B8.mono (by lia), (S6.trans S7.two).trans S8⟩
  refine call_go m0 (n := 33) rfl rfl rfl ?_
  generalize callD tab0 (d + 2) = cl at *
  refine fin_step (m' := m1) (σ' := σ₂) (x_asgT' (r_tup (r_cons k2 (r_cons (r_cmp g2 rfl rfl) r_nil))) rfl) ?_
  refine fin_step (m' := m2) (σ' := σ₄) (x_asgT' (r_tup (r_cons (r_bin rfl q2 (b_add (r := ((params + 1 + v : Nat) : Int)) rfl)) (r_cons (r_newl r_nil rfl) r_nil))) rfl) ?_
  refine fin_step (m' := planM a params io (params + 1 + v) tl t' kd') (σ' := σ₆) (x_forR1' (B := turnB) w2 (okLen_of (k := 4) (Nat.le_of_lt (Nat.lt_of_lt_of_le w1 (by decide))) rfl) (small_of (k := 4) (Nat.le_of_lt (Nat.lt_of_lt_of_le w1 (by decide))) rfl) y1) ?_
  exact fin_step (m' := planM a params io (params + 1 + v) tl t' (.int k5)) (σ' := σ₇) (x_asg' z2 rfl) e1
end Mine
end
section
set_option maxRecDepth 100000
namespace Mine
noncomputable def lawM (is : List Int) (b c d e f g h : V) : List V := [.lst (is.map .int), b, c, d, e, f, g, h]
theorem c_nneT {σ : St} {l : List V} (h : eqP 30 (.tup l) (.tup l) = true) : cmpop σ .NotEq (.tup l) (.tup l) = some false := bind_eq (show peq (.tup l) (.tup l) = some true from if_pos h) rfl
theorem ev_told1 {is : List Int} {n : Nat} {σ : St} (B : Bg is n σ) (hn : n ≤ 200) (d : Nat) (x : PySem.Str) (e : ME) (m : List V) (many : Nat) (hm : m[1]? = some bagR) (he : ev (callD tab0 (d + 1)) e m σ = some (.int many, σ)) (hp : 0 < many) :
    ∃ (v : Nat) (σ' : St), v < many ∧ ev (callD tab0 (d + 1)) (.call (.glob x (.fn 30)) [.loc 1, e]) m σ = some (.int v, σ') ∧ Bg is (n + 1) σ' ∧ Same σ σ' := by
  obtain ⟨v, σ', h1, h2, h3, h4⟩ := ok_told B d many hp hn
  exact ⟨v, σ', h1, r_call rfl (r_cons (r_locR hm) (r_cons he r_nil)) h2, h3, h4⟩
theorem law_eval (is : List Int) (his : is.length ≤ 63) (g : Nat) (hg : 16 ≤ g) : ∃ σ', callD tab0 (g + 2) (.fn 41) [.lst (is.map .int)] (fun _ => []) = some (.bool true, σ') := by
  let σ₀ : St := fun _ => []
  let σ₁ : St := σ₀.push .bag (.dict [.lst (is.map .int), .int 0])
  have B1 : Bg is 0 σ₁ := ⟨0, Nat.le_refl _, rfl⟩
  let m1 := lawM is bagR .undef .undef .undef .undef .undef .undef
  obtain ⟨c, σ₂, c1, c2, B2, S2⟩ := ev_told1 B1 (by lia) g "_law_told" (.con (.int 4)) m1 4 rfl rfl (by lia)
  obtain ⟨k, hk1, hk2, hk3⟩ : ∃ k : Nat, 1 ≤ k ∧ k ≤ 3 ∧ ([V.int 1, .int 2, .int 2, .int 3])[c]? = some (.int k) := by
    rcases (by lia : c = 0 ∨ c = 1 ∨ c = 2 ∨ c = 3) with rfl | rfl | rfl | rfl
    · exact ⟨1, by lia, by lia, rfl⟩
    · exact ⟨2, by lia, by lia, rfl⟩
    · exact ⟨2, by lia, by lia, rfl⟩
    · exact ⟨3, by lia, by lia, rfl⟩
  obtain ⟨ps, σ₃, p1, p2, p3, p4⟩ := gather_ex (f := fun j τ => (ev (callD tab0 (g + 1)) (.call (.glob "_law_plan" (.fn 33)) [.loc 1, .loc 8]) (m1 ++ [.int j]) τ).bind fun (y, τ₁) => some ([y], τ₁)) encP (fun j p => PlanOk j p) (fun j τ => Bg is (1 + 26 * j) τ ∧ Same2 σ₁ τ) 3 (fun j τ hj hI => by
    obtain ⟨p, τ', q1, q2, q3, q4⟩ := ok_plan hI.1 (g - 2) j (by lia)
    rw [show g - 2 + 3 = g + 1 by lia] at q1
    exact ⟨p, τ', bind_eq (r_call rfl rfl q1) rfl, q2, q3.mono (by lia), hI.2.trans q4⟩) k 0 σ₂ (by lia) ⟨B2, S2.two⟩
  have hps : PlansOk ps := ⟨by lia, fun i p h => by have := p3 i p h; rwa [Nat.zero_add] at this⟩
  let m2 := lawM is bagR (plsV ps) .undef .undef .undef .undef .undef
  obtain ⟨c3, σ₄, a1, a2, B4, S4⟩ := ev_told1 p4.1 (by lia) g "_law_told" (.con (.int 4)) m2 4 rfl rfl (by lia)
  obtain ⟨as, σ₅, b1, b2, b3, b4⟩ := gather_ex (f := fun j τ => (ev (callD tab0 (g + 1)) (.call (.glob "_law_told" (.fn 30)) [.loc 1, .con (.int 90)]) (m2 ++ [.int j]) τ).bind fun (y, τ₁) => some ([y], τ₁)) (fun i : Nat => V.int i) (fun _ _ => True) (fun j τ => Bg is (80 + j) τ ∧ Same2 σ₁ τ) 3 (fun j τ hj hI => by
    obtain ⟨v, τ', q1, q2, q3, q4⟩ := ok_told hI.1 g 90 (by lia) (by lia)
    exact ⟨v, τ', bind_eq (r_call rfl rfl q2) rfl, trivial, q3, hI.2.trans q4.two⟩) c3 0 σ₄ (by lia) ⟨B4.mono (by lia), p4.2.trans S4.two⟩
  let args : List V := as.map fun i : Nat => V.int i
  have hat : ∀ v ∈ args, Atom v := fun v hv => by
    obtain ⟨i, _, rfl⟩ := List.mem_map.mp hv
    trivial
  have hal : args.length ≤ 3 := by simp only [args, List.length_map]; lia
  obtain ⟨w, σ₆, w1, w2, B6, S6⟩ := ok_wanted b4.1 (g - 1) (by lia)
  rw [show g - 1 + 2 = g + 1 by lia] at w2
  obtain ⟨lo, σ₇, l1, l2, B7, S7⟩ := ok_told B6 g 5 (by lia) (by lia)
  have hup7 : σ₇ .upval = [] := by
    have := ((b4.2.trans S6.two).trans S7.two) .upval (by decide) (by decide)
    rw [this]; rfl
  obtain ⟨σ₈, pl1, x1, x2, x3, x4, x5, x6⟩ := world_ok σ₇ g ps args w (1 + lo) true (by lia) hps (by lia) hat hal w1 (by lia) (by rw [hup7]; simp)
  have B8 : Bg is _ σ₈ := B7.other x2
  obtain ⟨hi, σ₉, h1, h2, B9, S9⟩ := ok_told B8 g 6 (by lia) (by lia)
  have hup9 : (σ₉ .upval).length ≤ 400 := by
    rw [S9 .upval (by decide)]
    rw [hup7] at x3
    simpa using x3
  obtain ⟨σ₁₀, pl2, y1, y2, y3, y4, _, _⟩ := world_ok σ₉ g ps args w (1 + lo + 1 + hi) true (by lia) hps (by lia) hat hal w1 (by lia) (by lia)
  obtain ⟨σ₁₁, pl3, z1, z2, z3, z4, _, _⟩ := world_ok σ₁₀ g ps args w (1 + lo) false (by lia) hps (by lia) hat hal w1 (by lia) (by lia)
  have hpl : pl2 = pl1 := (y4 rfl).trans (x4 rfl).symm
  subst hpl
  rw [← x4 rfl] at x6
  clear x4 y4 z4 x2 x3 y2 y3 z2 z3
  have hT : eqP 30 (told ps args w) (told ps args w) = true := x5 15
  have hTT : eqP 30 (.tup [told ps args w, .lst pl2]) (.tup [told ps args w, .lst pl2]) = true := by
    refine PV.tup (k := 15) (fun v hv => ?_) 14
    simp only [List.mem_cons, List.not_mem_nil, or_false] at hv
    rcases hv with rfl | rfl
    · exact x5
    · exact (PV.lst (k := 8) x6).le (by lia)
  refine ⟨σ₁₁, call_go (lawM is .undef .undef .undef .undef .undef .undef .undef) (n := 41) rfl rfl rfl ?_⟩
  have l2 : callD tab0 (g + 1) (.fn 30) [bagR, .int 5] σ₆ = _ := l2
  have h2 : callD tab0 (g + 1) (.fn 30) [bagR, .int 6] σ₈ = _ := h2
  generalize callD tab0 (g + 1) = cl at *
  have hcut : cutAB (is.map V.int) Option.none (some 63) = is.map V.int := by
    have hl : (is.map V.int).length ≤ 63 := by rw [List.length_map]; exact his
    have e2 : PySem.clipAt (is.map V.int).length 63 = (is.map V.int).length := (PySem.clipAt_nat _ 63).trans (Nat.min_eq_right hl)
    simp only [cutAB, Option.elim, e2, List.drop_zero, Nat.sub_zero, List.take_length]
  refine fin_step (m' := m1) (σ' := σ₁) (x_asg' (r_newd (r_cons (r_slcB rfl rfl (congrArg (fun l => some (V.lst l)) hcut)) (r_cons rfl r_nil)) rfl) rfl) ?_
  refine fin_step (m' := m2) (σ' := σ₃) (x_asg' (r_compR (r_idx rfl c2 rfl (place_nat c1) hk3) (okLen_of (k := 3) hk2 rfl) (small_of (k := 3) hk2 rfl) p1) rfl) ?_
  let m3 := lawM is bagR (plsV ps) (.lst args) .undef .undef .undef .undef
  refine fin_step (m' := m3) (σ' := σ₅) (x_asg' (r_compR a2 (okLen_of (k := 4) (Nat.le_of_lt a1) rfl) (small_of (k := 4) (Nat.le_of_lt a1) rfl) b1) rfl) ?_
  let m4 := lawM is bagR (plsV ps) (.lst args) (.int w) (.int (1 + lo : Nat)) .undef .undef
  refine fin_step (m' := m4) (σ' := σ₇) (x_asgT' (r_tup (r_cons (r_call rfl rfl w2) (r_cons (r_bin rfl (r_call rfl rfl l2) (b_add (r := ((1 + lo : Nat) : Int)) rfl)) r_nil))) rfl) ?_
  let m5 := lawM is bagR (plsV ps) (.lst args) (.int w) (.int (1 + lo : Nat)) (told ps args w) (.lst pl2)
  refine fin_step (m' := m5) (σ' := σ₈) (x_asgT' (r_call rfl rfl x1) rfl) ?_
  refine fin_skip (σ₁ := σ₁₀) (t_bop (t_or0 rfl (t_or0 (t_cmp (r_call rfl (r_cons rfl (r_cons rfl (r_cons rfl (r_cons (r_bin rfl (r_call rfl rfl h2) (b_add (r := ((1 + lo + 1 + hi : Nat) : Int)) rfl)) (r_cons rfl r_nil))))) y1) rfl (c_nneT hTT)) rfl))) (fin_ret (r_cmp (r_idx (r_call rfl rfl z1) rfl rfl rfl rfl) rfl (cmp_same hT)))
end Mine
end
section
open PySem PySem.W PyProof.Rows PySem.Calls
set_option maxRecDepth 100000
namespace Mine
theorem someB_of {α : Type} {o : Option α} {f : α → Bool} (h : someB o f = true) : ∃ x, o = some x ∧ f x = true := by
  cases o with
  | none => exact absurd h Bool.false_ne_true
  | some x => exact ⟨x, rfl, h⟩
theorem refOf_of {x : Value} {a : Addr} (h : refOf x = some a) : x = .ref a := by
  cases x with
  | ref b => cases h; rfl
  | _ => exact ns h
theorem bltOf_of {x : Value} {a : String} (h : bltOf x = some a) : x = .builtin a := by
  cases x with
  | builtin b => cases h; rfl
  | _ => exact ns h
theorem tyOf_of {x : Value} {a : String} (h : tyOf x = some a) : x = .type a := by
  cases x with
  | type b => cases h; rfl
  | _ => exact ns h
theorem intOfV_of {x : Value} {a : Int} (h : intOfV x = some a) : ∃ t, x = .int a t := by
  cases x with
  | int b t => cases h; exact ⟨t, rfl⟩
  | _ => exact ns h
theorem valOf_of {x : CFound} {a : Value} (h : valOf x = some a) : x = .val a := by
  cases x with
  | val b => cases h; rfl
  | _ => exact ns h
theorem funcOf_of {x : Data} {a : FuncData} (h : funcOf x = some a) : x = .func a := by
  cases x with
  | func b => cases h; rfl
  | _ => exact ns h
theorem noneV_of {x : Value} (h : noneV x = true) : x = .none := by
  cases x with
  | none => rfl
  | _ => exact absurd h Bool.false_ne_true
theorem isFun_of {x : ScopeKind} (h : isFun x = true) : x = .function := by
  cases x with
  | function => rfl
  | _ => exact absurd h Bool.false_ne_true
theorem isRef_iff {v : Option (Option Value)} {a : Addr} (h : isRef v a = true) : v = some (some (.ref a)) := by
  obtain ⟨o, e1, h⟩ := someB_of h
  obtain ⟨x, e2, h⟩ := someB_of h
  rw [e1, e2, refOf_of (eq_of_beq h)]
theorem isBlt_iff {v : Option (Option Value)} {s : String} (h : isBlt v s = true) : v = some (some (.builtin s)) := by
  obtain ⟨o, e1, h⟩ := someB_of h
  obtain ⟨x, e2, h⟩ := someB_of h
  rw [e1, e2, bltOf_of (eq_of_beq h)]
theorem isAbs_iff {v : Option (Option Value)} (h : isAbs v = true) : v = some Option.none := by
  obtain ⟨o, e1, h⟩ := someB_of h
  rw [e1, Option.isNone_iff_eq_none.mp h]
theorem isTy_iff {v : Option Value} {s : String} (h : isTy v s = true) : v = some (.type s) := by
  obtain ⟨o, rfl, h⟩ := someB_of h
  rw [tyOf_of (eq_of_beq h)]
theorem zip_lookup : ∀ (ns : List Str) (vals : List Value), ns.Nodup → vals.length = ns.length → ∀ n ∈ ns, ((ns.zip vals).lookup n).isSome = true
  | [], _, _, _, n, hn => by simp at hn
  | x :: r, [], _, hl, _, _ => by simp at hl
  | x :: r, v :: vs, hd, hl, n, hn => by
    rw [List.zip_cons_cons, List.lookup_cons]
    by_cases h : n = x
    · subst h; simp
    · have : (n == x) = false := beq_eq_false_iff_ne.mpr h
      rw [this]
      exact zip_lookup r vs (List.nodup_cons.mp hd).2 (by simpa using hl) n ((List.mem_cons.mp hn).resolve_left h)
theorem zip_filterMap : ∀ (ns : List Str) (vals : List Value), ns.Nodup → vals.length = ns.length → (ns.filterMap fun n => ((ns.zip vals).lookup n).map (n, ·)) = ns.zip vals
  | [], _, _, _ => rfl
  | x :: r, [], _, hl => by simp at hl
  | x :: r, v :: vs, hd, hl => by
    obtain ⟨h1, h2⟩ := List.nodup_cons.mp hd
    rw [List.zip_cons_cons, List.filterMap_cons]
    simp only [List.lookup_cons, beq_self_eq_true, Option.map_some]
    congr 1
    refine Eq.trans ?_ (zip_filterMap r vs h2 (by simpa using hl))
    have : ∀ l : List Str, (∀ n ∈ l, n ≠ x) → (l.filterMap fun n => (match n == x with | true => some v | false => (r.zip vs).lookup n).map (n, ·)) = l.filterMap fun n => ((r.zip vs).lookup n).map (n, ·) := by
      intro l hl
      induction l with
      | nil => rfl
      | cons y t ih =>
        have e : (y == x) = false := beq_eq_false_iff_ne.mpr (hl y List.mem_cons_self)
        rw [List.filterMap_cons, List.filterMap_cons, e, ih fun n hn => hl n (List.mem_cons_of_mem _ hn)]
    exact this r fun n hn e => h1 (e ▸ hn)
theorem bind_plain0 {nm qn : Str} {args : List Arg} {kd : List (Option PySem.Expr)} {df : List PySem.Expr} {body : FuncBody} {sc : Scope} {gl : Addr} {clo : List (Str × Addr)} {kwd doc pm code ct : Value} {ann : Option Addr} {bi : Addr} (vals : List Value) (hl : ¬ vals.length > (args.map (·.arg)).length)
   (h3 : ∀ n, (((args.map (·.arg)).take n).filter fun n => (((args.map (·.arg)).zip vals).lookup n).isNone) = []) (h2 : ((args.map (·.arg)).filterMap fun n => (((args.map (·.arg)).zip vals).lookup n).map (n, ·)) = (args.map (·.arg)).zip vals) :
    bindArgs ⟨nm, qn, ⟨[], args, Option.none, [], kd, Option.none, df⟩, body, sc, gl, clo, .none, kwd, doc, pm, ann, code, ct, bi⟩ ⟨vals, []⟩ = pure ((args.map (·.arg)).zip vals) := by
  refine (if_neg (c := (decide (vals.length > (args.map (·.arg)).length) && true) = true) ?_).trans ?_
  · rw [decide_eq_false hl]; exact Bool.false_ne_true
  have hdr : ∀ k, List.drop k ((Option.none : Option (Array Value)).getD #[]).toList = [] := fun k => List.drop_nil
  rw [hdr]
  refine (if_neg (c := (!(((args.map (·.arg)).take (args.map (·.arg)).length).filter fun n => (((args.map (·.arg)).zip vals).lookup n).isNone).isEmpty) = true) ?_).trans ?_
  · rw [h3]; exact Bool.false_ne_true
  refine (congrArg (fun l => (forIn (m := Sem) l ((args.map Arg.arg).zip vals) (fun x r => if (r.lookup x.1).isNone = true then pure (ForInStep.yield (r ++ [(x.1, x.2)])) else pure (ForInStep.yield r))) >>= fun r => (pure (((args.map Arg.arg) ++ []).filterMap fun n => (r.lookup n).map (n, ·)) : Sem (List (Str × Value)))) (List.zip_nil_right (l := (args.map Arg.arg).drop (args.map Arg.arg).length) : List.zip _ ([] : List Value) = [])).trans ?_
  rw [List.append_nil]
  exact congrArg (fun l => (pure l : Sem (List (Str × Value)))) h2
theorem bind_plain (fd : FuncData) (vals : List Value) (hp : fd.params.posonlyargs = []) (hk : fd.params.kwonlyargs = []) (hv : fd.params.vararg = Option.none) (hkw : fd.params.kwarg = Option.none) (hd : fd.defaults = .none) (hn : (fd.params.args.map (·.arg)).Nodup) (hl : vals.length = (fd.params.args.map (·.arg)).length) :
    bindArgs fd ⟨vals, []⟩ = pure ((fd.params.args.map (·.arg)).zip vals) := by
  have h1 := zip_lookup _ vals hn hl
  have h2 := zip_filterMap _ vals hn hl
  obtain ⟨nm, qn, ⟨po, args, va, ko, kd, kw, df⟩, body, sc, gl, clo, dflt, kwd, doc, pm, ann, code, ct, bi⟩ := fd
  obtain rfl : po = [] := hp
  obtain rfl : ko = [] := hk
  obtain rfl : va = Option.none := hv
  obtain rfl : kw = Option.none := hkw
  obtain rfl : dflt = .none := hd
  refine bind_plain0 vals (Nat.not_lt.mpr (Nat.le_of_eq hl)) (fun n => List.filter_eq_nil_iff.mpr fun x hx => ?_) h2
  have := h1 x (List.mem_of_mem_take hx)
  cases hh : ((args.map (·.arg)).zip vals).lookup x with
  | none => rw [hh] at this; exact absurd this Bool.false_ne_true
  | some v => exact Bool.false_ne_true
theorem keep_of {K : Frag} {a : Addr} {o : Obj} {fd : FuncData} (h : K.lookup a = some o) (hd : o.data = .func fd) : keepIn K (.ref a) = true := by
  obtain ⟨c, d, dt, sl⟩ := o
  have hd : dt = .func fd := hd
  subst hd
  unfold keepIn
  simp only [h]
theorem fnAt_of {g : GG} {n : Nat} {mf : MF} (hfa : g.fa = faN) (h : fnB g.K n mf = true) (hb : bodyK g.K n = bodyM n mf) : ∃ o fd st, FnAt g glob0 n mf o fd st := by
  obtain ⟨o, hK, h⟩ := someB_of h
  obtain ⟨fd, hd, h⟩ := someB_of h
  have e1 := b1 h; have h := b2 h
  have e2 := b1 h; have h := b2 h
  have e3 := b1 h; have h := b2 h
  have e4 := b1 h; have h := b2 h
  have e5 := b1 h; have h := b2 h
  have e6 := b1 h; have h := b2 h
  have e7 := b1 h; have h := b2 h
  have e8 := b1 h; have h := b2 h
  have e9 := b1 h; have h := b2 h
  have e11 := b1 h; have h := b2 h
  have e12 := of_decide_eq_true (b1 h); have h := b2 h
  have e13 := of_decide_eq_true (b1 h); have h := b2 h
  have p5 := eq_of_beq (b2 (b2 (b2 (b2 e11))))
  have hB : fd.body = .stmts (buildSs mf.vars mf.body (pwBody n)) := by
    unfold bodyK bodyM at hb
    rw [hK, Option.bind_some, hd] at hb
    exact Option.some.inj hb
  rw [← hfa] at hK
  exact ⟨o, fd, pwBody n, {
    here := hK
    data := funcOf_of hd
    code := e3
    coro := (Bool.not_eq_true' _).mp e4
    gen := (Bool.not_eq_true' _).mp e5
    kind := isFun_of e6
    body := hB
    clo := List.isEmpty_iff.mp (b1 h)
    glo := eq_of_beq e1
    bui := eq_of_beq e2
    chk := e7
    free := e8
    par := e9
    bind := fun vals hl => p5 ▸ bind_plain fd vals (List.isEmpty_iff.mp (b1 e11)) (List.isEmpty_iff.mp (b1 (b2 e11))) (Option.isNone_iff_eq_none.mp (b1 (b2 (b2 e11)))) (Option.isNone_iff_eq_none.mp (b1 (b2 (b2 (b2 e11))))) (noneV_of (b2 h)) (by rw [p5]; exact e13) (by rw [p5, hl, List.length_take]; exact (Nat.min_eq_left e12).symm)
    keep := keep_of hK (funcOf_of hd)
    np := e12
    nodup := e13 }⟩
theorem clsOk_of {g : GG} {k : Kd} (hfa : g.fa = faN) (hca : g.ca = caK) (htab : g.tab = tab0) (h : clsB g.K k = true) : ClsOk g k := by
  unfold clsB at h
  have e1 := b1 h; have h := b2 h
  have e2 := b1 h; have h := b2 h
  have e3 := b1 h; have h := b2 h
  have e4 := b1 h; have h := b2 h
  have e5 := b1 h; have h := b2 h
  have e6 := b1 h; have h := b2 h
  have e7 := b1 h; have h := b2 h
  have e8 := b1 h; have h := b2 h
  have e9 := b1 h; have h := b2 h
  have e10 := b1 h; have h := b2 h
  have e11 := beq_iff_eq.mp (b1 h); have e12 := b2 h
  rw [← hca] at e1 e2 e3 e4 e5 e6 e7 e8 e9 e10 e11 e12
  rw [← hfa] at e9 e12
  refine ⟨e1, e2, fun x hx => isAbs_iff (List.all_eq_true.mp e3 x hx), isBlt_iff e4, e5, fun x hx => isAbs_iff (List.all_eq_true.mp e6 x hx), e7, e8, fun n hn => ?_, isBlt_iff e10, e11, fun nm f hm => ?_⟩
  · rw [htab] at hn
    have hn : iniTab k = some n := hn
    rw [hn] at e9
    exact ⟨isRef_iff (b1 e9), isTy_iff (b2 e9)⟩
  · have := List.all_eq_true.mp e12 _ hm
    simp only [decide_true, Bool.not_true, Bool.false_or] at this
    exact ⟨isRef_iff (b1 this), isTy_iff (b1 (b2 this)), by have := b2 (b2 this); simpa using this⟩
theorem vOk_vr {g : GG} (hfa : g.fa = faN) (hca : g.ca = caK) {F : FM} {ρ : RM} {v : V} {y : Value} (h : vOk v y = true) : VR g F ρ y v := by
  cases v with
  | int i => obtain ⟨t, rfl⟩ := intOfV_of (eq_of_beq h); exact .int _ _
  | fn n => rw [refOf_of (eq_of_beq h), ← hfa]; exact .fn _
  | cls k => rw [refOf_of (eq_of_beq h), ← hca]; exact .cls _
  | _ => exact absurd h Bool.false_ne_true
theorem isVal_iff {c : Option CFound} {a : Addr} (h : isVal c a = true) : c = some (.val (.ref a)) := by
  obtain ⟨f, e1, h⟩ := someB_of h
  obtain ⟨x, e, h⟩ := someB_of h
  rw [e1, valOf_of e, refOf_of (eq_of_beq h)]
theorem gOk_of {g : GG} (hfa : g.fa = faN) (hca : g.ca = caK) (h1 : globsB g.K = true) (h2 : hobB g.K = true) : GOk g glob0 := by
  unfold hobB at h2
  have e1 := isRef_iff (b1 h2); have h2 := b2 h2
  have e2 := isBlt_iff (b1 h2); have h2 := b2 h2
  have e3 := b1 h2; have h2 := b2 h2
  have e4 := isVal_iff (b1 h2); have e5 := b2 h2
  refine ⟨fun x v h => ?_, ⟨164, e1, fun A s pl Q E X hQ => ?_⟩, fun x hx => isAbs_iff (List.all_eq_true.mp e5 x hx)⟩
  · have hm := mem_of_lookup (show globs.lookup x = some v from h)
    have := List.all_eq_true.mp h1 _ hm
    obtain ⟨o, e6, this⟩ := someB_of this
    obtain ⟨y, e7, this⟩ := someB_of this
    exact ⟨y, by rw [e6, e7], fun F ρ => vOk_vr hfa hca this⟩
  · refine method_cls X e2 ?_
    rw [hfa] at hQ
    exact cls_value (mc := .type "type") (v := .ref 161) X e3 e4 rfl (hQ _)
theorem allN_eq {α : Type} {f k : Nat → MF → α} : ∀ {l : List MF} {n : Nat}, allN f n l = allN k n l → ∀ {i : Nat} {mf : MF}, l[i]? = some mf → f (n + i) mf = k (n + i) mf
  | [], _, _, _, _, h => nomatch h
  | _ :: _, _, e, 0, _, h => by cases h; exact (List.cons.inj e).1
  | _ :: _, n, e, i + 1, _, h => by have := allN_eq (List.cons.inj e).2 h; rwa [Nat.add_assoc, Nat.add_comm 1 i] at this
theorem allN_all {f : Nat → MF → Bool} : ∀ {l : List MF} {n : Nat}, (allN f n l).all id = true → ∀ {i : Nat} {mf : MF}, l[i]? = some mf → f (n + i) mf = true
  | [], _, _, _, _, h => nomatch h
  | _ :: _, _, e, 0, _, h => by cases h; exact b1 e
  | _ :: _, n, e, i + 1, _, h => by have := allN_all (b2 e) h; rwa [Nat.add_assoc, Nat.add_comm 1 i] at this
theorem tabOk_of {g : GG} (hfa : g.fa = faN) (htab : g.tab = tab0) (h : (allN (fnB g.K) 0 fnL).all id = true) (hb : allN (fun n _ => bodyK g.K n) 0 fnL = allN bodyM 0 fnL) : TabOk g glob0 := by
  refine ⟨fun n mf hn => ?_, fun k n hn => ?_⟩
  · rw [htab] at hn
    have q := allN_all h (i := n) hn
    have q2 := allN_eq hb (i := n) hn
    rw [Nat.zero_add] at q q2
    exact fnAt_of hfa q q2
  · rw [htab] at hn
    cases k <;> first | rfl | exact ns hn
end Mine
end
section
open PySem PySem.W PyProof.Rows PySem.Calls PySem.SeqAt
set_option maxRecDepth 100000
namespace Mine
noncomputable def st0 : St := fun _ => []
noncomputable def DEP : Nat := 30
theorem noOwn (ρ : RM) {b : Addr} : ¬ Own ρ st0 b := by
  rintro ⟨k, i, O, p, h, _⟩
  exact nomatch h
theorem rel0 {g : GG} : Rel g (fun b => g.base.get? b) (fun _ => []) st0 g.base := by
  refine ⟨fun b o h => h, fun b o h => h, fun k => rfl, (fun k i O p h => nomatch h), fun b h => absurd h (noOwn _), fun k i k' i' b h => ?_⟩
  exact absurd ⟨k, i, h⟩ (noOwn _)
theorem vsr_ints {g : GG} {F : FM} {ρ : RM} : ∀ {xs : List Value} {is : List Int}, IntsAre xs is → VsR g F ρ xs (is.map V.int)
  | _, _, .nil => .nil
  | _, _, .cons _ _ h => .cons (.int _ _) (vsr_ints h)
noncomputable def LawTrue : Prop := ∀ is : List Int, is.length ≤ 63 → ∃ σ', callD tab0 (DEP + 1) (.fn 41) [.lst (is.map V.int)] st0 = some (.bool true, σ')
theorem room0 : Room callerA (DEP + 1) := ⟨rfl, by decide +kernel, by decide +kernel⟩
theorem well_list {P : Params} {h : Heap} {a : Addr} {xs : List Value} {ds : WData} (w : Well P h (.ref a) ds) (hL : h.IsList a xs.toArray) (hd : ∃ l, ds = .list l) : h.get? a = some (listO xs 0) := by
  obtain ⟨l, rfl⟩ := hd
  cases w with
  | list h1 h2 =>
    obtain ⟨o, h3, _, n, h4⟩ := hL
    rw [h1] at h3
    cases h3
    simp only [Data.seq.injEq] at h4
    have := congrArg Array.toList h4.1
    simp at this
    rw [h1, this]
theorem lawTrue : LawTrue := fun is h => law_eval is h 29 (by lia)
theorem join2 {prog : Program} {w : World} {s : Shared} {mg mb : Str → Option Value} {p : Program} {loose : List Str} {K : Frag} (X : K.In s.heap) (hK : chkK K = true) (hB : allN (fun n _ => bodyK K n) 0 fnL = allN bodyM 0 fnL) (T : TopRead p loose mg mb s.heap) {a : Addr} {xs : List Value} {is : List Int}
    (hl : s.heap.get? a = some (listO xs 0)) (hi : IntsAre xs is) (hn : is.length ≤ 63) {R' : Result → Shared → Prop}
    (hQ : ∀ h' tk, (∀ b o, s.heap.get? b = some o → h'.get? b = some o) → R' (.ok (.ret (.bool true))) { s with heap := h', toks := tk }) :
    codeAny (model prog w) callerA (.call (.ref 375) ⟨[.ref a], []⟩) R' s := by
  obtain ⟨σ', he⟩ := lawTrue is hn
  let g : GG := ⟨prog, w, K, s.heap, mg, mb, p, loose, X, T, faN, caK, tab0⟩
  have hK := b2 hK
  have k1 := b1 hK; have hK := b2 hK
  have k2 := b1 hK; have hK := b2 hK
  have k3 := b1 hK; have hK := b2 hK
  have k4 := b1 hK; have hK := b2 hK
  have k5 := b1 hK; have k6 := b2 hK
  have C : ∀ k, isInstKd k = true → ClsOk g k := fun k hk => by
    cases k <;> first | exact absurd hk (by decide) | exact clsOk_of rfl rfl rfl k3 | exact clsOk_of rfl rfl rfl k4 | exact clsOk_of rfl rfl rfl k5
  have hxl := hi.length
  have GO : GOk g glob0 := gOk_of rfl rfl k1 k2
  have TO : TabOk g glob0 := tabOk_of rfl rfl k6 hB
  refine (fn_case (g := g) (n := 41) (xs := [.ref a]) GO C TO (callOk GO C TO DEP) room0 (rel0 (g := g)) (.cons (.lst (n := 0) hl (vsr_ints hi) (by rw [List.length_map]; exact Nat.le_trans hn (by decide))) .nil) he).2 R' fun y F' ρ' h' tk R' E' V' => ?_
  have := V'.bool_inv; subst this
  exact hQ h' tk fun b o e => E'.keep b o e (noOwn _) (fun q => q)
noncomputable abbrev theLaw : OpenLaw := PySem.Challenge.rw_sa0467_01
theorem and_t {a b : Bool} (h : a = true) (k : b = true) : (a && b) = true := by rw [h, k]; rfl
theorem s0 : (theLaw.row.wellSaid) = true := by rw [Fast.te17960256430627541270]; kernel_rfl
theorem s1 : (decide (theLaw.foot ≤ (behindTheImports theLaw.prog).length)) = true := by kernel_rfl
theorem s2 : (theLaw.footing.all footLine) = true := by rw [Fast.te10501279942588096481]; kernel_rfl
theorem s3 : (noClassBlock theLaw.prog theLaw.footing) = true := by rw [Fast.te8179353310426384613]; kernel_rfl
theorem s4 : (theLaw.most.all (fun n => decide (63 ≤ n))) = true := by kernel_rfl
theorem s5 : (theLaw.bound.all (fun n => decide (2 ^ 63 ≤ n))) = true := by kernel_rfl
theorem s6 : (noRoadLSs { strict := true, foot := some theLaw.bound', writes := theLaw.writes, may := theLaw.may } theLaw.footing) = true := by rw [Fast.te8326940854005059898]; kernel_rfl
theorem s7 : (defStands theLaw.about theLaw.above) = true := by rw [Fast.te9558739934217749035]; kernel_rfl
theorem s8 : (theLaw.namesIt) = true := by rw [Fast.te16286561074155671207]; kernel_rfl
theorem s9 : ((["type", "isinstance", "issubclass", "getattr", "hasattr"] : List Str).all (fun n => theLaw.about != [n])) = true := by kernel_rfl
theorem s10 : (theLaw.bound'.all (fun n => !builtinNamed n || theLaw.about == [n] || !theLaw.reads n)) = true := by kernel_rfl
theorem s11 : ((!theLaw.writes || (theLaw.prog.main.body.flatMap importedNames).all fun n => !theLaw.reads n)) = true := by kernel_rfl
theorem s12 : ((theLaw.prog.main.body.flatMap importedNames).all (fun n => !theLaw.reads n || (drawsOf n theLaw.prog.main.body).all fun mn => mn.2 != ("attrgetter" : Str) && mn.2 != ("methodcaller" : Str))) = true := by kernel_rfl
theorem s13 : (namesMeet theLaw.prog theLaw.footing (fun sc n => (!(["type", "isinstance", "issubclass", "getattr", "hasattr"] : List Str).contains n || sc.names.lookup n == some .globalImplicit) &&
    (theLaw.may != some n || sc.kind == .module || sc.names.lookup n == some .globalImplicit))) = true := by rw [Fast.te17119622794617984870]; kernel_rfl
theorem s14 : (theLaw.own.contains theLaw.name) = true := by kernel_rfl
theorem s15 : (theLaw.own.eraseDups.length == theLaw.own.length) = true := by kernel_rfl
theorem s16 : (theLaw.own.all (fun n => !builtinNamed n)) = true := by kernel_rfl
theorem s17 : (namesMeet theLaw.prog theLaw.above (fun _ n => !theLaw.own.contains n)) = true := by rw [Fast.te17119622794617984870]; kernel_rfl
theorem s18 : (namesMeet theLaw.prog theLaw.footing fun sc n => sc.kind == .module || sc.names.lookup n != some .globalExplicit) = true := by rw [Fast.te17119622794617984870]; kernel_rfl
theorem said0 : PySem.Challenge.rw_sa0467_01.wellSaid = true := by
  unfold OpenLaw.wellSaid
  exact and_t (and_t (and_t (and_t (and_t (and_t (and_t (and_t (and_t (and_t (and_t (and_t (and_t (and_t (and_t (and_t (and_t (and_t s0 s1) s2) s3) s4) s5) s6) s7) s8) s9) s10) s11) s12) s13) s14) s15) s16) s17) s18
theorem plain0 : (!theRow.writes || theRow.records.isEmpty) = true := by kernel_rfl
theorem opens0 : (chainsOk theView && opensWell theRow.prog && (frees theRow.toRowW && theRow.within.isEmpty)) = true := by kernel_rfl
end Mine
end
open PySem PySem.W PyProof.Rows PySem.Calls PySem.SeqAt
set_option maxRecDepth 100000
set_option maxHeartbeats 8000000 in
theorem PySem.Challenge.cw_sa0467_01_holds : PySem.Challenge.rw_sa0467_01.Holds := by
  w_on
  refine holds_law Mine.said0 fun said => ?_
  refine holds_open (q := Mine.theView) (loose := ["HeapObject", "UpVal"]) (Xt := Mine.theXt) (XP := XL Mine.theView []) (N := 5032) Mine.left Mine.myHook.of Mine.myHook.keeps (fun s e => xl_of s (Bool.and_eq_true_iff.mp e).1) XL.keeps (by rfl) (by rfl) (by rfl) (fun s e => recFacts_of (Bool.and_eq_true_iff.mp e).2) Mine.plain0 said Mine.opens0 ⟨rfl, rfl, rfl, rfl, rfl, by decide +kernel⟩ ?hw ?hc
  case hw => w_witness2
  case hc =>
    w_strict (
      intro w s₀ s₁ mg mb G Y fa o pm cd doc dV kV ho hd hcd hD hmg hg args vals as hpre hlay hrd hwl hlo
      obtain ⟨K, KX, hK, hB⟩ := Y
      have X := (Ground.X G).1
      have V := (Ground.X G).2
      refine Ground.open G ?_
      intro T B D TE TW
      try (refine guard_noD D (by decide +kernel) ?_; clear D)
      have h375 : fa = 375 := by
        have e := mg_of KX T.g (Mine.isRef_iff (Mine.b1 hK))
        have e2 : mg (PySem.Str.ofString "law") = some (.ref fa) := hmg
        rw [e] at e2
        cases e2; rfl
      clear hmg ho hd hcd hD
      subst h375
      wrow_args hpre hlay hrd hwl hlo
      all_goals (
        (first | refine callC_kw (enter_call ?_) | refine enter_call ?_ | refine callC_kw (enter_callW ?_) | refine enter_callW ?_ | w_how)
        try refine codeAny_mono ?_ (fun _ _ g => GoodW.toG g)
        rename_i is _ _ _ _ _ _ _ a xs _ hL _ w1 _ hI _ hlen _
        refine Mine.join2 KX hK hB (topRead_of T) (Mine.well_list w1 hL ⟨_, rfl⟩) hI (by lia) fun h' tk hk => ?_
        refine ⟨.inl ⟨_, _, _, rfl, fun cls => rfl, ReadsW.bool true, ?_, fun _ => ⟨by simp, by simp⟩⟩, hk, rfl, hg⟩
        first | kernel_rfl | law_fin | (with_unfolding_all decide)))
